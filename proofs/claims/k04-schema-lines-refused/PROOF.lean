import PyProof.Rows.All
import Wide.All
import OpenK.AllK
import Wide.FinOn
import HandS.ForMost
import HandS.ForExc
import HandS.IsInst
import HandS.Conv
import HandS.Codes
import HandS.Walk
import KE.KDictList
import KE.KCallOwn
import HandS.ListItems
import HandS.TupLe
import HandS.ExcInit
import HandS.ExcField
import HandS.ExcIs
import KE.KExcIs
import HandS.RaiseMore
import HandS.Deep
import HandS.More
import HandS.TryOnly
import HandS.ExcValue
import HandS.Defaults
import HandS.ClsMeth
import HandS.Flow
import HandS.CallSlots
import HandS.ReplaceLit
import PySem.Challenge.RW_ownersagree_k04_schema_lines_refused
set_option Elab.async false
set_option linter.all false
set_option maxRecDepth 100000
set_option synthInstance.maxHeartbeats 0
set_option synthInstance.maxSize 100000
set_option maxHeartbeats 4000000
namespace OA
open PySem PySem.Spec PyProof.Rows L2
/-! ### the heap in two tiers: G is what stands still, H is all -/
structure Stp (F : Addr → Prop) (G H G' H' : Hp) : Prop where
  gg : Same G G'
  gh : Same G' H'
  nw : ∀ b o, G' b = some o → G b = none → H b = none
  fr : ∀ b o, H b = some o → ¬ F b → H' b = some o
  al : ∀ b o, H b = some o → ∃ o', H' b = some o'
structure Cell (G H : Hp) (p : Addr) (o : HO) : Prop where
  at_ : H p = some o
  no : G p = none
abbrev F0 : Addr → Prop := fun _ => False
abbrev F2 (a b : Addr) : Addr → Prop := fun p => p = a ∨ p = b
section
variable {F F' : Addr → Prop} {G H G' H' G1 H1 G2 H2 : Hp} {p q : Addr} {o o' : HO}
theorem none_of (h : ∀ o, H p ≠ some o) : H p = none := by
  cases e : H p with
  | none => rfl
  | some o => exact absurd e (h o)
theorem Stp.refl (h : Same G H) : Stp F G H G H := ⟨Same.refl G, h, fun b o h1 h2 => absurd (h1.symm.trans h2) (fun z => nomatch z), fun _ _ h _ => h, fun _ o h => ⟨o, h⟩⟩
theorem Stp.trans (a : Stp F G H G1 H1) (b : Stp F G1 H1 G2 H2) : Stp F G H G2 H2 := by
  refine ⟨a.gg.trans b.gg, b.gh, fun c o h1 h2 => ?_, fun c o h hF => b.fr c o (a.fr c o h hF) hF, fun c o h => ?_⟩
  · cases e : G1 c with
    | some u => exact a.nw c u e h2
    | none =>
      have h3 := b.nw c o h1 e
      cases e2 : H c with
      | none => rfl
      | some u =>
        obtain ⟨u', e3⟩ := a.al c u e2
        rw [e3] at h3
        cases h3
  · obtain ⟨u, e⟩ := a.al c o h
    exact b.al c u e
theorem Stp.wide (a : Stp F G H G' H') (h : ∀ b, F b → F' b) : Stp F' G H G' H' := ⟨a.gg, a.gh, a.nw, fun b o e hF => a.fr b o e (fun z => hF (h b z)), a.al⟩
/-- what is new since the start does not count -/
theorem Stp.drop (a : Stp F G H G' H') (h : ∀ b, F b → F' b ∨ H b = none) : Stp F' G H G' H' := ⟨a.gg, a.gh, a.nw, fun b o e hF => a.fr b o e (fun z => by
  rcases h b z with h | h
  · exact hF h
  · rw [h] at e; cases e), a.al⟩
theorem Stp.cell (a : Stp F G H G' H') (c : Cell G H p o) (hF : ¬ F p) : Cell G' H' p o := by
  refine ⟨a.fr p o c.at_ hF, none_of fun u e => ?_⟩
  have := a.nw p u e c.no
  rw [c.at_] at this
  cases this
theorem Stp.new (a : Stp F G H G' H') (h : H' p = none) : H p = none := by
  cases e : H p with
  | none => rfl
  | some u =>
    obtain ⟨u', e'⟩ := a.al p u e
    rw [e'] at h
    cases h
/-- a new thing that stands still -/
theorem Stp.lay (h : Same G H) (hp : H p = none) (o : HO) : Stp F G H (upd G p o) (upd H p o) := by
  have gp : G p = none := h.free hp
  refine ⟨fun b u e => ?_, fun b u e => ?_, fun b u e h2 => ?_, fun b u e _ => ?_, fun b u e => ⟨u, ?_⟩⟩
  · rw [upd_ne (ne_of_none e gp)]; exact e
  · by_cases hb : b = p
    · subst hb; rw [upd_same] at e ⊢; exact e
    · rw [upd_ne hb] at e ⊢; exact h b u e
  · by_cases hb : b = p
    · subst hb; exact hp
    · rw [upd_ne hb, h2] at e; cases e
  · rw [upd_ne (ne_of_none e hp)]; exact e
  · rw [upd_ne (ne_of_none e hp)]; exact e
/-- a new thing that may change -/
theorem Stp.put (h : Same G H) (hp : H p = none) (o : HO) : Stp F G H G (upd H p o) := by
  refine ⟨Same.refl G, fun b u e => ?_, fun b u e h2 => ?_, fun b u e _ => ?_, fun b u e => ⟨u, ?_⟩⟩
  · rw [upd_ne (ne_of_none (h b u e) hp)]; exact h b u e
  · rw [e] at h2; cases h2
  · rw [upd_ne (ne_of_none e hp)]; exact e
  · rw [upd_ne (ne_of_none e hp)]; exact e
theorem Cell.new (h : Same G H) (hp : H p = none) (o : HO) : Cell G (upd H p o) p o := ⟨upd_same, h.free hp⟩
/-- a change -/
theorem Stp.write (h : Same G H) (c : Cell G H p o) (hF : F p) (u : HO) : Stp F G H G (upd H p u) := by
  refine ⟨Same.refl G, fun b v e => ?_, fun b v e h2 => ?_, fun b v e hn => ?_, fun b v e => ?_⟩
  · rw [upd_ne (ne_of_none e c.no)]; exact h b v e
  · rw [e] at h2; cases h2
  · rw [upd_ne (fun z => hn (by rw [z]; exact hF))]; exact e
  · by_cases hb : b = p
    · exact ⟨u, by rw [hb, upd_same]⟩
    · exact ⟨v, by rw [upd_ne hb]; exact e⟩
/-- a change of what is new since the start -/
theorem Stp.loc (s : Stp F G H G1 H1) (c : Cell G1 H1 p o) (hp : H p = none) (u : HO) : Stp F G H G1 (upd H1 p u) := by
  refine ⟨s.gg, fun b v e => ?_, s.nw, fun b v e hn => ?_, fun b v e => ?_⟩
  · rw [upd_ne (ne_of_none e c.no)]; exact s.gh b v e
  · rw [upd_ne (ne_of_none e hp)]; exact s.fr b v e hn
  · rw [upd_ne (ne_of_none e hp)]; exact s.al b v e
theorem Cell.set (c : Cell G H p o) (u : HO) : Cell G (upd H p u) p u := ⟨upd_same, c.no⟩
theorem Cell.off (c : Cell G H p o) (h : p ≠ q) (u : HO) : Cell G (upd H q u) p o := ⟨by rw [upd_ne h]; exact c.at_, c.no⟩
theorem same_loc (s : Same H H1) (hp : H p = none) (u : HO) : Same H (upd H1 p u) := fun b o e => by rw [upd_ne (ne_of_none e hp)]; exact s b o e
theorem Stp.same (h : Same G H) (s : Same H H') : Stp F G H G H' := ⟨Same.refl G, h.trans s, fun b o h1 h2 => absurd (h1.symm.trans h2) (fun z => nomatch z), fun b o e _ => s b o e, fun b o e => ⟨o, s b o e⟩⟩
/-- a thing that was new since the start stands still from now on -/
theorem Stp.freeze (a : Stp F G H G' H') (c : Cell G' H' p o) (hp : H p = none) : Stp F G H (upd G' p o) H' := by
  refine ⟨fun b u e => ?_, fun b u e => ?_, fun b u e h2 => ?_, a.fr, a.al⟩
  · rw [upd_ne (ne_of_none (a.gg b u e) c.no)]; exact a.gg b u e
  · by_cases hb : b = p
    · subst hb; rw [upd_same] at e; cases e; exact c.at_
    · rw [upd_ne hb] at e; exact a.gh b u e
  · by_cases hb : b = p
    · subst hb; exact hp
    · rw [upd_ne hb] at e; exact a.nw b u e h2
/-- all of L that was new since the start stands still from now on -/
def frzL (G H : Hp) (L : List Addr) : Hp := fun b => if b ∈ L then H b else G b
theorem frzL_in {L : List Addr} (h : p ∈ L) (e : H p = some o) : frzL G H L p = some o := by unfold frzL; rw [if_pos h]; exact e
theorem frzL_out {L : List Addr} (h : p ∉ L) : frzL G H L p = G p := by unfold frzL; rw [if_neg h]
theorem frzL_sub {L : List Addr} (s : Same G H) : Same G (frzL G H L) := fun b u e => by
  by_cases hb : b ∈ L
  · exact frzL_in hb (s b u e)
  · rw [frzL_out hb]; exact e
theorem Stp.freezeL (a : Stp F G H G' H') {L : List Addr} (hL : ∀ b ∈ L, H b = none) : Stp F G H (frzL G' H' L) H' := by
  refine ⟨a.gg.trans (frzL_sub a.gh), fun b u e => ?_, fun b u e h2 => ?_, a.fr, a.al⟩
  · by_cases hb : b ∈ L
    · unfold frzL at e; rw [if_pos hb] at e; exact e
    · rw [frzL_out hb] at e; exact a.gh b u e
  · by_cases hb : b ∈ L
    · exact hL b hb
    · rw [frzL_out hb] at e; exact a.nw b u e h2
theorem Cell.frzL {L : List Addr} (c : Cell G H p o) (h : p ∉ L) : Cell (OA.frzL G H L) H p o := ⟨c.at_, by rw [frzL_out h]; exact c.no⟩
theorem Same.lay (h : G p = none) (o : HO) : Same G (upd G p o) := fun b u e => by rw [upd_ne (ne_of_none e h)]; exact e
theorem Cell.lay (c : Cell G H p o) (h : p ≠ q) (u : HO) : Cell (upd G q u) H p o := ⟨c.at_, by rw [upd_ne h]; exact c.no⟩
theorem Cell.ne (c : Cell G H p o) (d : H q = none) : p ≠ q := ne_of_none c.at_ d
theorem Stp.fresh (a : Stp F G H G' H') (h : H p = none) (c : Cell G' H' q o) (hq : H q = some o') : q ≠ p := ne_of_none hq h
end
theorem Same.sqL {K : PySem.W.Frag} {H H' : Hp} {a : Addr} {xs : List V} (e : Same H H') (h : H a = some (.lst xs)) : SqL K H' a xs := SqL.of (e a _ h)

/-! ### data: lists of texts, lists of lists of texts, of ints -/
def Ss (G : Hp) (v : V) (xs : List Str) : Prop := ∃ a, v = .ref a ∧ G a = some (.lst (xs.map V.str))
def Si (G : Hp) (v : V) (xs : List Int) : Prop := ∃ a, v = .ref a ∧ G a = some (.lst (xs.map V.int))
def Sss (G : Hp) (v : V) (xss : List (List Str)) : Prop := ∃ a as, v = .ref a ∧ G a = some (.lst (as.map V.ref)) ∧ Paired (fun p xs => G p = some (.lst (xs.map V.str))) as xss
theorem Ss.mono {G G' : Hp} {v : V} {xs : List Str} (s : Same G G') (h : Ss G v xs) : Ss G' v xs := by
  obtain ⟨a, e, h⟩ := h
  exact ⟨a, e, s a _ h⟩
theorem Si.mono {G G' : Hp} {v : V} {xs : List Int} (s : Same G G') (h : Si G v xs) : Si G' v xs := by
  obtain ⟨a, e, h⟩ := h
  exact ⟨a, e, s a _ h⟩
theorem Sss.mono {G G' : Hp} {v : V} {xs : List (List Str)} (s : Same G G') (h : Sss G v xs) : Sss G' v xs := by
  obtain ⟨a, as, e, h, p⟩ := h
  exact ⟨a, as, e, s a _ h, Paired.mapP p fun p xs h => s p _ h⟩

/-! ### the drawing state of a law -/
def StAt (G H : Hp) (st inn : Addr) : Prop := ∃ (cs : List Int) (a b c : Int), Cell G H st (.lst [.ref inn, .int a, .int b, .int c]) ∧ Cell G H inn (.lst (cs.map V.int)) ∧ (∀ x ∈ cs, 0 ≤ x) ∧ 0 ≤ a ∧ 0 ≤ b ∧ 0 ≤ c
theorem StAt.off {G H : Hp} {st inn : Addr} (h : StAt G H st inn) {p : Addr} (hp : H p = none) : ¬ F2 st inn p := by
  obtain ⟨cs, a, b, c, h1, h2, _⟩ := h
  rintro (e | e)
  · subst e; rw [h1.at_] at hp; cases hp
  · subst e; rw [h2.at_] at hp; cases hp
theorem StAt.keep {G H G' H' : Hp} {st inn : Addr} {F : Addr → Prop} (h : StAt G H st inn) (s : Stp F G H G' H') (h1 : ¬ F st) (h2 : ¬ F inn) : StAt G' H' st inn := by
  obtain ⟨cs, a, b, c, x, y, z⟩ := h
  exact ⟨cs, a, b, c, s.cell x h1, s.cell y h2, z⟩
theorem StAt.keep0 {G H G' H' : Hp} {st inn : Addr} (h : StAt G H st inn) (s : Stp F0 G H G' H') : StAt G' H' st inn := h.keep s id id
theorem StAt.new {G H : Hp} {st inn : Addr} (h : StAt G H st inn) {p : Addr} (hp : H p = none) (hs : Same G H) (o : HO) : StAt G (upd H p o) st inn := h.keep0 (Stp.put hs hp o)
theorem StAt.write {G H : Hp} {st inn : Addr} (h : StAt G H st inn) {p : Addr} (hp : ¬ F2 st inn p) (o : HO) : StAt G (upd H p o) st inn := by
  obtain ⟨cs, a, b, c, x, y, z⟩ := h
  exact ⟨cs, a, b, c, x.off (fun e => hp (.inl e.symm)) o, y.off (fun e => hp (.inr e.symm)) o, z⟩
theorem StAt.frz {G H : Hp} {st inn : Addr} (h : StAt G H st inn) {p : Addr} (hp : ¬ F2 st inn p) (o : HO) : StAt (upd G p o) H st inn := by
  obtain ⟨cs, a, b, c, x, y, z⟩ := h
  exact ⟨cs, a, b, c, x.lay (fun e => hp (.inl e.symm)) o, y.lay (fun e => hp (.inr e.symm)) o, z⟩

theorem StAt.frzL {G H : Hp} {st inn : Addr} (h : StAt G H st inn) {L : List Addr} (hL : ∀ b ∈ L, ¬ F2 st inn b) : StAt (OA.frzL G H L) H st inn := by
  obtain ⟨cs, a, b, c, x, y, z⟩ := h
  exact ⟨cs, a, b, c, x.frzL (fun m => hL st m (.inl rfl)), y.frzL (fun m => hL inn m (.inr rfl)), z⟩
/-! ### a def of the top that is called by its name -/
structure Callee (P : Program) (w : World) (K : PySem.W.Frag) (mg : Str → Option Value) (base : Heap) (x : Str) (ps : List Str) (sp : Sp) (k : Nat) : Prop where
  ex : ∃ f fd, FnOk P w K mg base CX0 k f fd ps sp ∧ Binds K fd ps [] ∧ mg x = some (.ref f) ∧ PySem.W.keepIn K (.ref f) = true
theorem pe_co {X : Cx} {x : Str} {ps : List Str} {sp : Sp} {k j : Nat} {e : Expr} {es : List Expr} {t : TA} {p pos : Pos} (c : Callee X.prog X.w X.K X.mg X.base x ps sp k) (hr : Room j X.A) (hk : k ≤ j) (hg : Gl X x) (ha : PA X (e :: es) t)
    (hdb : (x == ("__debug__" : Str)) = false := by decide) (he : starEach (e :: es) X.env = (false, eval e X.env) :: starEach es X.env := by rfl) (hpl : (backTo pos (starEach es X.env)).any (·.1) = false := by rfl) :
    PE X (.Call (.Name x p) (e :: es) [] pos) (tCall sp [] E0 t) := by
  obtain ⟨f, fd, F, b, m, kp⟩ := c.ex
  exact pe_call F (hr.mono hk) hg m kp b .nil pass0 ha hdb he hpl
/-- a class of the top with its __init__ -/
structure Maker (P : Program) (w : World) (K : PySem.W.Frag) (mg : Str → Option Value) (base : Heap) (x : Str) (C : Addr) (ps : List Str) (sp : Sp) (k : Nat) : Prop where
  ex : ∃ f fd, FnOk P w K mg base CX0 k f fd ps sp ∧ Binds K fd ps [] ∧ mg x = some (.ref C) ∧ Mk K C f
theorem pe_mk {X : Cx} {x : Str} {C : Addr} {ps : List Str} {sp : Sp} {k j : Nat} {e : Expr} {es : List Expr} {t : TA} {p pos : Pos} (c : Maker X.prog X.w X.K X.mg X.base x C ps sp k) (hr : Room j X.A) (hk : k + 1 ≤ j) (hg : Gl X x) (ha : PA X (e :: es) t)
    (hdb : (x == ("__debug__" : Str)) = false := by decide) (he : starEach (e :: es) X.env = (false, eval e X.env) :: starEach es X.env := by rfl) (hpl : (backTo pos (starEach es X.env)).any (·.1) = false := by rfl) :
    PE X (.Call (.Name x p) (e :: es) [] pos) (tMake C sp [] E0 t) := by
  obtain ⟨f, fd, F, b, m, M⟩ := c.ex
  exact pe_make M F (hr.mono hk) hg m b .nil pass0 ha hdb he hpl
/-- a method of a class of the top -/
structure Method (P : Program) (w : World) (K : PySem.W.Frag) (mg : Str → Option Value) (base : Heap) (C : Addr) (m : Str) (ps : List Str) (sp : Sp) (k : Nat) : Prop where
  ex : ∃ f fd, FnOk P w K mg base CX0 k f fd ps sp ∧ Binds K fd ps [] ∧ Cls K C ∧ Meth K C m f
theorem pe_mo0 {X : Cx} {C : Addr} {m : Str} {ps : List Str} {sp : Sp} {k j : Nat} {o : Expr} {ta : TE} {apos pos : Pos} {pl : Sem Bool} (c : Method X.prog X.w X.K X.mg X.base C m ps sp k) (hr : Room j X.A) (hk : k ≤ j) (he : PE X o ta)
    (ht : eval (.Call (.Attribute o m apos) [] [] pos) X.env = (do
      let ov ← eval o X.env
      standAt apos.atName
      let (f, first) ← holding [ov] (getMethod ov m pl)
      callWith pos f first (backTo pos (starEach [] X.env)) (backToKw pos (keywordEach [] X.env))) := by rfl) :
    PE X (.Call (.Attribute o m apos) [] [] pos) (tMeth C m sp [] E0 ta tNil) := by
  obtain ⟨f, fd, F, b, cl, M⟩ := c.ex
  exact pe_meth0 he cl M F (hr.mono hk) b .nil pass0 ht
theorem Callee.mono {P : Program} {w : World} {K : PySem.W.Frag} {mg : Str → Option Value} {base : Heap} {x : Str} {ps : List Str} {sp : Sp} {j k : Nat} (c : Callee P w K mg base x ps sp j) (h : j ≤ k) : Callee P w K mg base x ps sp k := by
  obtain ⟨f, fd, F, r⟩ := c.ex
  exact ⟨f, fd, F.mono h, r⟩

/-! ### rules that lacked -/
section
variable {X : Cx}
theorem pe_gstr {x : Str} {z : Str} {pos : Pos} (h : ∃ t, X.mg x = some (.str z t)) (hg : Gl X x := by rfl) (hd : (x == ("__debug__" : Str)) = false := by decide) : PE X (.Name x pos) (tC (.str z)) := by
  obtain ⟨t, h⟩ := h
  exact pe_glob hg h ⟨t, rfl⟩ hd
theorem pe_gint {x : Str} {z : Int} {pos : Pos} (h : ∃ t, X.mg x = some (.int z t)) (hg : Gl X x := by rfl) (hd : (x == ("__debug__" : Str)) = false := by decide) : PE X (.Name x pos) (tC (.int z)) := by
  obtain ⟨t, h⟩ := h
  exact pe_glob hg h ⟨t, rfl⟩ hd
/-! operators with plain readings -/
def rAddI : R2 := fun x y H Q => ∃ i j, x = .int i ∧ y = .int j ∧ Q (.int (i + j)) H
def rSubI : R2 := fun x y H Q => ∃ i j, x = .int i ∧ y = .int j ∧ Q (.int (i - j)) H
def rMulI : R2 := fun x y H Q => ∃ i j, x = .int i ∧ y = .int j ∧ ((-(2 ^ 64) < i ∧ i < 2 ^ 64) ∨ (-(2 ^ 64) < j ∧ j < 2 ^ 64)) ∧ Q (.int (i * j)) H
def rModI : R2 := fun x y H Q => ∃ i j, x = .int i ∧ y = .int j ∧ 0 < j ∧ Q (.int (i % j)) H
def rDivI : R2 := fun x y H Q => ∃ i j, x = .int i ∧ y = .int j ∧ (0 < j ∧ j < 1073741824) ∧ Q (.int (i / j)) H
def rPowI : R2 := fun x y H Q => ∃ i j, x = .int i ∧ y = .int j ∧ (0 ≤ j ∧ j ≤ 1000000 ∧ i.natAbs < 2 ^ 64) ∧ Q (.int (i ^ j.toNat)) H
def rLtI : R2 := fun x y H Q => ∃ i j, x = .int i ∧ y = .int j ∧ Q (.bl (decide (i < j))) H
def rLeI : R2 := fun x y H Q => ∃ i j, x = .int i ∧ y = .int j ∧ Q (.bl (decide (i ≤ j))) H
def rGtI : R2 := fun x y H Q => ∃ i j, x = .int i ∧ y = .int j ∧ Q (.bl (decide (j < i))) H
def rGeI : R2 := fun x y H Q => ∃ i j, x = .int i ∧ y = .int j ∧ Q (.bl (decide (j ≤ i))) H
theorem o_add : OpR X (binaryOp .Add) rAddI := op_add
theorem o_sub : OpR X (binaryOp .Sub) rSubI := op_sub
theorem o_mul : OpR X (binaryOp .Mult) rMulI := op_mul
theorem o_mod : OpR X (binaryOp .Mod) rModI := op_mod
theorem o_fdiv : OpR X (binaryOp .FloorDiv) rDivI := op_fdiv
theorem o_pow : OpR X (binaryOp .Pow) rPowI := op_pow
theorem o_lt : OpR X (compareOp .Lt) rLtI := op_lt
theorem o_le : OpR X (compareOp .LtE) rLeI := op_le
theorem o_gt : OpR X (compareOp .Gt) rGtI := op_gt
theorem o_ge : OpR X (compareOp .GtE) rGeI := op_ge
def rAbsI : List V → Hp → VK → Prop := fun xs H Q => ∃ i, xs = [.int i] ∧ Q (.int (if i < 0 then -i else i)) H
theorem c_abs : CallR X (.builtin "abs") rAbsI := call_abs
def rIntI : List V → Hp → VK → Prop := fun xs H Q => (∃ i, xs = [.int i] ∧ Q (.int i) H) ∨ ∃ k, xs = [.bl k] ∧ Q (.int (if k then 1 else 0)) H
theorem c_int : CallR X (.type "int") rIntI := call_int1
def rLenL (K : PySem.W.Frag) : List V → Hp → VK → Prop := fun xs H Q => ∃ p ys, xs = [.ref p] ∧ (SqL K H p ys ∨ SqT K H p ys) ∧ Q (.int ys.length) H
theorem c_len (K : PySem.W.Frag) (h : X.K = K := by rfl) : CallR X (.builtin "len") (rLenL K) := by subst h; exact call_len_seq
def rLenT : List V → Hp → VK → Prop := fun xs H Q => ∃ z, xs = [.str z] ∧ z.length ≤ sizeLine ∧ Q (.int z.length) H
theorem c_lenS : CallR X (.builtin "len") rLenT := call_len_str
def rListO (K : PySem.W.Frag) : List V → Hp → VK → Prop := fun xs H Q => ∃ p ys, xs = [.ref p] ∧ (SqL K H p ys ∨ SqT K H p ys) ∧ ∀ l, H l = none → Q (.ref l) (upd H l (.lst ys))
theorem c_list (K : PySem.W.Frag) (h : X.K = K := by rfl) : CallR X (.type "list") (rListO K) := by subst h; exact call_list_of
def rTupO (K : PySem.W.Frag) : List V → Hp → VK → Prop := fun xs H Q => ∃ p ys, xs = [.ref p] ∧ ((SqL K H p ys ∧ ∀ l, H l = none → Q (.ref l) (upd H l (.tup ys))) ∨ (SqT K H p ys ∧ Q (.ref p) H))
theorem c_tuple (K : PySem.W.Frag) (h : X.K = K := by rfl) : CallR X (.type "tuple") (rTupO K) := by subst h; exact call_tuple_of
theorem c_isi (K : PySem.W.Frag) (h : X.K = K := by rfl) : CallR X (.builtin "isinstance") (rIsi K) := by subst h; exact call_isi
theorem c_any (K : PySem.W.Frag) (h : X.K = K := by rfl) (hc : X.calm = true := by rfl) : CallR X (.builtin "any") (rAny K) := by subst h; exact cr_any hc
theorem c_all (K : PySem.W.Frag) (h : X.K = K := by rfl) (hc : X.calm = true := by rfl) : CallR X (.builtin "all") (rAll K) := by subst h; exact cr_all hc
theorem c_sortedS (K : PySem.W.Frag) (h : X.K = K := by rfl) : CallR X (.builtin "sorted") (rSortedS K) := by subst h; exact cr_sortedS
theorem ix_lst (K : PySem.W.Frag) (h : X.K = K := by rfl) : IxR X (rIxL K) := by subst h; exact ix_list
theorem ix_tpl (K : PySem.W.Frag) (h : X.K = K := by rfl) : IxR X (rIxT K) := by subst h; exact ix_tup
theorem sl_lst (K : PySem.W.Frag) (h : X.K = K := by rfl) : SlR X (rSlL K) := by subst h; exact sl_list
theorem sl_tpl (K : PySem.W.Frag) (h : X.K = K := by rfl) : SlR X (rSlT K) := by subst h; exact sl_tup
theorem o_in (K : PySem.W.Frag) (h : X.K = K := by rfl) : OpR X (compareOp .In) (rIn K false) := by subst h; exact op_in_seq
theorem o_notin (K : PySem.W.Frag) (h : X.K = K := by rfl) : OpR X (compareOp .NotIn) (rIn K true) := by subst h; exact op_notIn_seq
theorem o_eqD (K : PySem.W.Frag) (hu : X.A.units + 64 < cLine) (h : X.K = K := by rfl) : OpR X (compareOp .Eq) (rEqD K) := by subst h; exact op_eqD hu
theorem o_neD (K : PySem.W.Frag) (hu : X.A.units + 64 < cLine) (h : X.K = K := by rfl) : OpR X (compareOp .NotEq) (rNeD K) := by subst h; exact op_neD hu
theorem m_index (K : PySem.W.Frag) (h : X.K = K := by rfl) : MtR X "list.index" (rIndex K) := by subst h; exact mt_index
theorem i_list (K : PySem.W.Frag) {tg l : Expr} {tl : TE} (hl : PE X l tl) (h : X.K = K := by rfl) : PI X tg l (iList K tl) := by subst h; exact pi_list hl
theorem i_tup (K : PySem.W.Frag) {tg l : Expr} {tl : TE} (hl : PE X l tl) (h : X.K = K := by rfl) : PI X tg l (iTup K tl) := by subst h; exact pi_tup hl
theorem e_fld (K : PySem.W.Frag) {e : Expr} {f : Str} {ta : TE} {pos : Pos} (he : PE X e ta) (hb : attributeBase e f X.env (eval e X.env) = eval e X.env) (h : X.K = K := by rfl) : PE X (.Attribute e f pos) (tFld K ta f) := by subst h; exact pe_fld he hb
theorem g_tup (K : PySem.W.Frag) {es : List Expr} {k : Nat} {t : TGs} {n : Nat} {pos : Pos} (hc : X.calm = true) (hg : PGs X es t) (hn : (assignEach es X.env).length = n := by rfl) (hst : (assignEach es X.env).findIdx? (·.1) = none := by rfl) (h : X.K = K := by rfl) : PG X (.Tuple es k pos) (gTup K n t) := by
  subst h
  exact pg_tup hc hg hn hst
def tTruth (K : PySem.W.Frag) (ta : TE) : TT := fun σ H Q => ta σ H fun x H' => ∃ k, TruV K x H' k ∧ Q k H'
theorem t_truth (K : PySem.W.Frag) {a : Expr} {ta : TE} (ha : PE X a ta) (he : ∀ whole, isTrue a X.env whole = (do let v ← whole; standAt a.pos; holding [v] (truthy v))) (h : X.K = K := by rfl) : PT X a (tTruth K ta) := by
  subst h
  exact pt_truth ha he
def rJoin (K : PySem.W.Frag) : V → List V → Hp → VK → Prop := fun x xs H Q => ∃ a p, ∃ ys : List Str, x = .str a ∧ xs = [.ref p] ∧ (SqL K H p (ys.map V.str) ∨ SqT K H p (ys.map V.str)) ∧ (ys.map (·.length)).sum + ys.length * a.length ≤ 16777216 ∧ Q (.str (Txt.join a ys)) H
theorem e_join (K : PySem.W.Frag) {o e : Expr} {to te : TE} {apos pos : Pos} (ho : PE X o to) (he : PE X e te) (hs : starEach [e] X.env = [(false, eval e X.env)] := by rfl) (hbase : attributeBase o "join" X.env (eval o X.env) = eval o X.env := by rfl) (hline : (apos.endLine == pos.line) = true := by rfl) (h : X.K = K := by rfl) :
    PE X (.Call (.Attribute o "join" apos) [e] [] pos) (tM1 (rJoin K) to te) := by
  subst h
  exact pe_join ho he hs hbase hline
theorem e_bm (K : PySem.W.Frag) {T : String} {name : Str} {id : String} {r : V → List V → Hp → VK → Prop} {o e : Expr} {es : List Expr} {to : TE} {t : TA} {apos cpos : Pos} (pa : PlainAttrs T) (slot : Slot T name id) (hty : typeOf (.builtin id) = pure (.type "method_descriptor")) (hm : MtR X id r) (ho : PE X o to) (ha : PA X (e :: es) t)
    (hbase : attributeBase o name X.env (eval o X.env) = eval o X.env := by rfl)
    (hfew : ((backTo cpos (starEach (e :: es) X.env)).all (fun x => !x.1) && (backToKw cpos (keywordEach [] X.env)).all (fun x => x.1.isSome) && decide ((e :: es).length + ([] : List Keyword).length + (if ([] : List Keyword).isEmpty then 0 else 1) < 30)) = true := by rfl)
    (hline : (apos.endLine == cpos.line) = true := by rfl) (hs : starEach (e :: es) X.env = (false, eval e X.env) :: starEach es X.env := by rfl) (hplain : (backTo cpos (starEach es X.env)).any (·.1) = false := by rfl) (h : X.K = K := by rfl) :
    PE X (.Call (.Attribute o name apos) (e :: es) [] cpos) (tBM K T r to t) := by
  subst h
  exact pe_bm pa slot hty hm ho ha hbase hfew hline hs hplain
theorem e_bm0 (K : PySem.W.Frag) {T : String} {name : Str} {id : String} {r : V → List V → Hp → VK → Prop} {o : Expr} {to : TE} {apos cpos : Pos} (pa : PlainAttrs T) (slot : Slot T name id) (hty : typeOf (.builtin id) = pure (.type "method_descriptor")) (hm : MtR X id r) (ho : PE X o to)
    (hbase : attributeBase o name X.env (eval o X.env) = eval o X.env := by rfl) (hline : (apos.endLine == cpos.line) = true := by rfl) (h : X.K = K := by rfl) : PE X (.Call (.Attribute o name apos) [] [] cpos) (tBM0 K T r to) := by
  subst h
  exact pe_bm0 pa slot hty hm ho hbase hline
def rAddT : R2 := fun x y H Q => ∃ i j, x = .str i ∧ y = .str j ∧ i.length + j.length ≤ sizeLine ∧ Q (.str (i ++ j)) H
theorem o_adds : OpR X (binaryOp .Add) rAddT := op_add_str
def rInG : R2 := fun x y H Q => ∃ (c : Nat) (z : Str), x = .str ⟨#[c]⟩ ∧ y = .str z ∧ Q (.bl (decide (c ∈ z.cps.toList))) H
theorem o_insign : OpR X (compareOp .In) rInG := op_in_sign
def rInT : R2 := fun x y H Q => ∃ i j, x = .str i ∧ y = .str j ∧ Q (.bl (!(Builtin.Str.occurrences j i 0 j.length 1).isEmpty)) H
theorem o_ins : OpR X (compareOp .In) rInT := op_in_str
def CPowW (i j : Int) : Prop := 0 < j ∧ 1 < i ∧ Builtin.Int.intTooBig (((Builtin.Int.intBits i : Nat) : Int) * j) = false
def rPowW : R2 := fun x y H Q => ∃ i j, x = .int i ∧ y = .int j ∧ CPowW i j ∧ Q (.int (i ^ j.toNat)) H
theorem op_powW : OpR X (binaryOp .Pow) rPowW := by
  intro pins s σ H x y v u Q I rx ry h
  obtain ⟨i, j, rfl, rfl, hc, q⟩ := h
  obtain ⟨t, rfl⟩ := rx
  obtain ⟨t', rfl⟩ := ry
  have h1 : ¬ (j == 0) = true := by have := hc.1; simp; omega
  have h2 : ¬ (i == 0 || i == 1) = true := by have := hc.2.1; simp; omega
  have h3 : ¬ (i == -1) = true := by have := hc.2.1; simp; omega
  refine AutoIntOps.pow_4 (by have := hc.1; omega) h1 h2 h3 (by rw [hc.2.2]; exact Bool.false_ne_true) ?_
  exact ⟨.int (i ^ j.toNat), H, I.tok _, ⟨_, rfl⟩, q⟩
/-- a text n times over -/
def repS (x : Str) (n : Nat) : Str := ⟨((List.replicate n x.cps.toList).flatten).toArray⟩
theorem repS_foldl (x : Str) : ∀ (n : Nat) (acc : Array Nat), (List.replicate n x.cps).foldl (· ++ ·) acc = acc ++ ((List.replicate n x.cps.toList).flatten).toArray
  | 0, acc => by simp
  | n + 1, acc => by
    rw [List.replicate_succ, List.foldl_cons, repS_foldl x n, List.replicate_succ, List.flatten_cons]
    apply Array.toList_inj.mp
    simp
def rRepS : R2 := fun x y H Q => ∃ z n, x = .str z ∧ y = .int n ∧ 0 ≤ n ∧ n ≤ 1000 ∧ z.length ≤ 1000 ∧ Q (.str (repS z n.toNat)) H
theorem op_rep_str : OpR X (binaryOp .Mult) rRepS := by
  intro pins s σ H x y v u Q I rx ry h
  obtain ⟨z, n, rfl, rfl, h0, h1, hz, q⟩ := h
  obtain ⟨t, rfl⟩ := rx
  obtain ⟨t', rfl⟩ := ry
  have hm : z.length * n.toNat ≤ 1000 * 1000 := Nat.mul_le_mul hz (by omega)
  refine PySem.P.mul_str ?_ (fun h2 h3 => ?_) (fun h2 h3 => ?_) ?_
  · have e1 : ¬ n < -(2 ^ 63 : Int) := by omega
    have e2 : ¬ n ≥ 2 ^ 63 := by omega
    rw [decide_eq_false e1, decide_eq_false e2]; rfl
  · have hle : (1000 : Int) ≤ (2 ^ 63 - 1) / n := by
      rw [Int.le_ediv_iff_mul_le (by omega)]
      omega
    omega
  · unfold Builtin.Str.tooLong
    rw [sizeLine_eq]
    simp; omega
  · split
    · rename_i hn
      have e : repS z n.toNat = Str.empty := by
        have : n.toNat = 0 := by omega
        rw [this]; rfl
      exact ⟨by decide, .str _, H, I.tok _, ⟨_, rfl⟩, by rw [← e]; exact q⟩
    · split
      · rename_i hn hc
        have e : repS z n.toNat = z := by
          rcases Bool.or_eq_true_iff.mp hc with h | h
          · have : n.toNat = 1 := by have := beq_iff_eq.mp h; omega
            rw [this]; unfold repS; simp
          · have hl : z.cps.toList = [] := by
              have := beq_iff_eq.mp h
              have : z.cps.size = 0 := this
              simpa using this
            have hz0 : z = ⟨#[]⟩ := by
              cases z with
              | mk c => congr; simpa using hl
            rw [hz0]
            unfold repS
            simp
        exact ⟨.str _, H, I, ⟨_, rfl⟩, by rw [← e]; exact q⟩
      · have e : (⟨(List.replicate n.toNat z.cps).foldl (· ++ ·) #[]⟩ : Str) = repS z n.toNat := by
          rw [repS_foldl]
          unfold repS
          simp
        rw [e]
        refine ⟨?_, .str _, H, I.tok _, ⟨_, rfl⟩, q⟩
        have : (repS z n.toNat).length = n.toNat * z.length := by
          show (((List.replicate n.toNat z.cps.toList).flatten).toArray).size = n.toNat * z.cps.size
          simp
        rw [this, sizeLine_eq, Nat.mul_comm]
        omega
/-- list(d.values()) -/
def tListVals (te : TE) : TE := fun σ H Q => te σ H fun x H1 => ∃ d kvs, x = .ref d ∧ H1 d = some (.dK kvs) ∧ ∀ q, H1 q = none → Q (.ref q) (upd H1 q (.lst (kvs.map (·.2))))
theorem pe_listValues {e : Expr} {te : TE} {p apos cpos pos : Pos} (hc : X.calm = true) (he : PE X e te) (hg : Gl X "list") (hm : X.mg "list" = none) (hv : bootBuiltins "list" = some (.type "list")) (hbase : attributeBase e "values" X.env (eval e X.env) = eval e X.env := by rfl) (hline : (apos.endLine == cpos.line) = true := by rfl)
    (hs : starEach [.Call (.Attribute e "values" apos) [] [] cpos] X.env = (false, eval (.Call (.Attribute e "values" apos) [] [] cpos) X.env) :: starEach [] X.env := by rfl) :
    PE X (.Call (.Name "list" p) [.Call (.Attribute e "values" apos) [] [] cpos] [] pos) (tListVals te) := by
  refine ⟨fun pins s σ H Q I hq => ?_⟩
  refine wpAny_Call_Name_kw (ld_blt I hg hm hv ?_)
  refine PyProof.Rows.callWith_type1 ?_ hs rfl
  rw [hs]
  show wpAny _ _ (spliced ((false, eval (.Call (.Attribute e "values" apos) [] [] cpos) X.env) :: backTo pos (starEach [] X.env))) _ _ s
  refine Calls.spliced_cons ?_
  refine wpAny_Call_method (T := "dict") (id := "dict.values") hbase rfl hline F.plainAttrs_dict F.slot_dict_values F.type_dict_values (thn (he.run pins s σ H _ I hq) fun u s1 ⟨x, H1, I1, rx, d, kvs, ex, hd, q⟩ => ?_)
  subst ex
  obtain rfl : u = Value.ref d := rx
  obtain ⟨hz, hs0, vs, kv, hdo⟩ := I1.hok d _ hd
  obtain ⟨ep, hat⟩ := hdo.dictAt
  have lk : kvs.length = vs.length := Paired.length kv
  have I2 : Inv X pins σ H1 { s1 with heap := s1.heap.push { cls := .type "dict_values", data := .fields #[.ref d] } } := I1.kept (t' := s1.toks) fun b ob q => Heap.get?_push_of_some _ q
  refine ⟨hdo.typeIs, hdo.mapOf.noDict, ?_⟩
  show wpAny _ _ (callWith cpos (.builtin "dict.values") [.ref d] [] []) _ X.xe s1
  refine method_meetsIn F.slot_dict_values F.entry_dict_values rfl (PySem.evalArgs_none ⟨rfl, hdo.typeIs, F.args_dict_values_1 _, _, meets_dict_values (mixKind X.prog X.w) d hs0, ⟨vs, hdo⟩, ?_⟩)
  refine Calls.spliced_nil ?_
  refine PySem.W.kdl_call (PySem.W.kdl_values (knd := mixKind X.prog X.w) (kvs := vs) (ep := ep) (r := s1.heap.objs.size) (d := d)) (I1.ok.hd hc) ⟨⟨_, Heap.get?_push_size _ rfl, rfl, rfl⟩, hat.push _⟩ (by rw [← lk]; exact hz) fun h' tk acc' c' hkeep hS hacc => ?_
  refine ⟨.ref _, upd H1 _ (.lst (kvs.map (·.2))), I2.laid hkeep (Nat.le_refl _) (show ObjOk X.prog X.w _ _ _ (.lst (kvs.map (·.2))) from ⟨?_, acc'.toList, c', ?_, ?_⟩), rfl, q _ (I2.hok.fresh (Nat.le_refl _))⟩
  · rw [List.length_map]; exact hz
  · have el : acc'.toList.length = acc'.size := by simp
    refine vals_of_at (by rw [List.length_map, el, hacc.1, lk]) fun j x w h1 h2 => ?_
    obtain ⟨k, hky⟩ := hacc.2 j w (by rw [← Array.getElem?_toList]; exact h2)
    rw [List.getElem?_map] at h1
    cases e1 : kvs[j]? with
    | none => rw [e1] at h1; cases h1
    | some kw =>
      rw [e1] at h1
      have e2 : kw.2 = x := Option.some.inj h1
      obtain ⟨y, hy, hr⟩ := LiI.paired_get kv e1
      rw [hky] at hy
      cases hy
      rw [← e2]
      exact hr.2
  · rw [Array.toArray_toList]; exact hS
end
end OA

namespace OA
open PySem PySem.Spec PyProof.Rows L2
/-! ### data for == -/
abbrev dS (xs : List Str) : PyData := .list (xs.map PyData.str)
abbrev dSS (xss : List (List Str)) : PyData := .list (xss.map dS)
abbrev dI (xs : List Int) : PyData := .list (xs.map PyData.int)
def Asc (x : Str) : Prop := ∀ c ∈ x.cps.toList, c < 1114112
theorem Asc.ok {x : Str} (h : Asc x) : PyData.strOk x = true := by
  unfold PyData.strOk
  rw [Array.all_eq_true']
  intro c hc
  have := h c (by simpa using hc)
  simpa using this
section
variable {K : PySem.W.Frag} {G H : Hp}
theorem dp_strs : ∀ xs : List Str, DpAll K H (xs.map V.str) (xs.map PyData.str)
  | [] => .nil
  | x :: xs => .cons (.str x) (dp_strs xs)
theorem dp_ints : ∀ xs : List Int, DpAll K H (xs.map V.int) (xs.map PyData.int)
  | [] => .nil
  | x :: xs => .cons (.int x) (dp_ints xs)
theorem dp_lists (s : Same G H) : ∀ {as : List Addr} {xss : List (List Str)}, Paired (fun p xs => G p = some (.lst (xs.map V.str))) as xss → DpAll K H (as.map V.ref) (xss.map dS)
  | _, _, .nil => .nil
  | _, _, .cons h t => .cons (.lst (SqL.of (s _ _ h)) (dp_strs _)) (dp_lists s t)
theorem Ss.dp {v : V} {xs : List Str} (s : Same G H) (h : Ss G v xs) : Dp K H v (dS xs) := by
  obtain ⟨a, rfl, h⟩ := h
  exact .lst (SqL.of (s _ _ h)) (dp_strs xs)
theorem Si.dp {v : V} {xs : List Int} (s : Same G H) (h : Si G v xs) : Dp K H v (dI xs) := by
  obtain ⟨a, rfl, h⟩ := h
  exact .lst (SqL.of (s _ _ h)) (dp_ints xs)
theorem Sss.dp {v : V} {xss : List (List Str)} (s : Same G H) (h : Sss G v xss) : Dp K H v (dSS xss) := by
  obtain ⟨a, as, rfl, h, p⟩ := h
  exact .lst (SqL.of (s _ _ h)) (dp_lists s p)
end
theorem lay_strs : ∀ {xs : List Str}, (∀ x ∈ xs, Asc x) → PyData.canLayAll0 (xs.map PyData.str) = true
  | [], _ => rfl
  | x :: xs, h => by
    show (PyData.strOk x && PyData.canLayAll0 (xs.map PyData.str)) = true
    rw [(h x List.mem_cons_self).ok, lay_strs fun y hy => h y (List.mem_cons_of_mem _ hy)]
    rfl
theorem lay_ints : ∀ {xs : List Int}, PyData.canLayAll0 (xs.map PyData.int) = true
  | [] => rfl
  | x :: xs => by
    show (true && PyData.canLayAll0 (xs.map PyData.int)) = true
    rw [lay_ints]
    rfl
theorem depth_strs : ∀ {xs : List Str}, PyData.depthAll (xs.map PyData.str) = 0
  | [] => rfl
  | x :: xs => by
    show max (PyData.depth (.str x)) (PyData.depthAll (xs.map PyData.str)) = 0
    rw [depth_strs]
    rfl
theorem depth_ints : ∀ {xs : List Int}, PyData.depthAll (xs.map PyData.int) = 0
  | [] => rfl
  | x :: xs => by
    show max (PyData.depth (.int x)) (PyData.depthAll (xs.map PyData.int)) = 0
    rw [depth_ints]
    rfl
theorem depth_lists : ∀ {xss : List (List Str)}, PyData.depthAll (xss.map dS) ≤ 1
  | [] => Nat.zero_le _
  | x :: xs => by
    show max (PyData.depthAll (x.map PyData.str) + 1) (PyData.depthAll (xs.map dS)) ≤ 1
    rw [depth_strs]
    have := depth_lists (xss := xs)
    omega
theorem lay_lists : ∀ {xss : List (List Str)}, (∀ xs ∈ xss, ∀ x ∈ xs, Asc x) → PyData.canLayAll0 (xss.map dS) = true
  | [], _ => rfl
  | x :: xs, h => by
    show (PyData.canLayAll0 (x.map PyData.str) && PyData.canLayAll0 (xs.map dS)) = true
    rw [lay_strs (h x List.mem_cons_self), lay_lists fun y hy => h y (List.mem_cons_of_mem _ hy)]
    rfl
theorem sh_strs {xs : List Str} (h : ∀ x ∈ xs, Asc x) : SeqAt.shaped (dS xs) = true := by
  unfold SeqAt.shaped
  have h1 : PyData.canLay0 (dS xs) = true := lay_strs h
  have h2 : PyData.depth (dS xs) = 1 := by show PyData.depthAll (xs.map PyData.str) + 1 = 1; rw [depth_strs]
  rw [h1, h2]; rfl
theorem sh_ints {xs : List Int} : SeqAt.shaped (dI xs) = true := by
  unfold SeqAt.shaped
  have h1 : PyData.canLay0 (dI xs) = true := lay_ints
  have h2 : PyData.depth (dI xs) = 1 := by show PyData.depthAll (xs.map PyData.int) + 1 = 1; rw [depth_ints]
  rw [h1, h2]; rfl
theorem sh_lists {xss : List (List Str)} (h : ∀ xs ∈ xss, ∀ x ∈ xs, Asc x) : SeqAt.shaped (dSS xss) = true := by
  unfold SeqAt.shaped
  have h1 : PyData.canLay0 (dSS xss) = true := lay_lists h
  have h2 : PyData.depth (dSS xss) ≤ 2 := by show PyData.depthAll (xss.map dS) + 1 ≤ 2; have := depth_lists (xss := xss); omega
  have h3 : decide (PyData.depth (dSS xss) ≤ 64) = true := decide_eq_true (by omega)
  rw [h1, h3]; rfl
theorem eqv_strs : ∀ (xs ys : List Str), PyData.eqvAll (xs.map PyData.str) (ys.map PyData.str) = decide (xs = ys)
  | [], [] => rfl
  | [], _ :: _ => rfl
  | _ :: _, [] => rfl
  | x :: xs, y :: ys => by
    show ((x == y) && PyData.eqvAll (xs.map PyData.str) (ys.map PyData.str)) = _
    rw [eqv_strs xs ys]
    by_cases h1 : x = y
    · subst h1
      by_cases h2 : xs = ys
      · subst h2; simp
      · simp [h2]
    · simp [h1]
theorem eqv_lists : ∀ (xs ys : List (List Str)), PyData.eqvAll (xs.map dS) (ys.map dS) = decide (xs = ys)
  | [], [] => rfl
  | [], _ :: _ => rfl
  | _ :: _, [] => rfl
  | x :: xs, y :: ys => by
    show (PyData.eqvAll (x.map PyData.str) (y.map PyData.str) && PyData.eqvAll (xs.map dS) (ys.map dS)) = _
    rw [eqv_lists xs ys, eqv_strs]
    by_cases h1 : x = y
    · subst h1
      by_cases h2 : xs = ys
      · subst h2; simp
      · simp [h2]
    · simp [h1]
theorem eqv_dS (xs ys : List Str) : PyData.eqv (dS xs) (dS ys) = decide (xs = ys) := eqv_strs xs ys
theorem eqv_dSS (xs ys : List (List Str)) : PyData.eqv (dSS xs) (dSS ys) = decide (xs = ys) := eqv_lists xs ys
theorem eqv_ints0 : ∀ (xs : List Int), PyData.eqv (dI xs) (.list []) = xs.isEmpty
  | [] => rfl
  | _ :: _ => rfl
/-! ### in, of lists of texts -/
theorem inV_str (x : Str) : ∀ xs : List Str, inV (.str x) (xs.map V.str) = decide (x ∈ xs)
  | [] => rfl
  | y :: ys => by
    show ((y == x) || inV (.str x) (ys.map V.str)) = _
    rw [inV_str x ys]
    by_cases h : y = x
    · subst h; simp
    · have h' : ¬ x = y := fun z => h z.symm
      simp [h, h']
theorem flat_strs : ∀ xs : List Str, (xs.map V.str).all flatV = true
  | [] => rfl
  | _ :: xs => by show (true && (xs.map V.str).all flatV) = true; rw [flat_strs xs]; rfl
theorem inV_int (x : Int) : ∀ xs : List Int, inV (.int x) (xs.map V.int) = decide (x ∈ xs)
  | [] => rfl
  | y :: ys => by
    show ((y == x) || inV (.int x) (ys.map V.int)) = _
    rw [inV_int x ys]
    by_cases h : y = x
    · subst h; simp
    · have h' : ¬ x = y := fun z => h z.symm
      simp [h, h']
theorem flat_ints : ∀ xs : List Int, (xs.map V.int).all flatV = true
  | [] => rfl
  | _ :: xs => by show (true && (xs.map V.int).all flatV) = true; rw [flat_ints xs]; rfl
theorem yes_of {σ : L2.St} {H : Hp} {A B : Hp → Prop} (h : A H) : tYes σ H (fun b H3 => if b = true then A H3 else B H3) := by
  show if true = true then A H else B H
  rw [if_pos rfl]
  exact h
/-! ### small lists -/
theorem take_more {α : Type} : ∀ {l : List α} {i : Nat} {x : α}, l[i]? = some x → l.take (i + 1) = l.take i ++ [x]
  | [], i, x, h => by simp at h
  | a :: l, 0, x, h => by
    have e : a = x := Option.some.inj h
    subst e
    rfl
  | a :: l, i + 1, x, h => by
    have ih := take_more (l := l) (i := i) (x := x) h
    show a :: l.take (i + 1) = a :: l.take i ++ [x]
    rw [ih]
    rfl
theorem map_get {α β : Type} {f : α → β} {l : List α} {i : Nat} {y : β} (h : (l.map f)[i]? = some y) : ∃ x, l[i]? = some x ∧ y = f x := by
  rw [List.getElem?_map] at h
  cases e : l[i]? with
  | none => rw [e] at h; cases h
  | some x => rw [e] at h; exact ⟨x, rfl, (Option.some.inj h).symm⟩
theorem get_lt {α : Type} {l : List α} {i : Nat} {x : α} (h : l[i]? = some x) : i < l.length := (List.getElem?_eq_some_iff.mp h).1
theorem sz_le {n : Nat} (h : n ≤ 1000000) : n ≤ sizeLine := by rw [sizeLine_eq]; omega
theorem sz_lt {n : Nat} (h : n ≤ 1000000) : n < sizeLine := by rw [sizeLine_eq]; omega
end OA

/-! ### words: the mathematics -/
namespace OA
open PySem L2
def sg (i : Nat) : Nat := if i < 26 then 97 + i else 22 + i
def wordL (f place size c : Nat) : List Nat := List.replicate place f ++ c :: List.replicate (size - place - 1) f
def mkS (l : List Nat) : Str := ⟨l.toArray⟩
def wordsOf (f place size some first n : Nat) : List Str := (List.range n).map fun k => mkS (wordL f place size (sg ((first + k) % some)))
def Low (c : Nat) : Prop := 97 ≤ c ∧ c ≤ 122
def Alnum (c : Nat) : Prop := Low c ∨ (48 ≤ c ∧ c ≤ 57)
/-- a name of at most m signs -/
structure Name (m : Nat) (w : Str) : Prop where
  first : ∃ c r, w.cps.toList = c :: r ∧ Low c
  all : ∀ c ∈ w.cps.toList, Alnum c
  len : w.length ≤ m
structure Words (m n : Nat) (ws : List Str) : Prop where
  len : ws.length = n
  nd : ws.Nodup
  all : ∀ w ∈ ws, Name m w
theorem sg_alnum {i : Nat} (h : i < 36) : Alnum (sg i) := by
  unfold sg Alnum Low
  split
  · left; omega
  · right; omega
theorem sg_low {i : Nat} (h : i < 26) : Low (sg i) := by
  unfold sg Low
  rw [if_pos h]; omega
theorem sg_inj {i j : Nat} (hi : i < 36) (hj : j < 36) (h : sg i = sg j) : i = j := by
  unfold sg at h
  split at h <;> split at h <;> omega
theorem mod_inj {a i j m : Nat} (hi : i < m) (hj : j < m) (h : (a + i) % m = (a + j) % m) : i = j := by
  have h1 := Nat.div_add_mod (a + i) m
  have h2 := Nat.div_add_mod (a + j) m
  rw [h] at h1
  have hm : (a + j) % m < m := Nat.mod_lt _ (by omega)
  have e1 : (a + i) / m = (a + j) / m ∨ (a + i) / m < (a + j) / m ∨ (a + j) / m < (a + i) / m := by omega
  rcases e1 with e | e | e
  · rw [e] at h1; omega
  · exfalso
    have : m * ((a + i) / m + 1) ≤ m * ((a + j) / m) := Nat.mul_le_mul_left _ e
    rw [Nat.mul_add] at this
    omega
  · exfalso
    have : m * ((a + j) / m + 1) ≤ m * ((a + i) / m) := Nat.mul_le_mul_left _ e
    rw [Nat.mul_add] at this
    omega
theorem wordL_inj {f p s c d : Nat} (h : wordL f p s c = wordL f p s d) : c = d := by
  unfold wordL at h
  have := List.append_cancel_left h
  injection this
theorem nodup_range_map {α : Type} {n : Nat} {f : Nat → α} (h : ∀ i j, i < n → j < n → f i = f j → i = j) : ((List.range n).map f).Nodup := by
  rw [List.nodup_iff_pairwise_ne, List.pairwise_map]
  refine List.Pairwise.imp_of_mem (fun {a b} ha hb hab => ?_) List.nodup_range
  intro e
  exact hab (h a b (List.mem_range.mp ha) (List.mem_range.mp hb) e)
theorem words_ok {f p s m first n sz : Nat} (hf : Low f) (hp : p < s) (hs : s ≤ sz) (hm : (p = 0 ∧ m = 26) ∨ (p ≠ 0 ∧ m = 36)) (hn : n ≤ 26) : Words sz n (wordsOf f p s m first n) := by
  have hm36 : m ≤ 36 ∧ 26 ≤ m := by omega
  refine ⟨by simp [wordsOf], nodup_range_map fun i j hi hj h => ?_, fun w hw => ?_⟩
  · have h1 : (wordL f p s (sg ((first + i) % m))) = (wordL f p s (sg ((first + j) % m))) := by
      have := congrArg (fun z : Str => z.cps.toList) h
      simpa [mkS] using this
    have h2 := wordL_inj h1
    have b1 : (first + i) % m < m := Nat.mod_lt _ (by omega)
    have b2 : (first + j) % m < m := Nat.mod_lt _ (by omega)
    have h3 := sg_inj (by omega) (by omega) h2
    exact mod_inj (by omega) (by omega) h3
  · obtain ⟨k, hk, rfl⟩ := List.mem_map.mp hw
    have b1 : (first + k) % m < m := Nat.mod_lt _ (by omega)
    refine ⟨?_, ?_, ?_⟩
    · show ∃ c r, (mkS (wordL f p s _)).cps.toList = c :: r ∧ Low c
      unfold mkS wordL
      rcases hm with ⟨h0, h1⟩ | ⟨h0, h1⟩
      · subst h0; subst h1
        exact ⟨_, _, rfl, sg_low b1⟩
      · cases p with
        | zero => exact absurd rfl h0
        | succ q => exact ⟨_, _, rfl, hf⟩
    · intro c hc
      have hc : c ∈ wordL f p s (sg ((first + k) % m)) := by simpa [mkS] using hc
      unfold wordL at hc
      rcases List.mem_append.mp hc with h | h
      · rw [(List.mem_replicate.mp h).2]; exact .inl hf
      · rcases List.mem_cons.mp h with h | h
        · rw [h]; exact sg_alnum (by omega)
        · rw [(List.mem_replicate.mp h).2]; exact .inl hf
    · show (wordL f p s _).toArray.size ≤ sz
      simp [wordL]
      omega
theorem Alnum.asc {c : Nat} (h : Alnum c) : c < 1114112 := by
  unfold Alnum Low at h
  omega
theorem Name.asc {m : Nat} {w : Str} (h : Name m w) : Asc w := fun c hc => (h.all c hc).asc
theorem str_ext {a b : Str} (h : a.cps.toList = b.cps.toList) : a = b := by
  cases a with
  | mk x =>
    cases b with
    | mk y =>
      have : x = y := Array.toList_inj.mp h
      rw [this]
theorem repS_one (f n : Nat) : (repS ⟨#[f]⟩ n).cps.toList = List.replicate n f := by
  unfold repS
  have : ∀ n : Nat, (List.replicate n [f]).flatten = List.replicate n f := fun n => by
    induction n with
    | zero => rfl
    | succ n ih => rw [List.replicate_succ, List.flatten_cons, ih, List.replicate_succ]; rfl
  simpa using this n
theorem app_list (a b : Str) : (a ++ b).cps.toList = a.cps.toList ++ b.cps.toList := by
  show (a.cps ++ b.cps).toList = _
  simp
theorem app_len (a b : Str) : (a ++ b).length = a.length + b.length := by
  show (a.cps ++ b.cps).size = _
  simp [Str.length]
theorem len_list (a : Str) : a.length = a.cps.toList.length := by simp [Str.length]
def SIGNS : Str := "abcdefghijklmnopqrstuvwxyz0123456789"
theorem signs_list : (Str.ofString "abcdefghijklmnopqrstuvwxyz0123456789").cps.toList = (List.range 36).map sg := by decide +kernel
theorem signs_len : (Str.ofString "abcdefghijklmnopqrstuvwxyz0123456789").length ≤ sizeLine := by decide +kernel
theorem sign_at {i : Int} (h0 : 0 ≤ i) (h1 : i < 36) : atI (Str.ofString "abcdefghijklmnopqrstuvwxyz0123456789").cps.toList i = some (sg i.toNat) := by
  rw [signs_list]
  obtain ⟨n, rfl⟩ : ∃ n : Nat, i = (n : Int) := ⟨i.toNat, by omega⟩
  refine atI_nat ?_
  rw [List.getElem?_map, List.getElem?_range (by omega)]
  rfl
theorem joinL_len {S : List Nat} : ∀ ps : List (List Nat), (TL.joinL S ps).length ≤ (ps.map (·.length)).sum + ps.length * S.length
  | [] => by simp [TL.joinL]
  | [p] => by simp [TL.joinL]
  | p :: q :: r => by
    have ih := joinL_len (S := S) (q :: r)
    show (p ++ (S ++ TL.joinL S (q :: r))).length ≤ _
    rw [List.length_append, List.length_append, List.map_cons, List.sum_cons, List.length_cons, Nat.add_mul]
    omega
theorem join_len (y : Str) (parts : List Str) : (Txt.join y parts).length ≤ (parts.map (·.length)).sum + parts.length * y.length := by
  rw [len_list, TL.join_eq]
  have h := TL.tl_join y parts
  have e : (Str.join y parts).cps.toList = TL.joinL (TL.tl y) (parts.map TL.tl) := h
  rw [e]
  refine Nat.le_trans (joinL_len _) ?_
  rw [List.map_map, List.length_map, len_list y]
  have e2 : (parts.map ((fun l : List Nat => l.length) ∘ TL.tl)) = parts.map (·.length) := List.map_congr_left fun x _ => (len_list x).symm
  rw [e2]
  exact Nat.le_refl _
theorem sum_le {B : Nat} : ∀ {l : List Nat}, (∀ x ∈ l, x ≤ B) → l.sum ≤ l.length * B
  | [], _ => Nat.zero_le _
  | x :: l, h => by
    have h1 := h x List.mem_cons_self
    have h2 := sum_le fun y hy => h y (List.mem_cons_of_mem _ hy)
    rw [List.sum_cons, List.length_cons, Nat.add_mul]
    omega
end OA

/-! ### operators of an own class: len, str, <=, ==, in, &, | -/
namespace OA
open PySem PySem.Spec PyProof.Rows L2
section
variable {X : Cx} {C : Addr} {m : Str} {ps : List Str} {sp : Sp} {k j : Nat}
/-- a def runs, called from within a built-in -/
theorem run_at {A : Around} {pins : List (Addr × Obj)} {σ : L2.St} {H : Hp} {s : Shared} {Q : VK} {f : Addr} {fd : FuncData} {us : List Value} {vs : List V} (F : FnOk X.prog X.w X.K X.mg X.base CX0 k f fd ps sp) (hr : Room k A)
    (he : Env0 X.prog X.w X.K X.mg X.base A X.stack s H) (hb : Binds X.K fd ps []) (I : Inv X pins σ H s) (r : Vals vs us) (h : sp vs H Q E0) : wpAny (model X.prog X.w) A (call (.ref f) us) (EP X pins σ Q) X.xe s := by
  have hl : us.length = ps.length := by rw [← r.length]; exact F.len _ _ _ _ h
  have hbs := hb s us I.kIn (by rw [List.append_nil]; exact hl)
  rw [List.append_nil] at hbs
  refine wpAny_call (codeAny_mono (F.run A X.stack s H ⟨us, []⟩ us vs Q E0 hr he hbs r h) fun r s' hq => ?_)
  cases r with
  | error e => exact hq.elim
  | ok fl =>
    cases fl with
    | ret u => exact I.after hq
    | next => exact hq.elim
    | brk => exact hq.elim
    | cont => exact hq.elim
def rLenO (C : Addr) (sp : Sp) : List V → Hp → VK → Prop := fun xs H Q => ∃ a dx fs, xs = [.ref a] ∧ H a = some (.ins C dx fs) ∧ sp [.ref a] H (fun v H' => ∃ n : Int, v = .int n ∧ 0 ≤ n ∧ n < 2 ^ 63 ∧ Q (.int n) H') E0
theorem c_len_own (c : Method X.prog X.w X.K X.mg X.base C "__len__" ps sp k) (hr : Room j X.A) (hk : k + 1 ≤ j) : CallR X (.builtin "len") (rLenO C sp) := by
  intro pins s σ H xs us Q I r h
  obtain ⟨f, fd, F, b, cl, M⟩ := c.ex
  obtain ⟨a, dx, fs, rfl, ha, q⟩ := h
  obtain ⟨u, rfl, ru⟩ := vals1 r
  cases (show u = Value.ref a from ru)
  obtain ⟨mA, J, _⟩ := ins_get I.hok ha
  obtain ⟨od, J, _⟩ := J.look
  obtain ⟨m', hF⟩ := I.fr
  refine PySem.W.len_K hF I.ok.mod.kin J M.at_ M.fn ?_
  refine wpAny_mono (run_at F (Room.in1 (hr.mono hk)) I.env0.in1 b I (vs := [.ref a]) (.cons rfl .nil) q) (fun v s' hv => ?_) fun _ _ z => z
  obtain ⟨v0, H', I', rv, n, rfl, h0, h1, q'⟩ := hv
  obtain ⟨t, rfl⟩ := rv
  exact ⟨⟨h0, h1⟩, .int n, H', I'.tok _, ⟨_, rfl⟩, q'⟩
def rStrO (C : Addr) (sp : Sp) : List V → Hp → VK → Prop := fun xs H Q => ∃ a dx fs, xs = [.ref a] ∧ H a = some (.ins C dx fs) ∧ sp [.ref a] H (fun v H' => ∃ z : Str, v = .str z ∧ Q (.str z) H') E0
theorem c_str_own (c : Method X.prog X.w X.K X.mg X.base C "__str__" ps sp k) (hr : Room j X.A) (hk : k + 2 ≤ j) : CallR X (.type "str") (rStrO C sp) := by
  intro pins s σ H xs us Q I r h
  obtain ⟨f, fd, F, b, cl, M⟩ := c.ex
  obtain ⟨a, dx, fs, rfl, ha, q⟩ := h
  obtain ⟨u, rfl, ru⟩ := vals1 r
  cases (show u = Value.ref a from ru)
  obtain ⟨mA, J, _⟩ := ins_get I.hok ha
  obtain ⟨od, J, _⟩ := J.look
  have r2 : Room k X.A.in1.in1 := Room.in1 (Room.in1 (hr.mono hk))
  refine PySem.W.kso_call r2.units0 I.kIn J M.at_ M.fn ?_
  refine wpAny_mono (run_at F r2 I.env0.in1.in1 b I (vs := [.ref a]) (.cons rfl .nil) q) (fun v s' hv => ?_) fun _ _ z => z
  obtain ⟨v0, H', I', rv, z, rfl, q'⟩ := hv
  obtain ⟨t, rfl⟩ := rv
  exact ⟨.str z, H', I', ⟨_, rfl⟩, q'⟩
theorem back_of {pins : List (Addr × Obj)} {σ : L2.St} {Q : VK} {v : Value} {s' : Shared} (h : EP X pins σ Q v s') : PySem.W.CmpBack (EP X pins σ Q) v s' := by
  obtain ⟨v0, H', I', rv, q⟩ := id h
  cases v0 with
  | non => cases (show v = Value.none from rv); exact h
  | bl b => cases (show v = Value.bool b from rv); exact h
  | int i => obtain ⟨t, rfl⟩ := rv; exact h
  | str z => obtain ⟨t, rfl⟩ := rv; exact h
  | byt z => obtain ⟨t, rfl⟩ := rv; exact h
  | flt z => obtain ⟨t, rfl⟩ := rv; exact h
  | ref a => cases (show v = Value.ref a from rv); exact h
  | ty n => cases (show v = Value.type n from rv); exact h
/-- x op y of two instances -/
def rOwn2 (C : Addr) (sp : Sp) : R2 := fun x y H Q => ∃ a b dx fs dy gs, x = .ref a ∧ y = .ref b ∧ H a = some (.ins C dx fs) ∧ H b = some (.ins C dy gs) ∧ sp [.ref a, .ref b] H Q E0
theorem cmp_own {op : CmpOp} (hop : ∀ v u, compareOp op v u = richCompare op v u) (hm : (cmpInfo op).2.1 = m) (c : Method X.prog X.w X.K X.mg X.base C m ps sp k) (hr : Room j X.A) (hk : k ≤ j) : OpR X (compareOp op) (rOwn2 C sp) := by
  intro pins s σ H x y v u Q I rx ry h
  obtain ⟨f, fd, F, b, cl, M⟩ := c.ex
  obtain ⟨a, b', dx, fs, dy, gs, rfl, rfl, ha, hb, q⟩ := h
  cases (show v = Value.ref a from rx)
  cases (show u = Value.ref b' from ry)
  obtain ⟨mA, J, _⟩ := ins_get I.hok ha
  obtain ⟨mB, J', _⟩ := ins_get I.hok hb
  obtain ⟨od, J, _⟩ := J.look
  obtain ⟨od', J', _⟩ := J'.look
  obtain ⟨m', hF⟩ := I.fr
  rw [hop]
  refine PySem.W.cmp_K (op := op) (tb := .ref C) hr.units0 hF I.ok.mod.kin J J'.type (by simp [PySem.W.notFirst]) (by rw [hm]; exact M.at_) M.fn ?_
  exact wpAny_mono (run_at F (hr.mono hk) I.env0 b I (vs := [.ref a, .ref b']) (.cons rfl (.cons rfl .nil)) q) (fun v s' hv => back_of hv) fun _ _ z => z
theorem o_le_own (c : Method X.prog X.w X.K X.mg X.base C "__le__" ps sp k) (hr : Room j X.A) (hk : k ≤ j) : OpR X (compareOp .LtE) (rOwn2 C sp) := cmp_own (fun _ _ => rfl) rfl c hr hk
theorem o_eq_own (c : Method X.prog X.w X.K X.mg X.base C "__eq__" ps sp k) (hr : Room j X.A) (hk : k ≤ j) : OpR X (compareOp .Eq) (rOwn2 C sp) := cmp_own (fun _ _ => rfl) rfl c hr hk
theorem bin_own {op : Operator} (hm : PySem.dunder op.info.2 = m) (c : Method X.prog X.w X.K X.mg X.base C m ps sp k) (hs : PySem.W.selfFirst X.K C = true) (hr : Room j X.A) (hk : k ≤ j) : OpR X (binaryOp op) (rOwn2 C sp) := by
  intro pins s σ H x y v u Q I rx ry h
  obtain ⟨f, fd, F, b, cl, M⟩ := c.ex
  obtain ⟨a, b', dx, fs, dy, gs, rfl, rfl, ha, hb, q⟩ := h
  cases (show v = Value.ref a from rx)
  cases (show u = Value.ref b' from ry)
  obtain ⟨mA, J, _⟩ := ins_get I.hok ha
  obtain ⟨mB, J', _⟩ := ins_get I.hok hb
  obtain ⟨od, J, _⟩ := J.look
  obtain ⟨od', J', _⟩ := J'.look
  obtain ⟨m', hF⟩ := I.fr
  refine PySem.W.binop_K hF I.ok.mod.kin J J'.type hs (by rw [hm]; exact M.at_) M.fn ?_
  exact wpAny_mono (run_at F (hr.mono hk) I.env0 b I (vs := [.ref a, .ref b']) (.cons rfl (.cons rfl .nil)) q) (fun v s' hv => back_of hv) fun _ _ z => z
theorem o_and_own (c : Method X.prog X.w X.K X.mg X.base C "__and__" ps sp k) (hs : PySem.W.selfFirst X.K C = true) (hr : Room j X.A) (hk : k ≤ j) : OpR X (binaryOp .BitAnd) (rOwn2 C sp) := bin_own (by decide +kernel) c hs hr hk
theorem o_or_own (c : Method X.prog X.w X.K X.mg X.base C "__or__" ps sp k) (hs : PySem.W.selfFirst X.K C = true) (hr : Room j X.A) (hk : k ≤ j) : OpR X (binaryOp .BitOr) (rOwn2 C sp) := bin_own (by decide +kernel) c hs hr hk
/-- y in x, y not in x: the method answers a bool -/
def rInO (C : Addr) (sp : Sp) (neg : Bool) : R2 := fun y x H Q => ∃ a dx fs, x = .ref a ∧ H a = some (.ins C dx fs) ∧ sp [.ref a, y] H (fun v H' => ∃ b : Bool, v = .bl b ∧ Q (.bl (if neg then !b else b)) H') E0
theorem o_in_own (c : Method X.prog X.w X.K X.mg X.base C "__contains__" ps sp k) (hr : Room j X.A) (hk : k ≤ j) : OpR X (compareOp .In) (rInO C sp false) := by
  intro pins s σ H x y v u Q I rx ry h
  obtain ⟨f, fd, F, b, cl, M⟩ := c.ex
  obtain ⟨a, dx, fs, rfl, ha, q⟩ := h
  cases (show u = Value.ref a from ry)
  obtain ⟨mA, J, _⟩ := ins_get I.hok ha
  obtain ⟨od, J, _⟩ := J.look
  obtain ⟨m', hF⟩ := I.fr
  refine PySem.W.in_K hF I.ok.mod.kin J M.at_ M.fn ?_
  refine wpAny_mono (run_at F (hr.mono hk) I.env0 b I (vs := [.ref a, x]) (.cons rfl (.cons rx .nil)) q) (fun v' s' hv => ?_) fun _ _ z => z
  obtain ⟨v0, H', I', rv, bb, rfl, q'⟩ := hv
  cases (show v' = Value.bool bb from rv)
  exact wpAny_truthy_bool ⟨.bl bb, H', I', rfl, q'⟩
theorem o_notin_own (c : Method X.prog X.w X.K X.mg X.base C "__contains__" ps sp k) (hr : Room j X.A) (hk : k ≤ j) : OpR X (compareOp .NotIn) (rInO C sp true) := by
  intro pins s σ H x y v u Q I rx ry h
  obtain ⟨f, fd, F, b, cl, M⟩ := c.ex
  obtain ⟨a, dx, fs, rfl, ha, q⟩ := h
  cases (show u = Value.ref a from ry)
  obtain ⟨mA, J, _⟩ := ins_get I.hok ha
  obtain ⟨od, J, _⟩ := J.look
  obtain ⟨m', hF⟩ := I.fr
  refine PySem.W.notIn_K hF I.ok.mod.kin J M.at_ M.fn ?_
  refine wpAny_mono (run_at F (hr.mono hk) I.env0 b I (vs := [.ref a, x]) (.cons rfl (.cons rx .nil)) q) (fun v' s' hv => ?_) fun _ _ z => z
  obtain ⟨v0, H', I', rv, bb, rfl, q'⟩ := hv
  cases (show v' = Value.bool bb from rv)
  exact wpAny_truthy_bool ⟨.bl (!bb), H', I', rfl, q'⟩
end
end OA

/-! ### instance == something else -/
namespace OA
open PySem PySem.Spec PyProof.Rows L2
section
variable {X : Cx} {C : Addr} {ps : List Str} {sp : Sp} {k j : Nat}
def rOwnO (K : PySem.W.Frag) (C : Addr) (sp : Sp) : R2 := fun x y H Q => ∃ a dx fs t, x = .ref a ∧ H a = some (.ins C dx fs) ∧ TyX K H y t ∧ PySem.W.notFirst K C t = true ∧ sp [.ref a, y] H Q E0
theorem o_eq_other (K : PySem.W.Frag) (c : Method X.prog X.w X.K X.mg X.base C "__eq__" ps sp k) (hr : Room j X.A) (hk : k ≤ j) (h : X.K = K := by rfl) : OpR X (compareOp .Eq) (rOwnO K C sp) := by
  subst h
  intro pins s σ H x y v u Q I rx ry h
  obtain ⟨f, fd, F, b, cl, M⟩ := c.ex
  obtain ⟨a, dx, fs, t, rfl, ha, ty, nf, q⟩ := h
  cases (show v = Value.ref a from rx)
  obtain ⟨mA, J, _⟩ := ins_get I.hok ha
  obtain ⟨od, J, _⟩ := J.look
  obtain ⟨m', hF⟩ := I.fr
  obtain ⟨PP, Z, p, _⟩ := kit_of I ry ty
  refine PySem.W.cmp_K (op := .Eq) (tb := t) hr.units0 hF I.ok.mod.kin J (Z.ty _ _ I.kIn p) nf M.at_ M.fn ?_
  exact wpAny_mono (run_at F (hr.mono hk) I.env0 b I (vs := [.ref a, y]) (.cons rfl (.cons ry .nil)) q) (fun v s' hv => back_of hv) fun _ _ z => z
end
end OA

/-! ### own errors: making, raising, catching; defs and methods that may raise -/
namespace OA
open PySem PySem.Spec PyProof.Rows L2
structure CalleeX (P : Program) (w : World) (K : PySem.W.Frag) (mg : Str → Option Value) (base : Heap) (x : Str) (ps : List Str) (sp : Sp) (k : Nat) : Prop where
  ex : ∃ f fd, FnOk P w K mg base (L2.CX P w) k f fd ps sp ∧ Binds K fd ps [] ∧ mg x = some (.ref f) ∧ PySem.W.keepIn K (.ref f) = true
structure MethodX (P : Program) (w : World) (K : PySem.W.Frag) (mg : Str → Option Value) (base : Heap) (C : Addr) (m : Str) (ps : List Str) (sp : Sp) (k : Nat) : Prop where
  ex : ∃ f fd, FnOk P w K mg base (L2.CX P w) k f fd ps sp ∧ Binds K fd ps [] ∧ Cls K C ∧ Meth K C m f
/-- an own error's class with its __init__ -/
structure ErrMk (P : Program) (w : World) (K : PySem.W.Frag) (mg : Str → Option Value) (base : Heap) (x : Str) (C : Addr) (ps : List Str) (sp : Sp) (k : Nat) : Prop where
  ex : ∃ f fd, FnOk P w K mg base CX0 k f fd ps sp ∧ Binds K fd ps [] ∧ mg x = some (.ref C) ∧ OexC K C ∧ PySem.W.findIn K (.ref C) "__init__" = some (some (.ref f)) ∧ PySem.W.typeIn K (.ref f) = some (.type "function")
section
variable {X : Cx} {C : Addr} {m x : Str} {ps : List Str} {sp : Sp} {k j : Nat} {W : WX} {e : Expr} {es : List Expr} {t : TA} {p pos pos' : Pos}
theorem pe_coX (c : CalleeX X.prog X.w X.K X.mg X.base x ps sp k) (hr : Room j X.A) (hk : k ≤ j) (tk : Takes X W) (hg : Gl X x) (ha : PA X (e :: es) t)
    (hdb : (x == ("__debug__" : Str)) = false := by decide) (he : starEach (e :: es) X.env = (false, eval e X.env) :: starEach es X.env := by rfl) (hpl : (backTo pos (starEach es X.env)).any (·.1) = false := by rfl) :
    PE X (.Call (.Name x p) (e :: es) [] pos) (tCallS sp (WE W) t) := by
  obtain ⟨f, fd, F, b, mm, kp⟩ := c.ex
  exact pe_callS F (hr.mono hk) hg mm kp b (fun σ => passAt tk σ) ha hdb he hpl
/-- an operation whose reading knows the slots -/
def OpRS (X : Cx) (f : Value → Value → Sem Value) (r : L2.St → R2) : Prop :=
  ∀ (pins : List (Addr × Obj)) (s : Shared) (σ : L2.St) (H : Hp) (x y : V) (v u : Value) (Q : VK), Inv X pins σ H s → RelV x v → RelV y u → r σ x y H Q → wpAny (model X.prog X.w) X.A (f v u) (EP X pins σ Q) X.xe s
def tOpS (r : L2.St → R2) (ta tb : TE) : TE := fun σ H Q => ta σ H fun x H1 => tb σ H1 fun y H2 => r σ x y H2 Q
theorem pe_cmpS {a b : Expr} {ta tb : TE} {op : CmpOp} {r : L2.St → R2} (ho : OpRS X (compareOp op) r) (ha : PE X a ta) (hb : PE X b tb) (hm : behindInMarks op b = false) : PE X (.Compare a [op] [b] pos) (tOpS r ta tb) := by
  refine ⟨fun pins s σ H Q I h => ?_⟩
  exact wpAny_Compare1 (binT ha hb I h fun v u s2 x y H2 I2 rx ry q => ho pins s2 σ H2 x y v u Q I2 rx ry q) hm
/-- y in x, where the method may raise -/
def rInX (C : Addr) (sp : Sp) (W : WX) (neg : Bool) : L2.St → R2 := fun σ y x H Q => ∃ a dx fs, x = .ref a ∧ H a = some (.ins C dx fs) ∧ sp [.ref a, y] H (fun v H' => ∃ b : Bool, v = .bl b ∧ Q (.bl (if neg then !b else b)) H') (WE W σ)
theorem o_in_ownX (c : MethodX X.prog X.w X.K X.mg X.base C "__contains__" ps sp k) (hr : Room j X.A) (hk : k ≤ j) (tk : Takes X W) : OpRS X (compareOp .In) (rInX C sp W false) := by
  intro pins s σ H x y v u Q I rx ry h
  obtain ⟨f, fd, F, b, cl, M⟩ := c.ex
  obtain ⟨a, dx, fs, rfl, ha, q⟩ := h
  cases (show u = Value.ref a from ry)
  obtain ⟨mA, J, _⟩ := ins_get I.hok ha
  obtain ⟨od, J, _⟩ := J.look
  obtain ⟨m', hF⟩ := I.fr
  refine PySem.W.in_K hF I.ok.mod.kin J M.at_ M.fn ?_
  refine wpAny_mono (run_fnS (E := WE W) F (hr.mono hk) b (passAt tk σ) I (vs := [.ref a, x]) (.cons rfl (.cons rx .nil)) q) (fun v' s' hv => ?_) fun _ _ z => z
  obtain ⟨v0, H', I', rv, bb, rfl, q'⟩ := hv
  cases (show v' = Value.bool bb from rv)
  exact wpAny_truthy_bool ⟨.bl bb, H', I', rfl, q'⟩
/-- raise C(..) -/
def tRaise (C : Addr) (sp : Sp) (W : WX) (ta : TA) : TS := fun _ σ H => tMkO C sp [] ta σ H fun cls d H' => W cls d σ H'
theorem ps_raiseE (c : ErrMk X.prog X.w X.K X.mg X.base x C ps sp k) (hr : Room j X.A) (hk : k + 1 ≤ j) (tk : Takes X W) (hg : Gl X x) (ha : PA X (e :: es) t) (hc : X.calm = true := by rfl)
    (hdb : (x == ("__debug__" : Str)) = false := by decide) (he : starEach (e :: es) X.env = (false, eval e X.env) :: starEach es X.env := by rfl) (hpl : (backTo pos (starEach es X.env)).any (·.1) = false := by rfl) :
    PS X (.Raise (some (.Call (.Name x p) (e :: es) [] pos)) none pos') (tRaise C sp W t) := by
  obtain ⟨f, fd, F, b, mm, T, iC, tI⟩ := c.ex
  exact L2.ps_raise hc tk (pmk_oex T iC tI F (hr.mono hk) b .nil pass0 hg mm ha hdb he hpl)
/-- isinstance(e, c), e the error that the suite holds, with its own dict -/
def rIsED (K : PySem.W.Frag) (a : Addr) (cls : Value) (d : Option Addr) : List V → Hp → VK → Prop := fun xs H Q => ∃ (D dd : Addr) (fs : List (Str × V)) (c : V) (cv : Value) (b : Bool), xs = [.ref a, c] ∧ cls = .ref D ∧ d = some dd ∧ H dd = some (.xd fs) ∧ ExcC K D ∧ ClsV c cv ∧ PySem.W.kitOne K (.ref D) cv = some b ∧ Q (.bl b) H
theorem call_isED {a : Addr} {oe : Obj} {cls : Value} {d : Option Addr} {pn : List (Addr × Obj)} (K : PySem.W.Frag) (hz : Zc cls d oe) (hf : ∃ vs, oe.data = .fields vs) (hK : X.K = K := by rfl) : CallR (X.suite a ((a, oe) :: pn)) (.builtin "isinstance") (rIsED K a cls d) := by
  subst hK
  intro pins s σ H xs us Q I r h
  obtain ⟨D, dd, fs, c, cv, b, rfl, rfl, rfl, hx, T, hc, ke, q⟩ := h
  obtain ⟨u1, u2, rfl, r1, r2⟩ := vals2 r
  cases (show u1 = Value.ref a from r1)
  have e2 := hc.eq r2
  subst e2
  obtain ⟨hg, _⟩ := I.pin (a, oe) (List.mem_append.mpr (.inl List.mem_cons_self))
  obtain ⟨vs, hv⟩ := hf
  obtain ⟨mA, hns, _⟩ := (show ObjOk X.prog X.w H s.heap dd (.xd fs) from I.hok dd _ hx)
  obtain ⟨od, ho, _⟩ := lookIn_ns hns
  have J : PySem.W.InstAt s.heap a oe D (some od) := ⟨hg, hz.1, by unfold PySem.W.notCls; rw [hv] <;> rfl, by rw [hz.2]; exact ho⟩
  have hcl : (PySem.W.clsIn X.K D).isSome = true := by obtain ⟨cd, h, _⟩ := PySem.W.any_some T.hd; rw [h]; rfl
  exact PySem.W.kia_one (PySem.W.kitx_exc hcl T.hg T.hk T.hs T.ha T.hn T.ht T.hm) I.kIn J ke (fun z => nomatch z) fun tk => ⟨.bl b, H, I.tok tk, rfl, q⟩
end
/-- what __init__ of an error with two fields promises -/
def spErr2 (C : Addr) (f1 f2 : Str) : Sp := fun vs H Q _ => ∃ (a : Addr) (x1 x2 : V), vs = [.ref a, x1, x2] ∧ H a = some (exo a C none) ∧ ∀ dx, H dx = none → dx ≠ a → Q .non (upd (upd (upd H dx (exd dx [(f1, x1)])) a (exo a C (some dx))) dx (exd dx [(f2, x2), (f1, x1)]))
def spErr1 (C : Addr) (f1 : Str) : Sp := fun vs H Q _ => ∃ (a : Addr) (x1 : V), vs = [.ref a, x1] ∧ H a = some (exo a C none) ∧ ∀ dx, H dx = none → dx ≠ a → Q .non (upd (upd H dx (exd dx [(f1, x1)])) a (exo a C (some dx)))
theorem mk_err2 {C : Addr} {f1 f2 : Str} {ta : TA} {σ : L2.St} {H : Hp} {Q : XK} (h : ta σ H fun vs H1 => ∃ x1 x2, vs = [x1, x2] ∧ ∀ d, H1 d = none → Q (.ref C) (some d) (upd H1 d (.xd [(f2, x2), (f1, x1)])))
    (hm : ∀ (Q Q' : List V → Hp → Prop), (∀ vs H, Q vs H → Q' vs H) → ta σ H Q → ta σ H Q') : tMkO C (spErr2 C f1 f2) [] ta σ H Q := by
  refine hm _ _ (fun vs H1 hh => ?_) h
  obtain ⟨x1, x2, rfl, q⟩ := hh
  refine ⟨(by show 2 ≤ 1000; decide), fun a ha => ⟨a, x1, x2, rfl, upd_same, fun dx hdx hne => ?_⟩⟩
  have hd1 : H1 dx = none := by rw [upd_ne hne] at hdx; exact hdx
  refine ⟨rfl, dx, _, ?_, upd_same, hd1, ?_⟩
  · rw [upd_ne hne.symm, upd_same]
  · have e : upd (del (upd (upd (upd (upd H1 a (exo a C none)) dx (exd dx [(f1, x1)])) a (exo a C (some dx))) dx (exd dx [(f2, x2), (f1, x1)])) a) dx (.xd [(f2, x2), (f1, x1)]) = upd H1 dx (.xd [(f2, x2), (f1, x1)]) := by
      funext b
      by_cases hb : b = dx
      · rw [hb, upd_same, upd_same]
      · rw [upd_ne hb, upd_ne hb]
        by_cases hb2 : b = a
        · rw [hb2, del_same, ha]
        · rw [del_ne hb2, upd_ne hb, upd_ne hb2, upd_ne hb, upd_ne hb2]
    rw [e]
    exact q dx hd1
theorem raise_err2 {C : Addr} {f1 f2 : Str} {ta : TA} {W : WX} {D : Ends} {σ : L2.St} {H : Hp} (h : ta σ H fun vs H1 => ∃ x1 x2, vs = [x1, x2] ∧ ∀ d, H1 d = none → W (.ref C) (some d) σ (upd H1 d (.xd [(f2, x2), (f1, x1)])))
    (hm : ∀ (Q Q' : List V → Hp → Prop), (∀ vs H, Q vs H → Q' vs H) → ta σ H Q → ta σ H Q') : tRaise C (spErr2 C f1 f2) W ta D σ H := mk_err2 h hm
end OA

/-! ### operators, makers and errors without own __init__, where something may be raised -/
namespace OA
open PySem PySem.Spec PyProof.Rows L2
/-- an own error's class without own __init__ -/
structure Err0 (K : PySem.W.Frag) (mg : Str → Option Value) (x : Str) (C : Addr) : Prop where
  g : mg x = some (.ref C)
  ex : PySem.W.excIn K C [.type "ValueError", .type "Exception", .type "BaseException", .type "object"] "ValueError.__new__" = true
  k : PySem.W.keepIn K (.ref C) = true
  b : PySem.W.subIn K (.ref C) (.type "BaseException") = some true
  t : PySem.W.typeIn K (.ref C) = some (.type "type")
/-- a class of the top with its __init__, which may raise -/
structure MakerX (P : Program) (w : World) (K : PySem.W.Frag) (mg : Str → Option Value) (base : Heap) (x : Str) (C : Addr) (ps : List Str) (sp : Sp) (k : Nat) : Prop where
  ex : ∃ f fd, FnOk P w K mg base (L2.CX P w) k f fd ps sp ∧ Binds K fd ps [] ∧ mg x = some (.ref C) ∧ Mk K C f
section
variable {X : Cx} {C : Addr} {m x : Str} {ps : List Str} {sp : Sp} {k j : Nat} {W : WX} {e : Expr} {es : List Expr} {t : TA} {p pos pos' : Pos}
def tRaise0 (C : Addr) (W : WX) : TS := fun _ σ H => W (.ref C) none σ H
theorem ps_raise0 (T : Err0 X.K X.mg x C) (tk : Takes X W) (hg : Gl X x) (hc : X.calm = true := by rfl) (hdb : (x == ("__debug__" : Str)) = false := by decide) :
    PS X (.Raise (some (.Call (.Name x p) [] [] pos)) none pos') (tRaise0 C W) := by
  refine L2.ps_raise (t := fun _ H Q => Q (.ref C) none H) hc tk ?_
  intro pins s σ H Q I h
  refine wpAny_Call_Name_kw (ld_glob I hg T.g ?_ hdb)
  refine PySem.W.callWith_K0 I.kIn T.k ?_
  obtain ⟨bm, N, nm, qn, bs, hdct, sn, sub, ab, col, dd, k0, k1, k2, k3, k5, mN, hC, hN, hni, T'⟩ := exc_obj I.kIn T.ex
  refine wpAny_call_exc_subT PySem.F.excBase_ValueError T' hC hN hni (fun h' e hm => ?_) (Nat.zero_le _)
  exact mk_of I hm (raises_own T.b T.t) h (I.hok.gone hm.new)
/-- isinstance(e, c), e the error that the suite holds, without a dict of its own -/
def rIsEN (K : PySem.W.Frag) (a : Addr) (cls : Value) (d : Option Addr) : List V → Hp → VK → Prop := fun xs H Q => ∃ (D : Addr) (c : V) (cv : Value) (b : Bool), xs = [.ref a, c] ∧ cls = .ref D ∧ d = none ∧ ExcC K D ∧ ClsV c cv ∧ PySem.W.kitOne K (.ref D) cv = some b ∧ Q (.bl b) H
theorem call_isEN {a : Addr} {oe : Obj} {cls : Value} {d : Option Addr} {pn : List (Addr × Obj)} (K : PySem.W.Frag) (hz : Zc cls d oe) (hf : ∃ vs, oe.data = .fields vs) (hK : X.K = K := by rfl) : CallR (X.suite a ((a, oe) :: pn)) (.builtin "isinstance") (rIsEN K a cls d) := by
  subst hK
  intro pins s σ H xs us Q I r h
  obtain ⟨D, c, cv, b, rfl, rfl, rfl, T, hc, ke, q⟩ := h
  exact call_isE T hz hf pins s σ H _ us Q I r ⟨c, cv, b, rfl, fun u hu => hc.eq hu, ke, q⟩
theorem pe_opS {a b : Expr} {ta tb : TE} {op : Operator} {r : L2.St → R2} (ho : OpRS X (binaryOp op) r) (ha : PE X a ta) (hb : PE X b tb) : PE X (.BinOp a op b pos) (tOpS r ta tb) := by
  refine ⟨fun pins s σ H Q I h => ?_⟩
  exact wpAny_BinOp (binT ha hb I h fun v u s2 x y H2 I2 rx ry q => ho pins s2 σ H2 x y v u Q I2 rx ry q)
theorem pt_cmpS {a b : Expr} {ta tb : TE} {op : CmpOp} {r : L2.St → R2} (ho : OpRS X (compareOp op) r) (ha : PE X a ta) (hb : PE X b tb) (hm : behindInMarks op b = false) : PT X (.Compare a [op] [b] pos) (tTest (tOpS r ta tb)) := by
  refine ⟨fun pins s σ H Q I h => ?_⟩
  refine wpAny_isTrue_Compare1 (thn (ha.run pins s σ H _ I h) fun v s1 ⟨x, H1, I1, r1, q1⟩ => thn (hb.run pins s1 σ H1 _ I1 q1) fun u s2 ⟨y, H2, I2, r2, q2⟩ =>
    thn (ho pins s2 σ H2 x y v u _ I2 r1 r2 q2) fun c s3 ⟨z, H3, I3, r3, k, e, q3⟩ => ?_) hm
  subst e
  cases r3
  exact wpAny_truthy_bool ⟨H3, I3, q3⟩
/-- x op y of two instances, where the method may raise -/
def rOwn2X (C : Addr) (sp : Sp) (W : WX) : L2.St → R2 := fun σ x y H Q => ∃ a b dx fs dy gs, x = .ref a ∧ y = .ref b ∧ H a = some (.ins C dx fs) ∧ H b = some (.ins C dy gs) ∧ sp [.ref a, .ref b] H Q (WE W σ)
theorem cmp_ownX {op : CmpOp} (hop : ∀ v u, compareOp op v u = richCompare op v u) (hm : (cmpInfo op).2.1 = m) (c : MethodX X.prog X.w X.K X.mg X.base C m ps sp k) (hr : Room j X.A) (hk : k ≤ j) (tk : Takes X W) : OpRS X (compareOp op) (rOwn2X C sp W) := by
  intro pins s σ H x y v u Q I rx ry h
  obtain ⟨f, fd, F, b, cl, M⟩ := c.ex
  obtain ⟨a, b', dx, fs, dy, gs, rfl, rfl, ha, hb, q⟩ := h
  cases (show v = Value.ref a from rx)
  cases (show u = Value.ref b' from ry)
  obtain ⟨mA, J, _⟩ := ins_get I.hok ha
  obtain ⟨mB, J', _⟩ := ins_get I.hok hb
  obtain ⟨od, J, _⟩ := J.look
  obtain ⟨od', J', _⟩ := J'.look
  obtain ⟨m', hF⟩ := I.fr
  rw [hop]
  refine PySem.W.cmp_K (op := op) (tb := .ref C) hr.units0 hF I.ok.mod.kin J J'.type (by simp [PySem.W.notFirst]) (by rw [hm]; exact M.at_) M.fn ?_
  exact wpAny_mono (run_fnS (E := WE W) F (hr.mono hk) b (passAt tk σ) I (vs := [.ref a, .ref b']) (.cons rfl (.cons rfl .nil)) q) (fun v s' hv => back_of hv) fun _ _ z => z
theorem o_le_ownX (c : MethodX X.prog X.w X.K X.mg X.base C "__le__" ps sp k) (hr : Room j X.A) (hk : k ≤ j) (tk : Takes X W) : OpRS X (compareOp .LtE) (rOwn2X C sp W) := cmp_ownX (fun _ _ => rfl) rfl c hr hk tk
theorem bin_ownX {op : Operator} (hm : PySem.dunder op.info.2 = m) (c : MethodX X.prog X.w X.K X.mg X.base C m ps sp k) (hs : PySem.W.selfFirst X.K C = true) (hr : Room j X.A) (hk : k ≤ j) (tk : Takes X W) : OpRS X (binaryOp op) (rOwn2X C sp W) := by
  intro pins s σ H x y v u Q I rx ry h
  obtain ⟨f, fd, F, b, cl, M⟩ := c.ex
  obtain ⟨a, b', dx, fs, dy, gs, rfl, rfl, ha, hb, q⟩ := h
  cases (show v = Value.ref a from rx)
  cases (show u = Value.ref b' from ry)
  obtain ⟨mA, J, _⟩ := ins_get I.hok ha
  obtain ⟨mB, J', _⟩ := ins_get I.hok hb
  obtain ⟨od, J, _⟩ := J.look
  obtain ⟨od', J', _⟩ := J'.look
  obtain ⟨m', hF⟩ := I.fr
  refine PySem.W.binop_K hF I.ok.mod.kin J J'.type hs (by rw [hm]; exact M.at_) M.fn ?_
  exact wpAny_mono (run_fnS (E := WE W) F (hr.mono hk) b (passAt tk σ) I (vs := [.ref a, .ref b']) (.cons rfl (.cons rfl .nil)) q) (fun v s' hv => back_of hv) fun _ _ z => z
theorem o_and_ownX (c : MethodX X.prog X.w X.K X.mg X.base C "__and__" ps sp k) (hs : PySem.W.selfFirst X.K C = true) (hr : Room j X.A) (hk : k ≤ j) (tk : Takes X W) : OpRS X (binaryOp .BitAnd) (rOwn2X C sp W) := bin_ownX (by decide +kernel) c hs hr hk tk
theorem o_or_ownX (c : MethodX X.prog X.w X.K X.mg X.base C "__or__" ps sp k) (hs : PySem.W.selfFirst X.K C = true) (hr : Room j X.A) (hk : k ≤ j) (tk : Takes X W) : OpRS X (binaryOp .BitOr) (rOwn2X C sp W) := bin_ownX (by decide +kernel) c hs hr hk tk
/-- C(e, ..), where __init__ may raise -/
def tMakeS (C : Addr) (sp : Sp) (E : L2.St → XK) (t : TA) : TE := fun σ H Q => t σ H fun vs H1 => ∀ x dx, H1 x = none → H1 dx = none → dx ≠ x → sp (V.ref x :: vs) (upd (upd H1 dx (.own x)) x (.ins C dx [])) (fun v H2 => v = .non ∧ Q (.ref x) H2) (E σ)
theorem run_makeS {f : Addr} {fd : FuncData} {E : L2.St → XK} {pins : List (Addr × Obj)} {σ : L2.St} {H : Hp} {s : Shared} {Q : VK} {us : List Value} {vs : List V} (M : Mk X.K C f) (F : FnOk X.prog X.w X.K X.mg X.base (L2.CX X.prog X.w) k f fd ps sp) (hr : Room (k + 1) X.A) (hb : Binds X.K fd ps [])
    (tk : Takes X W) (I : Inv X pins σ H s) (r : Vals vs us)
    (h : ∀ x dx, H x = none → H dx = none → dx ≠ x → sp (.ref x :: vs) (upd (upd H dx (.own x)) x (.ins C dx [])) (fun v H2 => v = .non ∧ Q (.ref x) H2) (WE W σ)) :
    wpAny (model X.prog X.w) X.A (call (.ref C) us) (EP X pins σ Q) X.xe s := by
  have hq := h (s.heap.objs.size + 1) s.heap.objs.size (I.hok.fresh (Nat.le_succ _)) (I.hok.fresh (Nat.le_refl _)) (Nat.ne_of_lt (Nat.lt_succ_self _))
  have I2 := Inv.made (C := C) I
  have r2 : Vals (V.ref (s.heap.objs.size + 1) :: vs) (Value.ref (s.heap.objs.size + 1) :: us) := .cons rfl r
  have hl : (Value.ref (s.heap.objs.size + 1) :: us ++ []).length = ps.length := by
    have e := r2.length
    rw [F.len _ _ _ _ hq] at e
    rw [List.append_nil]
    exact e.symm
  have hbb := hb _ (Value.ref (s.heap.objs.size + 1) :: us) I2.kIn hl
  rw [List.append_nil] at hbb
  refine wpAny_call (make_map (f := f) I.kIn M.makes M.init (beq_iff_eq.mp M.fn) (codeAny_mono (F.run _ X.stack _ _ ⟨Value.ref (s.heap.objs.size + 1) :: us, []⟩ (Value.ref (s.heap.objs.size + 1) :: us) _ _ (WE W σ) (hr.make C us [])
    (I2.env0.make C us []) hbb r2 hq) fun r s' hq' => ?_))
  cases r with
  | error e => exact passAt tk σ pins _ _ e s' I2 hq'
  | ok fl =>
    cases fl with
    | ret u =>
      obtain ⟨v, H', I3, rv, ev, q3⟩ := I2.after hq'
      subst ev
      exact ⟨rv, ⟨V.ref (s.heap.objs.size + 1), H', I3, rfl, q3⟩⟩
    | next => exact False.elim hq'
    | brk => exact False.elim hq'
    | cont => exact False.elim hq'
theorem pe_mkX (c : MakerX X.prog X.w X.K X.mg X.base x C ps sp k) (hr : Room j X.A) (hk : k + 1 ≤ j) (tk : Takes X W) (hg : Gl X x) (ha : PA X (e :: es) t)
    (hdb : (x == ("__debug__" : Str)) = false := by decide) (he : starEach (e :: es) X.env = (false, eval e X.env) :: starEach es X.env := by rfl) (hpl : (backTo pos (starEach es X.env)).any (·.1) = false := by rfl) :
    PE X (.Call (.Name x p) (e :: es) [] pos) (tMakeS C sp (WE W) t) := by
  obtain ⟨f, fd, F, b, mm, M⟩ := c.ex
  refine ⟨fun pins s σ H Q I h => ?_⟩
  refine wpAny_Call_Name_kw (ld_glob I hg mm ?_ hdb)
  refine PySem.W.callWith_K (h₀ := X.base) I.ok.mod.kin M.kp (thn (ha.run pos pins s σ H _ I h) fun us s1 ⟨vs, H1, I1, r, q⟩ => ⟨I1.kIn, ?_⟩) he hpl
  exact run_makeS (E := WE W) M F (hr.mono hk) b tk I1 r q
end
section
variable {X : Cx} {k : Nat}
theorem o_inD (K : PySem.W.Frag) (hr : Room k X.A) (h : X.K = K := by rfl) : OpR X (compareOp .In) (rInD K) := by subst h; exact op_inD (by have := hr.un; omega)
theorem o_notinD (K : PySem.W.Frag) (hr : Room k X.A) (h : X.K = K := by rfl) : OpR X (compareOp .NotIn) (rNotInD K) := by subst h; exact op_notInD (by have := hr.un; omega)
end
theorem mk_err1 {C : Addr} {f1 : Str} {ta : TA} {σ : L2.St} {H : Hp} {Q : XK} (h : ta σ H fun vs H1 => ∃ x1, vs = [x1] ∧ ∀ d, H1 d = none → Q (.ref C) (some d) (upd H1 d (.xd [(f1, x1)])))
    (hm : ∀ (Q Q' : List V → Hp → Prop), (∀ vs H, Q vs H → Q' vs H) → ta σ H Q → ta σ H Q') : tMkO C (spErr1 C f1) [] ta σ H Q := by
  refine hm _ _ (fun vs H1 hh => ?_) h
  obtain ⟨x1, rfl, q⟩ := hh
  refine ⟨(by show 1 ≤ 1000; decide), fun a ha => ⟨a, x1, rfl, upd_same, fun dx hdx hne => ?_⟩⟩
  have hd1 : H1 dx = none := by rw [upd_ne hne] at hdx; exact hdx
  refine ⟨rfl, dx, [(f1, x1)], upd_same, ?_, hd1, ?_⟩
  · rw [upd_ne hne, upd_same]
  · have e : upd (del (upd (upd (upd H1 a (exo a C none)) dx (exd dx [(f1, x1)])) a (exo a C (some dx))) a) dx (.xd [(f1, x1)]) = upd H1 dx (.xd [(f1, x1)]) := by
      funext b
      by_cases hb : b = dx
      · rw [hb, upd_same, upd_same]
      · rw [upd_ne hb, upd_ne hb]
        by_cases hb2 : b = a
        · rw [hb2, del_same, ha]
        · rw [del_ne hb2, upd_ne hb2, upd_ne hb, upd_ne hb2]
    rw [e]
    exact q dx hd1
theorem raise_err1 {C : Addr} {f1 : Str} {ta : TA} {W : WX} {D : Ends} {σ : L2.St} {H : Hp} (h : ta σ H fun vs H1 => ∃ x1, vs = [x1] ∧ ∀ d, H1 d = none → W (.ref C) (some d) σ (upd H1 d (.xd [(f1, x1)])))
    (hm : ∀ (Q Q' : List V → Hp → Prop), (∀ vs H, Q vs H → Q' vs H) → ta σ H Q → ta σ H Q') : tRaise C (spErr1 C f1) W ta D σ H := mk_err1 h hm
end OA

/-! ### several except clauses; a caught error is a value of the heap; defs that are called in a suite -/
namespace OA
open PySem PySem.Spec PyProof.Rows L2
/-- a caught error: its class, its dict -/
def errO (a : Addr) (cls : Value) (d : Option Addr) : HO := .ext fun h => ∃ (oe : Obj) (vs : Array Value), h.get? a = some oe ∧ Zc cls d oe ∧ oe.data = .fields vs
theorem errO_ok {P : Program} {w : World} {H : Hp} {h : Heap} {a : Addr} {cls : Value} {d : Option Addr} {oe : Obj} {vs : Array Value} (e : h.get? a = some oe) (z : Zc cls d oe) (f : oe.data = .fields vs) : ObjOk P w H h a (errO a cls d) :=
  ⟨⟨oe, vs, e, z, f⟩, ⟨oe, e⟩, fun _ _ ⟨o1, v1, e1, z1, f1⟩ k => ⟨o1, v1, k _ e1, z1, f1⟩⟩
theorem errO_at {P : Program} {w : World} {H : Hp} {h : Heap} (ok : HOk P w H h) {a : Addr} {cls : Value} {d : Option Addr} (e : H a = some (errO a cls d)) : ∃ (oe : Obj) (vs : Array Value), h.get? a = some oe ∧ Zc cls d oe ∧ oe.data = .fields vs := by
  have z : ObjOk P w H h a (.ext fun h => ∃ (oe : Obj) (vs : Array Value), h.get? a = some oe ∧ Zc cls d oe ∧ oe.data = .fields vs) := ok a _ e
  exact z.1
section
variable {X : Cx} {pins : List (Addr × Obj)} {σ : L2.St} {H : Hp} {s : Shared}
/-- what stands in the heap unseen is seen from now on -/
theorem inv_tracks {a : Addr} {o : HO} {oe : Obj} {vs : Array Value} (I : Inv X pins σ H s) (ha : s.heap.get? a = some oe) (hd : oe.data = .fields vs) (na : H a = none) (n0 : X.s_0.heap.get? a = none) (nL : a ≠ X.env.locals) (np : ∀ p ∈ X.pn ++ pins, p.1 ≠ a)
    (ok : ObjOk X.prog X.w (upd H a o) s.heap a o) : Inv X pins σ (upd H a o) s := by
  have up : ∀ {b : Addr} {u : HO}, H b = some u → upd H a o b = some u := fun e => by rw [upd_ne (ne_of_none e na)]; exact e
  have un : ∀ {b : Addr}, b ≠ a → H b = none → upd H a o b = none := fun n e => by rw [upd_ne n]; exact e
  refine ⟨I.ok, I.os, I.bare, ⟨I.base.keep, I.base.slot, fun b u e n x => un (fun z => ?_) (I.base.free b u e n x), I.base.there, fun b xs e => up (I.base.tups b xs e), fun b u v e => up (I.base.frzs b u v e), fun b ps e => ?_⟩, I.loc, I.cell, un (Ne.symm nL) I.free, fun x c e => un (fun z => ?_) (I.freeC x c e), fun p hp => ?_, I.hok.laidN (fun _ _ z => z) na ok, I.len⟩
  · rw [z, n0] at e; cases e
  · obtain ⟨m, h⟩ := I.base.tbls b ps e
    exact ⟨m, up h⟩
  · obtain ⟨v, o', h1, h2⟩ := I.cell x c e
    rw [z, ha] at h1
    cases h1
    rw [hd] at h2
    cases h2
  · obtain ⟨h1, h2, h3⟩ := I.pin p hp
    exact ⟨h1, un (np p hp) h2, h3⟩
theorem inv_into (I : Inv X pins σ H s) (a : Addr) : Inv (X.suite a (X.pn ++ pins)) [] σ H s :=
  ⟨I.ok.suite _ _, I.os, I.bare, I.base, I.loc, I.cell, I.free, I.freeC, fun p hp => I.pin p (by rw [List.append_nil] at hp; exact hp), I.hok, I.len⟩
theorem inv_out {a : Addr} {p2 : List (Addr × Obj)} (I : Inv (X.suite a (X.pn ++ pins)) p2 σ H s) (ok : X.Ok) : Inv X pins σ H s :=
  ⟨ok, I.os, I.bare, I.base, I.loc, I.cell, I.free, I.freeC, fun p hp => I.pin p (List.mem_append_left _ hp), I.hok, I.len⟩
end
def offD : Option Nat → Ends → Ends
  | none, D => D
  | some i, D => { nx := fun σ H => D.nx (σ.set i none) H, rt := D.rt, bk := fun σ H => D.bk (σ.set i none) H, ct := fun σ H => D.ct (σ.set i none) H }
def onS : Option Nat → L2.St → Addr → L2.St
  | none, σ, _ => σ
  | some i, σ, a => σ.set i (some (.ref a))
/-- what the clauses wish of an error: class, slot, suite -/
def wMix (K : PySem.W.Frag) (Wout : WX) (D : Ends) : List (Value × Option Nat × TS) → WX
  | [] => Wout
  | (c, oi, ts) :: r => fun cls d σ H => ∃ b, PySem.W.exmOne K cls c = some b ∧ (b = true → ∀ a, H a = none → ts (offD oi D) (onS oi σ a) (upd H a (errO a cls d))) ∧ (b = false → wMix K Wout D r cls d σ H)
inductive HsOk (X : Cx) : List ExceptHandler → List (Value × Option Nat × TS) → Prop
  | nil : HsOk X [] []
  | as {x n : Str} {i : Nat} {c : Value} {ts : TS} {b : Stmt} {bs : List Stmt} {q q' : Pos} {hds : List ExceptHandler} {l : List (Value × Option Nat × TS)} (hc : Names X x c) (hi : X.N[i]? = some n) (hl : X.env.kindOf n = some .local)
      (su : ∀ (a : Addr) (pn : List (Addr × Obj)), PSs (X.suite a pn) (b :: bs) ts) (r : HsOk X hds l) : HsOk X (.ExceptHandler (some (.Name x q)) (some n) (b :: bs) q' :: hds) ((c, some i, ts) :: l)
  | bare {x : Str} {c : Value} {ts : TS} {b : Stmt} {bs : List Stmt} {q q' : Pos} {hds : List ExceptHandler} {l : List (Value × Option Nat × TS)} (hc : Names X x c)
      (su : ∀ (a : Addr) (pn : List (Addr × Obj)), PSs (X.suite a pn) (b :: bs) ts) (r : HsOk X hds l) : HsOk X (.ExceptHandler (some (.Name x q)) none (b :: bs) q' :: hds) ((c, none, ts) :: l)
def tMix (K : PySem.W.Frag) (Wout : WX) (tb : WX → TS) (l : List (Value × Option Nat × TS)) : TS := fun D σ H => tb (wMix K Wout D l) D σ H
section
variable {X : Cx} {body : List Stmt} {h0 : ExceptHandler} {hds : List ExceptHandler} {l : List (Value × Option Nat × TS)} {pos : Pos} {tb : WX → TS} {Wout : WX}
theorem ps_try_mix (K : PySem.W.Frag) (hK : X.K = K) (hx : X.ex = []) (hs : X.stack = X.env :: X.outer) (hf : X.env.frame = some X.env.locals) (hN : X.N.Nodup) (tk : Takes X Wout)
    (hb : ∀ (W : WX) (pn : List (Addr × Obj)) (xe : Value → Shared → Prop), Takes (X.tr pn xe) W → PassesOwn (model X.prog X.w) X.A X.env xe → PSs (X.tr pn xe) body (tb W))
    (hh : HsOk X (h0 :: hds) l) : PS X (.Try body (h0 :: hds) [] [] pos) (tMix K Wout tb l) := by
  subst hK
  refine ⟨fun pins s σ H D I h => wpAny_Try_except ?_⟩
  have ok := I.ok
  have fr : X.A.frames = some (X.env :: X.outer) := hs ▸ ok.frames
  have caught : ∀ (u : Value) (s' : Shared), XE (X.tr (X.pn ++ pins) fun e s₁ => wpAny (model X.prog X.w) X.A (noteFrame e X.env) (fun _ s₂ => wpAny (model X.prog X.w) X.A (setFlight e none) (fun _ s₃ => wpAny (model X.prog X.w) X.A (handleBy e X.env (h0 :: hds)) (SP X pins D) X.xe s₃) X.xe s₂) X.xe s₁) (wMix X.K Wout D l) u s' →
      wpAny (model X.prog X.w) X.A (noteFrame u X.env) (fun _ s₂ => wpAny (model X.prog X.w) X.A (setFlight u none) (fun _ s₃ => wpAny (model X.prog X.w) X.A (handleBy u X.env (h0 :: hds)) (SP X pins D) X.xe s₃) X.xe s₂) X.xe s' := by
    rintro u s' ⟨a, B, sI, p', τ, H', cls, d, rfl, J', nb, up, sky, na, os, ag, w⟩
    have J : Inv X pins τ H' sI := Inv.ofTry J' ok
    refine Sky.land Zc.steady fr hf (show Sky B (X.env :: X.outer) a (Zc cls d) X.env.locals s'.heap from hs ▸ sky) fun h3 fl up3 => ?_
    obtain ⟨oe, vs, g1, g2, g3⟩ := fl.there
    have nf : a ∉ frs (X.env :: X.outer) := fun hm => by
      obtain ⟨_, o', e', z⟩ := fl.2.2.1.mem hm
      rw [g1] at e'; cases e'
      exact z _ g3
    have gone : sI.heap.get? a = none := by
      cases e : sI.heap.get? a with
      | none => rfl
      | some o => have z := nb a o e (by rw [hs]; exact nf); rw [fl.2.1] at z; cases z
    have n0 : X.s_0.heap.get? a = none := by
      cases e : X.s_0.heap.get? a with
      | none => rfl
      | some o => obtain ⟨o', z⟩ := J.base.there a o e (by rw [hx]; exact List.not_mem_nil); rw [gone] at z; cases z
    have nL : a ≠ X.env.locals := fun z => nf (List.mem_filterMap.mpr ⟨X.env, List.mem_cons_self, by rw [hf, z]⟩)
    have np : ∀ p ∈ X.pn ++ pins, p.1 ≠ a := fun p hp z => by have e := (J.pin p hp).1; rw [z, gone] at e; cases e
    have land : ∀ {h4 : Heap}, HandSPX.FlyingZ B (X.env :: X.outer) a (Zc cls d) h4 → s'.heap.UpToSlots h4 → Inv X pins τ H' { s' with heap := h4 } := fun {h4} f4 u4 => J.landed nb f4.1 (up.trans u4) os ag
    have J3 := inv_into (land fl up3) a
    -- the end of a suite
    have fin : ∀ {oi : Option Nat} {nm : Option Str} {q' : Pos} {f : Flow} {s6 : Shared}, (∀ i, oi = some i → ∃ n, nm = some n ∧ X.N[i]? = some n ∧ X.env.kindOf n = some .local) → (oi = none → nm = none) → SP (X.suite a (X.pn ++ pins)) [] (offD oi D) f s6 →
        (match nm with | none => SP X pins D f s6 | some n => wpAny (model X.prog X.w) X.A (do bindName X.env n .none; unbindBehindTheSuite X.env n q') (fun _ s7 => SP X pins D f s7) X.xe s6) := by
      intro oi nm q' f s6 h1 h2 hsp
      cases oi with
      | none =>
        rw [h2 rfl]
        cases f with
        | ret u => obtain ⟨v6, τ6, H6, S6, r6, z6⟩ := hsp; exact ⟨v6, τ6, H6, inv_out S6 ok, r6, z6⟩
        | _ => obtain ⟨τ6, H6, S6, z6⟩ := hsp; exact ⟨τ6, H6, inv_out S6 ok, z6⟩
      | some i =>
        obtain ⟨n, rfl, hi, hl⟩ := h1 i rfl
        cases f with
        | ret u => obtain ⟨v6, τ6, H6, S6, r6, z6⟩ := hsp; exact gone_ok (inv_out S6 ok) hN hi hl fun s7 S7 => ⟨v6, _, H6, S7, r6, z6⟩
        | _ => obtain ⟨τ6, H6, S6, z6⟩ := hsp; exact gone_ok (inv_out S6 ok) hN hi hl fun s7 S7 => ⟨_, H6, S7, z6⟩
    -- a clause's class
    have test : ∀ {x : Str} {q : Pos} {c : Value} {b : Bool} {Q : Value → Shared → Prop} {E : Value → Shared → Prop}, Names X x c → Q c { s' with heap := h3 } → wpAny (model X.prog X.w) (X.A.mark (some (.ref a))) (eval (.Name x q) X.env) Q E { s' with heap := h3 } := by
      rintro x q c b Q E ⟨hg, hdb, hm | ⟨hm, hv, hn⟩⟩ k
      · exact ld_glob (X := X.suite a (X.pn ++ pins)) J3 hg hm k hdb
      · exact ld_blt (X := X.suite a (X.pn ++ pins)) J3 hg hm hv k hn hdb
    have look : ∀ {c : Value} {b : Bool}, PySem.W.exmOne X.K cls c = some b → PySem.W.Looks (model X.prog X.w) h3 (excMatches (.ref a) c) b := fun e =>
      PySem.W.exm_one (M := model X.prog X.w) J3.kIn (fun A Q E s k z => wpAny_typeOf_ref (k _ _ g1) (by rw [g2.1]; exact z)) e
    have again : ∀ {Q : Unit → Shared → Prop} {E : Value → Shared → Prop}, (∀ h4 : Heap, Inv (X.suite a (X.pn ++ pins)) [] τ (upd H' a (errO a cls d)) { s' with heap := h4 } → Q () { s' with heap := h4 }) → wpAny (model X.prog X.w) (X.A.mark (some (.ref a))) (setFlight (.ref a) none) Q E { s' with heap := h3 } := by
      intro Q E k
      refine HandSPX.lands_againZ fl fun h4 f4 u4 => k h4 ?_
      obtain ⟨o4, v4, k1, k2, k3⟩ := f4.there
      exact inv_into (inv_tracks (land f4 (up3.trans u4)) k1 k3 na n0 nL np (errO_ok k1 k2 k3)) a
    have go : ∀ {hs' : List ExceptHandler} {l' : List (Value × Option Nat × TS)}, HsOk X hs' l' → wMix X.K Wout D l' cls d τ H' → wpAny (model X.prog X.w) X.A (handleBy (.ref a) X.env hs') (SP X pins D) X.xe { s' with heap := h3 } := by
      intro hs' l' hk
      induction hk with
      | nil =>
        intro w
        have on : wpAny (model X.prog X.w) X.A (setFlight (.ref a) X.env.frame) (fun _ s4 => wpAny (model X.prog X.w) X.A (throw (.ref a) : Sem Flow) (SP X pins D) X.xe s4) X.xe { s' with heap := h3 } := by
          rw [hf]
          exact HandSPX.setFlight_upZ fl fun h4 hh4 u4 => wpAny_throw (tk _ _ ⟨a, B, sI, pins, τ, H', cls, d, rfl, J, nb, (up.trans up3).trans u4, .inr (.inr (hs ▸ hh4)), na, os, ag, w⟩)
        obtain ⟨_, _, _, oe, v2, T, oT, t2, he, _, hd, h1, _⟩ := id fl
        refine wpAny_handleBy_nil ?_
        unfold PySem.passOn
        refine wpAny_bind (wpAny_field he hd h1 ?_)
        rw [if_neg (show ¬ ((Value.ref T == Value.none) = true) by simp)]
        first | exact wpAny_bind (wpAny_pure (wpAny_bind on)) | exact wpAny_bind on
      | @as x n i c ts b₀ bs q q' hds2 l2 hc hi hl su r ih =>
        rintro ⟨b, e, yes, no⟩
        refine wpAny_handleBy_cons (codeAny_handlers_test (test (b := b) hc ((look e).here ?_))) (fun z => nomatch z)
        cases b with
        | true => exact codeAny_handlers_suite_as (again fun h4 S4 => store_ok (X := X.suite a (X.pn ++ pins)) (v := .ref a) S4 hN hi (.inl hl) rfl (fun s5 S5 => wpAny_mono ((su a _).run [] s5 _ _ _ S5 (yes rfl a na)) (fun f s6 z => fin (oi := some i) (nm := some n) (fun j ej => by cases ej; exact ⟨n, rfl, hi, hl⟩) (fun z => nomatch z) z) fun _ _ z => False.elim z) (.inr hl))
        | false => exact ih (no rfl)
      | @bare x c ts b₀ bs q q' hds2 l2 hc su r ih =>
        rintro ⟨b, e, yes, no⟩
        refine wpAny_handleBy_cons (codeAny_handlers_test (test (b := b) hc ((look e).here ?_))) (fun z => nomatch z)
        cases b with
        | true => exact codeAny_handlers_suite (again fun h4 S4 => wpAny_mono ((su a _).run [] _ _ _ _ S4 (yes rfl a na)) (fun f s6 z => fin (oi := none) (nm := none) (q' := q') (fun j ej => nomatch ej) (fun _ => rfl) z) fun _ _ z => False.elim z)
        | false => exact ih (no rfl)
    exact go hh w
  refine wpAny_mono ((hb _ (X.pn ++ pins) _ caught PassesOwn.looking).run [] s σ H D (I.toTry _) h) (fun f s1 hsp => ?_) (fun _ _ z => z)
  cases f with
  | ret u => obtain ⟨v1, τ, H1, J, r1, z⟩ := hsp; exact ⟨v1, τ, H1, J.ofTry ok, r1, z⟩
  | next => obtain ⟨τ, H1, J, z⟩ := hsp; exact wpAny_execs_nil ⟨τ, H1, J.ofTry ok, z⟩
  | _ => obtain ⟨τ, H1, J, z⟩ := hsp; exact ⟨τ, H1, J.ofTry ok, z⟩
end
/-! ### isinstance and fields of a caught error -/
def rIsR (K : PySem.W.Frag) : List V → Hp → VK → Prop := fun xs H Q => (∃ (a D : Addr) (d : Option Addr) (c : V) (cv : Value) (b : Bool), xs = [.ref a, c] ∧ H a = some (errO a (.ref D) d) ∧ (∀ x, d = some x → ∃ fs, H x = some (.xd fs)) ∧ ExcC K D ∧ ClsV c cv ∧ PySem.W.kitOne K (.ref D) cv = some b ∧ Q (.bl b) H) ∨ rIsi K xs H Q
theorem call_isR {X : Cx} (K : PySem.W.Frag) (hK : X.K = K := by rfl) : CallR X (.builtin "isinstance") (rIsR K) := by
  subst hK
  intro pins s σ H xs us Q I r h
  rcases h with ⟨a, D, d, c, cv, b, rfl, ha, hd, T, hc, ke, q⟩ | h
  · obtain ⟨u1, u2, rfl, r1, r2⟩ := vals2 r
    cases (show u1 = Value.ref a from r1)
    have e2 := hc.eq r2
    subst e2
    obtain ⟨oe, vs, g1, g2, g3⟩ := errO_at I.hok ha
    obtain ⟨oc, od, oda, osl⟩ := oe
    obtain ⟨z1, z2⟩ := g2
    dsimp only at z1 z2 g3
    subst z1 z2 g3
    cases od with
    | none =>
      have J : PySem.W.InstAt s.heap a _ D none := ⟨g1, rfl, rfl, trivial⟩
      exact PySem.W.kia_one (PySem.W.handS_kitx_exc T.hg T.hk T.hs T.hd T.ha T.hn T.ht T.hm) I.kIn J ke (fun z => nomatch z) fun tk => ⟨.bl b, H, I.kept (t' := tk) fun _ _ z => z, rfl, q⟩
    | some x =>
      obtain ⟨fs, hx⟩ := hd x rfl
      obtain ⟨mA, hns, _⟩ := (show ObjOk X.prog X.w H s.heap x (.xd fs) from I.hok x _ hx)
      obtain ⟨od, ho, _⟩ := lookIn_ns hns
      have J : PySem.W.InstAt s.heap a _ D (some od) := ⟨g1, rfl, rfl, ho⟩
      have hcl : (PySem.W.clsIn X.K D).isSome = true := by obtain ⟨cd, h, _⟩ := PySem.W.any_some T.hd; rw [h]; rfl
      exact PySem.W.kia_one (PySem.W.kitx_exc hcl T.hg T.hk T.hs T.ha T.hn T.ht T.hm) I.kIn J ke (fun z => nomatch z) fun tk => ⟨.bl b, H, I.kept (t' := tk) fun _ _ z => z, rfl, q⟩
  · exact call_isi pins s σ H xs us Q I r h
def tXfR (K : PySem.W.Frag) (n : Str) (te : TE) : TE := fun σ H Q => te σ H fun x H1 => ∃ (C a d : Addr) (fs : List (Str × V)) (v : V), XfC K C ∧ PySem.W.findIn K (.ref C) n = some none ∧ x = .ref a ∧ H1 a = some (errO a (.ref C) (some d)) ∧ H1 d = some (.xd fs) ∧ fs.lookup n = some v ∧ Q v H1
theorem pe_xfR {X : Cx} {e : Expr} {te : TE} {n : Str} {pos : Pos} (K : PySem.W.Frag) (he : PE X e te) (hb : attributeBase e n X.env (eval e X.env) = eval e X.env := by rfl) (hK : X.K = K := by rfl) : PE X (.Attribute e n pos) (tXfR K n te) := by
  subst hK
  refine ⟨fun pins s σ H Q I h => attr_of hb (thn (he.run pins s σ H _ I h) fun u s1 hh => ?_)⟩
  obtain ⟨x, H1, I1, rx, C, a, d, fs, v, T, hno, ex, ha, hd, l, q⟩ := hh
  subst ex
  obtain rfl : u = Value.ref a := rx
  obtain ⟨oe, vs, g1, g2, g3⟩ := errO_at I1.hok ha
  obtain ⟨oc, od, oda, osl⟩ := oe
  obtain ⟨z1, z2⟩ := g2
  dsimp only at z1 z2 g3
  subst z1 z2 g3
  obtain ⟨mA, hns, hr⟩ := (show ObjOk X.prog X.w H1 s1.heap d (.xd fs) from I1.hok d _ hd)
  obtain ⟨od, ho, hl⟩ := lookIn_ns hns
  obtain ⟨u, hu, ru⟩ := RelO.some_of (v := v) (o := mA n) (by rw [← l]; exact hr n)
  have J : PySem.W.InstAt s1.heap a _ C (some od) := ⟨g1, rfl, rfl, ho⟩
  exact HandSPX.exc_get I1.kIn J T.ga T.gg T.exC (PySem.W.findObj_own T.hdC hno rfl (by rw [hl, hu])) (handed_of ru) ⟨v, H1, I1.tok _, ru, q⟩
/-! ### a def that is called in a suite: no loops, no calls, no raising there -/
structure RoomW (k : Nat) (A : Around) : Prop where
  dp : A.depth + 3 * k + 5 < recursionLimit
  un : A.units + 16 * k + 200 < cLine
theorem roomW {k : Nat} {A : Around} (r : Room k A) : RoomW k A := ⟨r.dp, r.un⟩
theorem roomM {k : Nat} {A : Around} {h : Option Value} (r : Room k A) : RoomW k (A.mark h) := ⟨r.dp, r.un⟩
theorem RoomW.mono {j k : Nat} {A : Around} (r : RoomW k A) (h : j ≤ k) : RoomW j A := ⟨by have := r.dp; omega, by have := r.un; omega⟩
structure FnW (P : Program) (w : World) (K : PySem.W.Frag) (mg : Str → Option Value) (base : Heap) (k : Nat) (f : Addr) (fd : FuncData) (ps : List Str) (sp : Sp) : Prop where
  len : ∀ vs H Q E, sp vs H Q E → vs.length = ps.length
  run : ∀ (A : Around) (outer : List Env) (s : Shared) (H : Hp) (args : Args) (us : List Value) (vs : List V) (Q : VK), RoomW k A → Env0 P w K mg base A outer s H → BindsTo s fd args (ps.zip us) → Vals vs us → sp vs H Q E0 →
    codeAny (model P w) A (.call (.ref f) args) (CR CX0 outer P w H s Q E0) s
def cxW (P : Program) (w : World) (K : PySem.W.Frag) (mg : Str → Option Value) (base : Heap) (N : List Str) (qual : Str) (sc : Scope) (f : Addr) (cd : Value) (A : Around) (outer : List Env) (s : Shared) (H : Hp) : Cx :=
  { cxOf CX0 P w K mg base N qual sc f cd A outer s H E0 with calm := false, xe := fun _ _ => False }
section
variable {P : Program} {w : World} {K : PySem.W.Frag} {mg : Str → Option Value} {base : Heap}
theorem fun_okW {x qual : Str} {st : Stmt} {f : Addr} {fd : FuncData} {N ps : List Str} {k : Nat} {sp : Sp} (F : Fun K x qual st f fd) (S : FnScope N ps (defScope st)) (len : ∀ vs H Q E, sp vs H Q E → vs.length = ps.length)
    (hbody : ∀ (cdv : Value) (A : Around) (outer : List Env) (s : Shared) (H : Hp) (vs : List V) (Q : VK), sp vs H Q E0 → ∃ t, PSs (cxW P w K mg base N qual (defScope st) f cdv A outer s H) (defBody st) t ∧ t { nx := fun _ H' => Q .non H', rt := Q } (L2.start N vs) H) :
    FnW P w K mg base (k + 1) f fd ps sp := by
  obtain ⟨oc, od, kV, doc, pm, an, cdv, ct, osl, rfl, lk, hcd⟩ := F.ex
  refine ⟨len, fun A outer s H args us vs Q hr e0 hb r hsp => ?_⟩
  have stay : ∀ {b : Addr} {o : Obj}, base.get? b = some o → s.heap.get? b = some o := fun e => (e0.bs _ _ e).1
  have KX : K.In s.heap := e0.mod.kin.keeps fun b o e => stay e
  refine codeAny_call_function (by have := hr.dp; omega) (KX _ _ lk) rfl S.co S.gen rfl (PySem.W.codeRec_of KX hcd) (hb _ _ _ _ (wpAny_newFunctionEnv_cells S.kind (fun ⟨n, v⟩ hy => ?_) fun env he s1 z => ?_))
  · rcases S.par n (List.of_mem_zip hy).1 with q | q
    · exact .inl q
    · exact .inr ⟨q, PySem.W.cellsFrom_some _ _ _ (.inl q)⟩
  · subst he
    refine ⟨(e0.mod.nolimit.keeps fun b o e => stay e).keeps z.toInCall.keep, codeAny_func ?_⟩
    obtain ⟨t, ht, hq⟩ := hbody cdv A outer s H vs Q hsp
    have e1 : Env0 P w K mg base { A with handled := none } outer s H := ⟨e0.frames, e0.mod, e0.bs, e0.bsz, e0.funs, e0.frf, e0.hok, e0.bare⟩
    have I0 := inv_start (CX := CX0) (E := E0) (f := f) (qual := qual) (cd := cdv) S (A := { A with handled := none }) rfl e1 (len _ _ _ _ hsp) r z
    have k0 := I0.ok
    have I : Inv (cxW P w K mg base N qual (defScope st) f cdv A outer s H) [] (L2.start N vs) H s1 :=
      ⟨⟨k0.mod, k0.kind, k0.glob, k0.blt, k0.above, k0.inj, k0.has, k0.cab, (fun z => Bool.noConfusion z), Around.frames_deeper e0.frames, k0.stk, k0.exf, k0.bs, k0.bsz, k0.noex, k0.exfs, k0.funs, k0.frf⟩, I0.os, I0.bare, I0.base, I0.loc, I0.cell, I0.free, I0.freeC, I0.pin, I0.hok, I0.len⟩
    refine wpAny_mono (ht.run [] s1 (L2.start N vs) H _ I hq) (fun fl s' hs => ?_) fun e s' hs => False.elim hs
    cases fl with
    | ret u => obtain ⟨v, τ, H', J, rv, q⟩ := hs; exact ⟨v, H', J.os, J.bare, J.base, J.hok, rv, q⟩
    | next => obtain ⟨τ, H', J, q⟩ := hs; exact ⟨.non, H', J.os, J.bare, J.base, J.hok, rfl, q⟩
    | _ => obtain ⟨_, _, _, q⟩ := hs; exact False.elim q
structure CalleeW (P : Program) (w : World) (K : PySem.W.Frag) (mg : Str → Option Value) (base : Heap) (x : Str) (ps : List Str) (sp : Sp) (k : Nat) : Prop where
  ex : ∃ f fd, FnW P w K mg base k f fd ps sp ∧ Binds K fd ps [] ∧ mg x = some (.ref f) ∧ PySem.W.keepIn K (.ref f) = true
theorem pe_coW {X : Cx} {x : Str} {ps : List Str} {sp : Sp} {k j : Nat} {e : Expr} {es : List Expr} {t : TA} {p pos : Pos} (c : CalleeW X.prog X.w X.K X.mg X.base x ps sp k) (hr : RoomW j X.A) (hk : k ≤ j) (hg : Gl X x) (ha : PA X (e :: es) t)
    (hdb : (x == ("__debug__" : Str)) = false := by decide) (he : starEach (e :: es) X.env = (false, eval e X.env) :: starEach es X.env := by rfl) (hpl : (backTo pos (starEach es X.env)).any (·.1) = false := by rfl) :
    PE X (.Call (.Name x p) (e :: es) [] pos) (tCall sp [] E0 t) := by
  obtain ⟨f, fd, F, b, mm, kp⟩ := c.ex
  refine ⟨fun pins s σ H Q I h => wpAny_Call_Name_kw (ld_glob I hg mm ?_ hdb)⟩
  refine PySem.W.callWith_K (h₀ := X.base) I.ok.mod.kin kp (thn (ha.run pos pins s σ H _ I h) fun us s1 ⟨vs, H1, I1, r, q⟩ => ⟨I1.kIn, ?_⟩) he hpl
  have q : sp (vs ++ []) H1 Q E0 := q
  rw [List.append_nil] at q
  have bb := b s1 us I1.kIn (by rw [List.append_nil, ← r.length]; exact F.len _ _ _ _ q)
  rw [List.append_nil] at bb
  refine wpAny_call (codeAny_mono (F.run X.A X.stack s1 H1 ⟨us, []⟩ us vs Q (hr.mono hk) I1.env0 bb r q) fun r s' hq => ?_)
  cases r with
  | error e => exact False.elim hq
  | ok fl =>
    cases fl with
    | ret u => exact I1.after hq
    | _ => exact False.elim hq
end
end OA

/-! ### methods with arguments and defaults, staticmethods, what is never reached -/
namespace OA
open PySem PySem.Spec PyProof.Rows L2
/-- a method, the values of its defaults behind the arguments -/
structure MethodD (P : Program) (w : World) (K : PySem.W.Frag) (mg : Str → Option Value) (base : Heap) (C : Addr) (m : Str) (ps : List Str) (sp : Sp) (k : Nat) (dvs : List V) : Prop where
  ex : ∃ f fd, FnOk P w K mg base CX0 k f fd ps sp ∧ (∃ ds, Vals dvs ds ∧ Binds K fd ps ds) ∧ Cls K C ∧ Meth K C m f
/-- a staticmethod of a class of the top -/
structure Static (P : Program) (w : World) (K : PySem.W.Frag) (mg : Str → Option Value) (base : Heap) (C : Addr) (m : Str) (ps : List Str) (sp : Sp) (k : Nat) : Prop where
  ex : ∃ g fd p mc rest, FnOk P w K mg base CX0 k g fd ps sp ∧ Binds K fd ps [] ∧ ClX.CRead K C mc ∧ PySem.W.findCls K (.ref C) mc m = some (.get (.builtin "staticmethod.__get__") (.ref p) .none (.ref C)) ∧ PySem.W.recIn K p "staticmethod" = some (.ref g :: rest) ∧ PySem.W.keepIn K (.ref g) = true
section
variable {X : Cx} {C : Addr} {m x : Str} {ps : List Str} {sp : Sp} {k j : Nat} {o e : Expr} {es : List Expr} {ta : TE} {t : TA} {apos pos : Pos} {dvs : List V} {pl : Sem Bool}
theorem o_notinsign : OpR X (compareOp .NotIn) (fun x y H Q => ∃ (c : Nat) (z : Str), x = .str ⟨#[c]⟩ ∧ y = .str z ∧ Q (.bl (!decide (c ∈ z.cps.toList))) H) := op_notIn_sign
theorem i_enum (K : PySem.W.Frag) {e : Expr} {ta : TA} {p pos tpos : Pos} {elts : List Expr} {kk : Nat} (hg : Gl X "enumerate") (hm : X.mg "enumerate" = none) (ha : PA X [e] ta) (hs : starEach [e] X.env = [(false, eval e X.env)] := by rfl) (h : X.K = K := by rfl) :
    PI X (.Tuple elts kk tpos) (.Call (.Name "enumerate" p) [e] [] pos) (iEnum K ta) := by subst h; exact pi_enum hg hm ha hs
theorem e_cval (K : PySem.W.Frag) {e : Expr} {ta : TE} {f : Str} {pos : Pos} (he : PE X e ta) (hb : attributeBase e f X.env (eval e X.env) = eval e X.env := by rfl) (h : X.K = K := by rfl) : PE X (.Attribute e f pos) (ClX.tCVal K ta f) := by subst h; exact ClX.pe_cval he hb
theorem pe_no {e : Expr} : PE X e (fun _ _ _ => False) := ⟨fun _ _ _ _ _ _ h => h.elim⟩
theorem pe_moD (c : MethodD X.prog X.w X.K X.mg X.base C m ps sp k dvs) (hr : Room j X.A) (hk : k ≤ j) (he : PE X o ta) (ha : PA X (e :: es) t)
    (hst : starEach (e :: es) X.env = (false, eval e X.env) :: starEach es X.env := by rfl) (hpl : (backTo pos (starEach es X.env)).any (·.1) = false := by rfl)
    (ht : eval (.Call (.Attribute o m apos) (e :: es) [] pos) X.env = (do
      let ov ← eval o X.env
      standAt apos.atName
      let (f, first) ← holding [ov] (getMethod ov m pl)
      callWith pos f first (backTo pos (starEach (e :: es) X.env)) (backToKw pos (keywordEach [] X.env))) := by rfl) :
    PE X (.Call (.Attribute o m apos) (e :: es) [] pos) (tMeth C m sp dvs E0 ta t) := by
  obtain ⟨f, fd, F, ⟨ds, hd, b⟩, cl, M⟩ := c.ex
  exact pe_meth he cl M F (hr.mono hk) b hd pass0 ha hst hpl ht
theorem pe_mo (c : Method X.prog X.w X.K X.mg X.base C m ps sp k) (hr : Room j X.A) (hk : k ≤ j) (he : PE X o ta) (ha : PA X (e :: es) t)
    (hst : starEach (e :: es) X.env = (false, eval e X.env) :: starEach es X.env := by rfl) (hpl : (backTo pos (starEach es X.env)).any (·.1) = false := by rfl)
    (ht : eval (.Call (.Attribute o m apos) (e :: es) [] pos) X.env = (do
      let ov ← eval o X.env
      standAt apos.atName
      let (f, first) ← holding [ov] (getMethod ov m pl)
      callWith pos f first (backTo pos (starEach (e :: es) X.env)) (backToKw pos (keywordEach [] X.env))) := by rfl) :
    PE X (.Call (.Attribute o m apos) (e :: es) [] pos) (tMeth C m sp [] E0 ta t) := by
  obtain ⟨f, fd, F, b, cl, M⟩ := c.ex
  exact pe_meth he cl M F (hr.mono hk) b .nil pass0 ha hst hpl ht
/-- C.m(e, ..), m a staticmethod -/
def tSt (C : Addr) (sp : Sp) (ta : TE) (t : TA) : TE := fun σ H Q => ta σ H fun x H1 => x = .ref C ∧ t σ H1 fun vs H2 => sp vs H2 Q E0
theorem pe_st (c : Static X.prog X.w X.K X.mg X.base C m ps sp k) (hr : Room j X.A) (hk : k ≤ j) (he : PE X o ta) (ha : PA X (e :: es) t)
    (hst : starEach (e :: es) X.env = (false, eval e X.env) :: starEach es X.env := by rfl) (hpl : (backTo pos (starEach es X.env)).any (·.1) = false := by rfl)
    (ht : eval (.Call (.Attribute o m apos) (e :: es) [] pos) X.env = (do
      let ov ← eval o X.env
      standAt apos.atName
      let (f, first) ← holding [ov] (getMethod ov m pl)
      callWith pos f first (backTo pos (starEach (e :: es) X.env)) (backToKw pos (keywordEach [] X.env))) := by rfl) :
    PE X (.Call (.Attribute o m apos) (e :: es) [] pos) (tSt C sp ta t) := by
  obtain ⟨g, fd, p, mc, rest, F, b, r, at_, hp, kp⟩ := c.ex
  refine ⟨fun pins s σ H Q I h => ?_⟩
  refine PySem.W.methodCall_KW (pl := pl) (thn (he.run pins s σ H _ I h) fun u s1 ⟨x, H1, I1, rx, ex, q⟩ => ?_) ht
  subst ex
  obtain rfl : u = Value.ref C := rx
  refine PySem.W.method_cls I1.kIn r.ga ?_
  refine PySem.W.cls_bind I1.kIn r.rd at_ ?_
  refine wpAny_call (PySem.W.sm_get (s := { s1 with toks := s1.toks + 1 }) I1.kIn hp (PySem.W.handed_on rfl ?_))
  refine PySem.W.callWith_K (h₀ := X.base) I1.ok.mod.kin kp (thn (ha.run pos pins _ σ H1 _ (I1.tok _) q) fun us s3 ⟨vs, H2, I3, rv, q2⟩ => ⟨I3.kIn, ?_⟩) hst hpl
  rw [← List.append_nil vs] at q2
  exact run_fn F (hr.mono hk) b .nil pass0 I3 rv q2
end
end OA

/-! ### [x for x in xs if test]: a filter; [e for x in xs]: a map -/
namespace OA
open PySem PySem.Spec PyProof.Rows L2
theorem at_seq {t u : TS} {D : Ends} {σ : L2.St} {H : Hp} (h : t { D with nx := u D } σ H) : tSeq t u D σ H := h
theorem at_asg {te : TE} {g : TG} {D : Ends} {σ : L2.St} {H : Hp} (h : te σ H fun x H1 => g x σ H1 D.nx) : tAsg te g D σ H := h
theorem at_op {r : R2} {ta tb : TE} {σ : L2.St} {H : Hp} {Q : VK} (h : ta σ H fun x H1 => tb σ H1 fun y H2 => r x y H2 Q) : tOp r ta tb σ H Q := h
theorem at_cut {t u : TS} {D : Ends} {σ : L2.St} {H : Hp} (Mid : L2.St → Hp → Prop) (h1 : t { D with nx := Mid } σ H) (h2 : ∀ σ' H', Mid σ' H' → u D σ' H') : C8.tCut t u D σ H := ⟨Mid, h1, h2⟩
theorem at_ret {te : TE} {D : Ends} {σ : L2.St} {H : Hp} (h : te σ H D.rt) : tRet te D σ H := h
theorem at_test {t : TE} {σ : L2.St} {H : Hp} {Q : Bool → Hp → Prop} (h : t σ H fun x H' => ∃ k, x = .bl k ∧ Q k H') : tTest t σ H Q := h
theorem at_if {c : TT} {t u : TS} {D : Ends} {σ : L2.St} {H : Hp} (h : c σ H fun b H1 => if b = true then t D σ H1 else u D σ H1) : tIfS c t u D σ H := h
theorem at_B {t : TE} {σ : L2.St} {H : Hp} {Q : Bool → Hp → Prop} (h : t σ H fun x H1 => ∃ c, x = .bl c ∧ Q c H1) : tB t σ H Q := h
theorem at_cb {r : List V → Hp → VK → Prop} {t : TA} {σ : L2.St} {H : Hp} {Q : VK} (h : t σ H fun vs H1 => r vs H1 Q) : tCB r t σ H Q := h
theorem at_cons {ta : TE} {tr : TA} {σ : L2.St} {H : Hp} {Q : List V → Hp → Prop} (h : ta σ H fun x H1 => tr σ H1 fun xs H2 => Q (x :: xs) H2) : tCons ta tr σ H Q := h
theorem set_wipe {σ : L2.St} {i : Nat} {v : Option V} : wipe ((wipe σ [i]).set i v) [i] = wipe σ [i] := by
  show ((σ.set i none).set i v).set i none = σ.set i none
  rw [List.set_set, List.set_set]
theorem lc_flt {K : PySem.W.Frag} {tl : TE} {tt : TT} {i : Nat} {σ : L2.St} {H : Hp} {Q : VK} {a : Addr} {xs : List V} (f : V → Bool) (hi : i < σ.length) (hl : ∀ R : VK, R (.ref a) H → tl σ H R) (ha : H a = some (.lst xs)) (hn : xs.length ≤ 1000000)
    (ht : ∀ x ∈ xs, ∀ H1, Same H H1 → ∀ R : Bool → Hp → Prop, (∀ H2, Same H1 H2 → R (f x) H2) → tt ((wipe σ [i]).set i (some x)) H1 R)
    (k : ∀ D H', Same H H' → H D = none → H' D = some (.lst (xs.filter f)) → Q (.ref D) H') : tLc (iList K tl) (gName i) tt (tVar i) [i] σ H Q := by
  refine hl _ ⟨a, rfl, ⟨_, SqL.of ha⟩, fun D hD => ?_⟩
  refine lc_list (K := K) (a := a) (xs := xs) (fun j H' => Same H H' ∧ H' D = some (.lst ((xs.take j).filter f))) ?_ ?_ ?_ ?_
  · exact ⟨same_loc (Same.refl H) hD _, upd_same⟩
  · rintro j H' _ ⟨s, _⟩
    exact SqL.of (s _ _ ha)
  · rintro j x H' hx ⟨s, h⟩
    have hxm := List.mem_of_getElem? hx
    have hjl := get_lt hx
    refine ⟨set_wipe, ht x hxm H' s _ fun H2 s2 => ?_⟩
    have h2 := s2 _ _ h
    by_cases hf : f x = true
    · rw [hf, if_pos rfl]
      refine ⟨x, ?_, _, h2, ?_, same_loc (s.trans s2) hD _, ?_⟩
      · rw [List.getElem?_set_self (by rw [wipe_length]; exact hi)]
      · have := List.length_filter_le f (xs.take j)
        rw [List.length_take] at this
        exact sz_lt (by omega)
      · rw [take_more hx, List.filter_append]
        have e : [x].filter f = [x] := by rw [List.filter_cons, if_pos hf]; rfl
        rw [e]
        exact upd_same
    · have hf' : f x = false := by simpa using hf
      rw [hf', if_neg Bool.false_ne_true]
      refine ⟨s.trans s2, ?_⟩
      rw [take_more hx, List.filter_append]
      have e : [x].filter f = [] := by rw [List.filter_cons, if_neg hf]; rfl
      rw [e, List.append_nil]
      exact h2
  · rintro H' ⟨s, h⟩
    rw [List.take_length] at h
    exact k D H' s hD h
/-- [e for x in xs]: a map -/
theorem lc_mp {K : PySem.W.Frag} {tl te : TE} {i : Nat} {σ : L2.St} {H : Hp} {Q : VK} {a : Addr} {xs : List V} (f : V → V) (hl : ∀ R : VK, R (.ref a) H → tl σ H R) (ha : H a = some (.lst xs)) (hn : xs.length ≤ 1000000)
    (he : ∀ x ∈ xs, ∀ H1, Same H H1 → ∀ R : VK, (∀ H2, Same H1 H2 → R (f x) H2) → te ((wipe σ [i]).set i (some x)) H1 R)
    (k : ∀ D H', Same H H' → H D = none → H' D = some (.lst (xs.map f)) → Q (.ref D) H') : tLc (iList K tl) (gName i) tYes te [i] σ H Q := by
  refine hl _ ⟨a, rfl, ⟨_, SqL.of ha⟩, fun D hD => ?_⟩
  refine lc_list (K := K) (a := a) (xs := xs) (fun j H' => Same H H' ∧ H' D = some (.lst ((xs.take j).map f))) ?_ ?_ ?_ ?_
  · exact ⟨same_loc (Same.refl H) hD _, upd_same⟩
  · rintro j H' _ ⟨s, _⟩
    exact SqL.of (s _ _ ha)
  · rintro j x H' hx ⟨s, h⟩
    have hxm := List.mem_of_getElem? hx
    have hjl := get_lt hx
    refine ⟨set_wipe, yes_of (he x hxm H' s _ fun H2 s2 => ⟨_, s2 _ _ h, ?_, same_loc (s.trans s2) hD _, ?_⟩)⟩
    · rw [List.length_map, List.length_take]
      exact sz_lt (by omega)
    · rw [take_more hx, List.map_append]
      exact upd_same
  · rintro H' ⟨s, h⟩
    rw [List.take_length] at h
    exact k D H' s hD h
/-- texts -/
theorem flt_str (f : Str → Bool) (g : V → Bool) (h : ∀ x, g (.str x) = f x) : ∀ xs : List Str, (xs.map V.str).filter g = (xs.filter f).map V.str
  | [] => rfl
  | x :: xs => by
    rw [List.map_cons, List.filter_cons, List.filter_cons, h x, flt_str f g h xs]
    split <;> rfl
def sB (f : Str → Bool) : V → Bool
  | .str x => f x
  | _ => false
theorem at_if2 {c : TT} {t u : TS} {D : Ends} {σ : L2.St} {H : Hp} (f : Bool) (hc : ∀ R : Bool → Hp → Prop, (∀ H2, Same H H2 → R f H2) → c σ H R) (h1 : f = true → ∀ H2, Same H H2 → t D σ H2) (h2 : f = false → ∀ H2, Same H H2 → u D σ H2) : tIfS c t u D σ H := by
  refine hc _ fun H2 t2 => ?_
  cases f with
  | true => exact h1 rfl H2 t2
  | false => exact h2 rfl H2 t2
theorem at_next {D : Ends} {σ : L2.St} {H : Hp} (h : D.nx σ H) : tNext D σ H := h
theorem lc_via {K : PySem.W.Frag} {tl te : TE} {g : TG} {tt : TT} {own : List Nat} {σ : L2.St} {H : Hp} {Q : VK} (h : tl σ H fun x H1 => tLc (iList K fun _ H R => R x H) g tt te own σ H1 Q) : tLc (iList K tl) g tt te own σ H Q := h
end OA

/-! ### the plain layer: values without addresses, and a store of what may change -/
namespace OA
open PySem PySem.Spec PyProof.Rows L2
inductive PD where
  | val (v : V)
  | lst (ds : List PD)
  | tup (ds : List PD)
  | dK (ks : List Key) (ds : List PD)
  | dT (ks : List (List Key)) (ds : List PD)
  | ins (C : Addr) (fs : List Str) (ds : List PD)
  | err (C : Addr) (fs : List Str) (ds : List PD)
abbrev PD.int (i : Int) : PD := .val (.int i)
abbrev PD.str (x : Str) : PD := .val (.str x)
abbrev PD.bl (b : Bool) : PD := .val (.bl b)
abbrev PD.non : PD := .val .non
abbrev PD.ptr (a : Addr) : PD := .val (.ref a)
abbrev sL (xs : List Str) : PD := .lst (xs.map PD.str)
abbrev iL (xs : List Int) : PD := .lst (xs.map PD.int)
mutual
def Rep (G : Hp) : PD → V → Prop
  | .val w, v => v = w
  | .lst ds, v => ∃ a vs, v = .ref a ∧ G a = some (.lst vs) ∧ RepL G ds vs
  | .tup ds, v => ∃ a vs, v = .ref a ∧ G a = some (.tup vs) ∧ RepL G ds vs
  | .dK ks ds, v => ∃ a vs, v = .ref a ∧ ks.length = ds.length ∧ G a = some (.dK (ks.zip vs)) ∧ RepL G ds vs
  | .dT ks ds, v => ∃ a vs, v = .ref a ∧ ks.length = ds.length ∧ G a = some (.dT (ks.zip vs)) ∧ RepL G ds vs
  | .ins C fs ds, v => ∃ a dx vs, v = .ref a ∧ fs.length = ds.length ∧ G a = some (.ins C dx (fs.zip vs)) ∧ RepL G ds vs
  | .err C fs ds, v => ∃ a od vs, v = .ref a ∧ fs.length = ds.length ∧ G a = some (errO a (.ref C) od) ∧ ((od = none ∧ fs = []) ∨ ∃ d, od = some d ∧ G d = some (.xd (fs.zip vs))) ∧ RepL G ds vs
def RepL (G : Hp) : List PD → List V → Prop
  | [], vs => vs = []
  | d :: ds, vs => ∃ v r, vs = v :: r ∧ Rep G d v ∧ RepL G ds r
end
section
variable {G G' H H' : Hp}
mutual
theorem Rep.mono (s : Same G G') : ∀ (d : PD) {v : V}, Rep G d v → Rep G' d v
  | .val _, _, h => h
  | .lst ds, _, h => by
    obtain ⟨a, vs, e, h1, h2⟩ := h
    exact ⟨a, vs, e, s a _ h1, RepL.mono s ds h2⟩
  | .tup ds, _, h => by
    obtain ⟨a, vs, e, h1, h2⟩ := h
    exact ⟨a, vs, e, s a _ h1, RepL.mono s ds h2⟩
  | .dK ks ds, _, h => by
    obtain ⟨a, vs, e, l, h1, h2⟩ := h
    exact ⟨a, vs, e, l, s a _ h1, RepL.mono s ds h2⟩
  | .dT ks ds, _, h => by
    obtain ⟨a, vs, e, l, h1, h2⟩ := h
    exact ⟨a, vs, e, l, s a _ h1, RepL.mono s ds h2⟩
  | .ins C fs ds, _, h => by
    obtain ⟨a, dx, vs, e, l, h1, h2⟩ := h
    exact ⟨a, dx, vs, e, l, s a _ h1, RepL.mono s ds h2⟩
  | .err C fs ds, _, h => by
    obtain ⟨a, od, vs, e, l, h1, hd, h2⟩ := h
    exact ⟨a, od, vs, e, l, s a _ h1, hd.imp id fun ⟨d, e, h⟩ => ⟨d, e, s d _ h⟩, RepL.mono s ds h2⟩
theorem RepL.mono (s : Same G G') : ∀ (ds : List PD) {vs : List V}, RepL G ds vs → RepL G' ds vs
  | [], _, h => h
  | d :: ds, _, h => by
    obtain ⟨v, r, e, h1, h2⟩ := h
    exact ⟨v, r, e, Rep.mono s d h1, RepL.mono s ds h2⟩
end
theorem RepL.len : ∀ {ds : List PD} {vs : List V}, RepL G ds vs → vs.length = ds.length
  | [], vs, h => by have h : vs = [] := h; rw [h]; rfl
  | d :: ds, vs, h => by
    obtain ⟨v, r, rfl, _, h2⟩ := h
    exact congrArg (· + 1) (RepL.len h2)
theorem RepL.app : ∀ {ds es : List PD} {vs us : List V}, RepL G ds vs → RepL G es us → RepL G (ds ++ es) (vs ++ us)
  | [], es, vs, us, h, g => by have h : vs = [] := h; subst h; exact g
  | d :: ds, es, vs, us, h, g => by
    obtain ⟨v, r, rfl, h1, h2⟩ := h
    exact ⟨v, r ++ us, rfl, h1, RepL.app h2 g⟩
theorem RepL.one {d : PD} {v : V} (h : Rep G d v) : RepL G [d] [v] := ⟨v, [], rfl, h, rfl⟩
theorem RepL.cons {d : PD} {v : V} {ds : List PD} {vs : List V} (h : Rep G d v) (r : RepL G ds vs) : RepL G (d :: ds) (v :: vs) := ⟨v, vs, rfl, h, r⟩
theorem RepL.get : ∀ {ds : List PD} {vs : List V}, RepL G ds vs → ∀ {i : Nat} {d : PD}, ds[i]? = some d → ∃ v, vs[i]? = some v ∧ Rep G d v
  | [], _, _, i, d, e => by simp at e
  | d :: ds, vs, h, 0, d', e => by
    obtain ⟨v, r, rfl, h1, h2⟩ := h
    cases e
    exact ⟨v, rfl, h1⟩
  | d :: ds, vs, h, i + 1, d', e => by
    obtain ⟨v, r, rfl, h1, h2⟩ := h
    exact RepL.get h2 (i := i) e
theorem RepL.get' : ∀ {ds : List PD} {vs : List V}, RepL G ds vs → ∀ {i : Nat} {v : V}, vs[i]? = some v → ∃ d, ds[i]? = some d ∧ Rep G d v
  | [], vs, h, i, v, e => by have h : vs = [] := h; subst h; simp at e
  | d :: ds, vs, h, 0, v', e => by
    obtain ⟨v, r, rfl, h1, h2⟩ := h
    cases e
    exact ⟨d, rfl, h1⟩
  | d :: ds, vs, h, i + 1, v', e => by
    obtain ⟨v, r, rfl, h1, h2⟩ := h
    exact RepL.get' h2 (i := i) e
theorem RepL.take : ∀ {ds : List PD} {vs : List V}, RepL G ds vs → ∀ n, RepL G (ds.take n) (vs.take n)
  | [], vs, h, n => by have h : vs = [] := h; subst h; simp; rfl
  | d :: ds, vs, h, 0 => by simp; rfl
  | d :: ds, vs, h, n + 1 => by
    obtain ⟨v, r, rfl, h1, h2⟩ := h
    exact ⟨v, _, rfl, h1, RepL.take h2 n⟩
theorem RepL.drop : ∀ {ds : List PD} {vs : List V}, RepL G ds vs → ∀ n, RepL G (ds.drop n) (vs.drop n)
  | [], vs, h, n => by have h : vs = [] := h; subst h; simp; rfl
  | d :: ds, vs, h, 0 => h
  | d :: ds, vs, h, n + 1 => by
    obtain ⟨v, r, rfl, h1, h2⟩ := h
    exact RepL.drop h2 n
theorem RepL.set : ∀ {ds : List PD} {vs : List V}, RepL G ds vs → ∀ {d : PD} {v : V}, Rep G d v → ∀ n, RepL G (ds.set n d) (vs.set n v)
  | [], vs, h, _, _, _, n => by have h : vs = [] := h; subst h; simp; rfl
  | d :: ds, vs, h, e, u, g, 0 => by
    obtain ⟨v, r, rfl, h1, h2⟩ := h
    exact ⟨u, _, rfl, g, h2⟩
  | d :: ds, vs, h, e, u, g, n + 1 => by
    obtain ⟨v, r, rfl, h1, h2⟩ := h
    exact ⟨v, _, rfl, h1, RepL.set h2 g n⟩
theorem RepL.erase : ∀ {ds : List PD} {vs : List V}, RepL G ds vs → ∀ n, RepL G (ds.eraseIdx n) (vs.eraseIdx n)
  | [], vs, h, n => by have h : vs = [] := h; subst h; simp; rfl
  | d :: ds, vs, h, 0 => by
    obtain ⟨v, r, rfl, h1, h2⟩ := h
    exact h2
  | d :: ds, vs, h, n + 1 => by
    obtain ⟨v, r, rfl, h1, h2⟩ := h
    exact ⟨v, _, rfl, h1, RepL.erase h2 n⟩
theorem RepL.vals : ∀ {ws : List V} {vs : List V}, RepL G (ws.map PD.val) vs → vs = ws
  | [], vs, h => h
  | w :: ws, vs, h => by
    obtain ⟨v, r, rfl, h1, h2⟩ := h
    have h1 : v = w := h1
    rw [h1, RepL.vals h2]
theorem RepL.ofVals : ∀ (ws : List V), RepL G (ws.map PD.val) ws
  | [] => rfl
  | w :: ws => ⟨w, ws, rfl, rfl, RepL.ofVals ws⟩
theorem strs_vals (xs : List Str) : xs.map PD.str = (xs.map V.str).map PD.val := by rw [List.map_map]; rfl
theorem ints_vals (xs : List Int) : xs.map PD.int = (xs.map V.int).map PD.val := by rw [List.map_map]; rfl
theorem bls_vals (xs : List Bool) : xs.map PD.bl = (xs.map V.bl).map PD.val := by rw [List.map_map]; rfl
theorem RepL.strs {xs : List Str} {vs : List V} (h : RepL G (xs.map PD.str) vs) : vs = xs.map V.str := by rw [strs_vals] at h; exact h.vals
theorem RepL.ints {xs : List Int} {vs : List V} (h : RepL G (xs.map PD.int) vs) : vs = xs.map V.int := by rw [ints_vals] at h; exact h.vals
theorem RepL.bls {xs : List Bool} {vs : List V} (h : RepL G (xs.map PD.bl) vs) : vs = xs.map V.bl := by rw [bls_vals] at h; exact h.vals
theorem RepL.ofStrs (xs : List Str) : RepL G (xs.map PD.str) (xs.map V.str) := by rw [strs_vals]; exact RepL.ofVals _
theorem RepL.ofInts (xs : List Int) : RepL G (xs.map PD.int) (xs.map V.int) := by rw [ints_vals]; exact RepL.ofVals _
end
/-- tables -/
def RepK {κ : Type} (G : Hp) (kds : List (κ × PD)) (kvs : List (κ × V)) : Prop := Paired (fun p q => p.1 = q.1 ∧ Rep G p.2 q.2) kds kvs
theorem RepK.mono {κ : Type} {G G' : Hp} {kds : List (κ × PD)} {kvs : List (κ × V)} (s : Same G G') (h : RepK G kds kvs) : RepK G' kds kvs := Paired.mapP h fun a _ ⟨e, r⟩ => ⟨e, Rep.mono s a.2 r⟩
theorem RepK.zip {κ : Type} {G : Hp} : ∀ {ks : List κ} {ds : List PD} {vs : List V}, RepL G ds vs → RepK G (ks.zip ds) (ks.zip vs)
  | [], _, _, _ => by simp; exact .nil
  | k :: ks, [], vs, h => by have h : vs = [] := h; subst h; exact .nil
  | k :: ks, d :: ds, vs, h => by
    obtain ⟨v, r, rfl, h1, h2⟩ := h
    exact .cons ⟨rfl, h1⟩ (RepK.zip h2)
theorem RepK.unzip {κ : Type} {G : Hp} {kds : List (κ × PD)} {kvs : List (κ × V)} (h : RepK G kds kvs) : ∃ vs, kvs = (kds.map (·.1)).zip vs ∧ RepL G (kds.map (·.2)) vs := by
  induction h with
  | nil => exact ⟨[], rfl, rfl⟩
  | @cons p q _ _ h1 _ ih =>
    obtain ⟨vs, e, r⟩ := ih
    refine ⟨q.2 :: vs, ?_, ⟨q.2, vs, rfl, h1.2, r⟩⟩
    rw [e, List.map_cons, List.zip_cons_cons, h1.1]
section
variable {κ : Type} [DecidableEq κ] {G : Hp}
def valD (kvs : List (κ × PD)) (k : κ) : Option PD := (kvs.find? fun kv => decide (kv.1 = k)).map (·.2)
def putD (kvs : List (κ × PD)) (k : κ) (v : PD) : List (κ × PD) :=
  if (kvs.any fun kv => decide (kv.1 = k)) = true then kvs.map (fun kv => if kv.1 = k then (kv.1, v) else kv) else kvs ++ [(k, v)]
def dropD (kvs : List (κ × PD)) (k : κ) : List (κ × PD) := kvs.filter fun kv => decide (kv.1 ≠ k)
theorem valD_pos {p : κ × PD} {r : List (κ × PD)} {k : κ} (e : p.1 = k) : valD (p :: r) k = some p.2 := by simp [valD, List.find?_cons, e]
theorem valD_neg {p : κ × PD} {r : List (κ × PD)} {k : κ} (e : ¬ p.1 = k) : valD (p :: r) k = valD r k := by simp [valD, List.find?_cons, e]
theorem RepK.val {kds : List (κ × PD)} {kvs : List (κ × V)} (h : RepK G kds kvs) (k : κ) : (valD kds k = none ∧ valV kvs k = none) ∨ ∃ d v, valD kds k = some d ∧ valV kvs k = some v ∧ Rep G d v := by
  induction h with
  | nil => exact .inl ⟨rfl, rfl⟩
  | @cons p q _ _ h1 _ ih =>
    by_cases e : p.1 = k
    · exact .inr ⟨p.2, q.2, valD_pos e, valV_pos (h1.1.symm.trans e), h1.2⟩
    · rw [valD_neg e, valV_neg (fun z => e (h1.1.trans z))]
      exact ih
theorem RepK.any {kds : List (κ × PD)} {kvs : List (κ × V)} (h : RepK G kds kvs) (k : κ) : (kds.any fun kv => decide (kv.1 = k)) = kvs.any fun kv => decide (kv.1 = k) := by
  induction h with
  | nil => rfl
  | @cons p q _ _ h1 _ ih => rw [List.any_cons, List.any_cons, ih, h1.1]
theorem RepK.mapput {kds : List (κ × PD)} {kvs : List (κ × V)} (h : RepK G kds kvs) {k : κ} {d : PD} {v : V} (r : Rep G d v) : RepK G (kds.map fun kv => if kv.1 = k then (kv.1, d) else kv) (kvs.map fun kv => if kv.1 = k then (kv.1, v) else kv) := by
  induction h with
  | nil => exact .nil
  | @cons p q _ _ h1 _ ih =>
    rw [List.map_cons, List.map_cons]
    refine .cons ?_ ih
    by_cases e : p.1 = k
    · rw [if_pos e, if_pos (h1.1.symm.trans e)]; exact ⟨h1.1, r⟩
    · rw [if_neg e, if_neg (fun z => e (h1.1.trans z))]; exact h1
theorem RepK.snoc {kds : List (κ × PD)} {kvs : List (κ × V)} (h : RepK G kds kvs) {k : κ} {d : PD} {v : V} (r : Rep G d v) : RepK G (kds ++ [(k, d)]) (kvs ++ [(k, v)]) := by
  induction h with
  | nil => exact .cons ⟨rfl, r⟩ .nil
  | cons h1 _ ih => exact .cons h1 ih
theorem RepK.put {kds : List (κ × PD)} {kvs : List (κ × V)} (h : RepK G kds kvs) {k : κ} {d : PD} {v : V} (r : Rep G d v) : RepK G (putD kds k d) (putK kvs k v) := by
  unfold putD putK
  rw [h.any k]
  by_cases e : (kvs.any fun kv => decide (kv.1 = k)) = true
  · rw [if_pos e, if_pos e]; exact h.mapput r
  · rw [if_neg e, if_neg e]; exact h.snoc r
theorem RepK.drop {kds : List (κ × PD)} {kvs : List (κ × V)} (h : RepK G kds kvs) (k : κ) : RepK G (dropD kds k) (dropK kvs k) := by
  unfold dropD dropK
  induction h with
  | nil => exact .nil
  | @cons p q _ _ h1 _ ih =>
    rw [List.filter_cons, List.filter_cons]
    by_cases e : p.1 = k
    · rw [if_neg (by simp [e]), if_neg (by simp [h1.1.symm, e])]; exact ih
    · rw [if_pos (by simp [e]), if_pos (by rw [← h1.1]; simp [e])]; exact .cons h1 ih
end
theorem RepK.look {G : Hp} {fds : List (Str × PD)} {fs : List (Str × V)} (h : RepK G fds fs) (f : Str) : (fds.lookup f = none ∧ fs.lookup f = none) ∨ ∃ d v, fds.lookup f = some d ∧ fs.lookup f = some v ∧ Rep G d v := by
  induction h with
  | nil => exact .inl ⟨rfl, rfl⟩
  | @cons p q _ _ h1 _ ih =>
    obtain ⟨a, d⟩ := p
    obtain ⟨b, v⟩ := q
    have e : a = b := h1.1
    subst e
    by_cases e : f = a
    · subst e
      exact .inr ⟨d, v, by simp [List.lookup], by simp [List.lookup], h1.2⟩
    · have eb : (f == a) = false := by simpa using e
      simp only [List.lookup, eb]
      exact ih
/-- a field set -/
def putG (f : Str) (d : PD) : List (Str × PD) → List (Str × PD)
  | [] => [(f, d)]
  | p :: r => if p.1 = f then (f, d) :: r else p :: putG f d r
end OA

/-! ### the store, and how plain readings stand for readings over the heap -/
namespace OA
open PySem PySem.Spec PyProof.Rows L2
inductive MO where
  | lst (ds : List PD)
  | dK (kvs : List (Key × PD))
  | dT (kvs : List (List Key × PD))
  | ins (C : Addr) (fs : List (Str × PD))
  | draw (inn : Addr)
  | inn
abbrev MH := Addr → Option MO
def mset (M : MH) (a : Addr) (m : MO) : MH := fun b => if b = a then some m else M b
def mdel (M : MH) (a : Addr) : MH := fun b => if b = a then none else M b
theorem mset_same {M : MH} {a : Addr} {m : MO} : mset M a m a = some m := by unfold mset; rw [if_pos rfl]
theorem mset_ne {M : MH} {a b : Addr} {m : MO} (h : b ≠ a) : mset M a m b = M b := by unfold mset; rw [if_neg h]
theorem mset_old {M : MH} {a b : Addr} {m n : MO} (h : M a = none) (e : M b = some n) : mset M a m b = some n := by
  rw [mset_ne fun z => by rw [z, h] at e; cases e]; exact e
theorem mset_mset {M : MH} {a : Addr} {m n : MO} : mset (mset M a m) a n = mset M a n := by
  funext b; unfold mset; by_cases h : b = a
  · rw [if_pos h, if_pos h]
  · rw [if_neg h, if_neg h, if_neg h]
theorem mset_comm {M : MH} {a b : Addr} {m n : MO} (h : a ≠ b) : mset (mset M a m) b n = mset (mset M b n) a m := by
  funext c; unfold mset; by_cases h1 : c = a
  · subst h1; rw [if_neg h, if_pos rfl, if_pos rfl]
  · by_cases h2 : c = b
    · rw [if_pos h2, if_neg h1, if_pos h2]
    · rw [if_neg h2, if_neg h1, if_neg h1, if_neg h2]
theorem mdel_mset {M : MH} {a : Addr} {m : MO} (h : M a = none) : mdel (mset M a m) a = M := by
  funext b; unfold mdel mset; by_cases e : b = a
  · rw [if_pos e, e, h]
  · rw [if_neg e, if_neg e]
theorem mdel_ne {M : MH} {a b : Addr} (h : b ≠ a) : mdel M a b = M b := by unfold mdel; rw [if_neg h]
theorem mdel_some {M : MH} {a b : Addr} {m : MO} (h : mdel M a b = some m) : b ≠ a ∧ M b = some m := by
  unfold mdel at h
  by_cases e : b = a
  · rw [if_pos e] at h; cases h
  · rw [if_neg e] at h; exact ⟨e, h⟩
def RepO (G : Hp) (o : HO) : MO → Prop
  | .lst ds => ∃ vs, o = .lst vs ∧ RepL G ds vs
  | .dK kds => ∃ kvs, o = .dK kvs ∧ RepK G kds kvs
  | .dT kds => ∃ kvs, o = .dT kvs ∧ RepK G kds kvs
  | .ins C fds => ∃ dx fs, o = .ins C dx fs ∧ RepK G fds fs
  | .draw inn => ∃ a b c : Int, 0 ≤ a ∧ 0 ≤ b ∧ 0 ≤ c ∧ o = .lst [.ref inn, .int a, .int b, .int c]
  | .inn => ∃ cs : List Int, (∀ x ∈ cs, 0 ≤ x) ∧ o = .lst (cs.map V.int)
theorem RepO.mono {G G' : Hp} (s : Same G G') {o : HO} : ∀ {m : MO}, RepO G o m → RepO G' o m
  | .lst ds, ⟨vs, e, h⟩ => ⟨vs, e, RepL.mono s ds h⟩
  | .dK _, ⟨vs, e, h⟩ => ⟨vs, e, h.mono s⟩
  | .dT _, ⟨vs, e, h⟩ => ⟨vs, e, h.mono s⟩
  | .ins _ _, ⟨dx, vs, e, h⟩ => ⟨dx, vs, e, h.mono s⟩
  | .draw _, h => h
  | .inn, h => h
/-- G stands still, M may change, O is not touched -/
structure Wo (G H : Hp) (M : MH) (O : Hp) : Prop where
  gh : Same G H
  oh : Same O H
  og : ∀ a o, O a = some o → G a = none
  mu : ∀ a m, M a = some m → ∃ o, H a = some o ∧ G a = none ∧ O a = none ∧ RepO G o m
section
variable {G G' H H' O : Hp} {M M' : MH} {a : Addr} {o o' : HO} {m m' : MO}
theorem Wo.fresh (w : Wo G H M O) (h : H a = none) : M a = none := by
  cases e : M a with
  | none => rfl
  | some m =>
    obtain ⟨o, h1, _⟩ := w.mu a m e
    rw [h] at h1; cases h1
theorem Wo.same (w : Wo G H M O) (s : Same H H') : Wo G H' M O := ⟨w.gh.trans s, w.oh.trans s, w.og, fun a m e => by
  obtain ⟨o, h1, h2⟩ := w.mu a m e
  exact ⟨o, s _ _ h1, h2⟩⟩
/-- a new thing that may change -/
theorem Wo.new (w : Wo G H M O) (h : H a = none) (r : RepO G o m) : Wo G (upd H a o) (mset M a m) O := by
  refine ⟨w.gh.trans (same_loc (Same.refl H) h o), w.oh.trans (same_loc (Same.refl H) h o), w.og, fun b n e => ?_⟩
  by_cases hb : b = a
  · subst hb
    rw [mset_same] at e
    cases e
    exact ⟨o, upd_same, w.gh.free h, w.oh.free h, r⟩
  · rw [mset_ne hb] at e
    obtain ⟨u, h1, h2⟩ := w.mu b n e
    exact ⟨u, by rw [upd_ne hb]; exact h1, h2⟩
/-- a new thing that stands still -/
theorem Wo.lay (w : Wo G H M O) (h : H a = none) (o : HO) : Wo (upd G a o) (upd H a o) M O ∧ Same G (upd G a o) := by
  have s : Same G (upd G a o) := Same.lay (w.gh.free h) o
  refine ⟨⟨fun b u e => ?_, w.oh.trans (same_loc (Same.refl H) h o), fun b u e => ?_, fun b n e => ?_⟩, s⟩
  · by_cases hb : b = a
    · subst hb; rw [upd_same] at e ⊢; exact e
    · rw [upd_ne hb] at e ⊢; exact w.gh b u e
  · rw [upd_ne (ne_of_none (w.oh _ _ e) h)]
    exact w.og b u e
  · obtain ⟨u, h1, h2, h3, h4⟩ := w.mu b n e
    have hb := ne_of_none h1 h
    exact ⟨u, by rw [upd_ne hb]; exact h1, by rw [upd_ne hb]; exact h2, h3, h4.mono s⟩
/-- a change -/
theorem Wo.write (w : Wo G H M O) (e : M a = some m) (r : RepO G o' m') : Wo G (upd H a o') (mset M a m') O := by
  obtain ⟨o, h1, h2, h3, _⟩ := w.mu a m e
  refine ⟨fun b u hb => ?_, fun b u hb => ?_, w.og, fun b n hb => ?_⟩
  · rw [upd_ne (ne_of_none hb h2)]; exact w.gh b u hb
  · rw [upd_ne (ne_of_none hb h3)]; exact w.oh b u hb
  · by_cases hba : b = a
    · subst hba
      rw [mset_same] at hb
      cases hb
      exact ⟨o', upd_same, h2, h3, r⟩
    · rw [mset_ne hba] at hb
      obtain ⟨u, k1, k2⟩ := w.mu b n hb
      exact ⟨u, by rw [upd_ne hba]; exact k1, k2⟩
/-- what may change stands still from now on -/
theorem Wo.freeze (w : Wo G H M O) (e : M a = some m) (h : H a = some o) : Wo (upd G a o) H (mdel M a) O ∧ Same G (upd G a o) := by
  obtain ⟨u, h1, h2, h3, _⟩ := w.mu a m e
  have s : Same G (upd G a o) := Same.lay h2 o
  refine ⟨⟨fun b u hb => ?_, w.oh, fun b u hb => ?_, fun b n hb => ?_⟩, s⟩
  · by_cases hba : b = a
    · subst hba; rw [upd_same] at hb; cases hb; exact h
    · rw [upd_ne hba] at hb; exact w.gh b u hb
  · rw [upd_ne (ne_of_none hb h3)]; exact w.og b u hb
  · obtain ⟨hba, hb⟩ := mdel_some hb
    obtain ⟨u, k1, k2, k3, k4⟩ := w.mu b n hb
    exact ⟨u, k1, by rw [upd_ne hba]; exact k2, k3, k4.mono s⟩
/-- a thing that is not touched from now on -/
theorem Wo.guard (w : Wo G H M O) (h : H a = some o) (g : G a = none) (hm : M a = none) (hO : O a = none) : Wo G H M (upd O a o) := by
  refine ⟨w.gh, fun b u e => ?_, fun b u e => ?_, fun b n e => ?_⟩
  · by_cases hb : b = a
    · subst hb; rw [upd_same] at e; cases e; exact h
    · rw [upd_ne hb] at e; exact w.oh b u e
  · by_cases hb : b = a
    · subst hb; exact g
    · rw [upd_ne hb] at e; exact w.og b u e
  · obtain ⟨u, k1, k2, k3, k4⟩ := w.mu b n e
    exact ⟨u, k1, k2, by rw [upd_ne (fun z => by rw [z, hm] at e; cases e)]; exact k3, k4⟩
theorem Wo.less {O' : Hp} (w : Wo G H M O) (s : Same O' O) : Wo G H M O' := ⟨w.gh, s.trans w.oh, fun a o e => w.og a o (s a o e), fun a m e => by
  obtain ⟨u, k1, k2, k3, k4⟩ := w.mu a m e
  exact ⟨u, k1, k2, s.free k3, k4⟩⟩
end
abbrev AEnv := List (Option PD)
abbrev AK := PD → MH → Prop
abbrev AXK := Addr → List (Str × PD) → MH → Prop
abbrev AWX := Addr → List (Str × PD) → AEnv → MH → Prop
abbrev AE := AWX → AEnv → MH → AK → Prop
abbrev AT := AWX → AEnv → MH → (Bool → MH → Prop) → Prop
abbrev AA := AWX → AEnv → MH → (List PD → MH → Prop) → Prop
abbrev AO := AWX → AEnv → MH → (Option Int → MH → Prop) → Prop
abbrev AG := AWX → PD → AEnv → MH → (AEnv → MH → Prop) → Prop
abbrev AGs := AWX → List PD → AEnv → MH → (AEnv → MH → Prop) → Prop
abbrev AI := AWX → AEnv → MH → (List PD → (MH → Prop) → MH → Prop) → Prop
structure AEnds where
  nx : AEnv → MH → Prop
  rt : AK
  bk : AEnv → MH → Prop := fun _ _ => False
  ct : AEnv → MH → Prop := fun _ _ => False
abbrev AS := AWX → AEnds → AEnv → MH → Prop
abbrev ASp := List PD → MH → AK → AXK → Prop
structure RepS (G : Hp) (ρ : AEnv) (σ : L2.St) : Prop where
  len : ρ.length = σ.length
  at_ : ∀ (i : Nat) (d : PD), ρ[i]? = some (some d) → ∃ v, σ[i]? = some (some v) ∧ Rep G d v
theorem RepS.mono {G G' : Hp} {ρ : AEnv} {σ : L2.St} (s : Same G G') (h : RepS G ρ σ) : RepS G' ρ σ := ⟨h.len, fun i d e => by
  obtain ⟨v, h1, h2⟩ := h.at_ i d e
  exact ⟨v, h1, Rep.mono s d h2⟩⟩
theorem RepS.set {G : Hp} {ρ : AEnv} {σ : L2.St} (h : RepS G ρ σ) {d : PD} {v : V} (r : Rep G d v) (i : Nat) : RepS G (ρ.set i (some d)) (σ.set i (some v)) := by
  refine ⟨by rw [List.length_set, List.length_set]; exact h.len, fun j e hj => ?_⟩
  by_cases hij : i = j
  · subst hij
    by_cases hl : i < ρ.length
    · rw [List.getElem?_set_self hl] at hj
      cases hj
      exact ⟨v, List.getElem?_set_self (by rw [← h.len]; exact hl), r⟩
    · rw [List.getElem?_eq_none (by rw [List.length_set]; omega)] at hj
      cases hj
  · rw [List.getElem?_set_ne hij] at hj ⊢
    exact h.at_ j e hj
def awipe (ρ : AEnv) : List Nat → AEnv
  | [] => ρ
  | v :: vs => (awipe ρ vs).set v none
theorem RepS.unset {G : Hp} {ρ : AEnv} {σ : L2.St} (h : RepS G ρ σ) (i : Nat) (x : Option V) : RepS G (ρ.set i none) (σ.set i x) := by
  refine ⟨by rw [List.length_set, List.length_set]; exact h.len, fun j e hj => ?_⟩
  by_cases hij : i = j
  · subst hij
    by_cases hl : i < ρ.length
    · rw [List.getElem?_set_self hl] at hj
      cases hj
    · rw [List.getElem?_eq_none (by rw [List.length_set]; omega)] at hj
      cases hj
  · rw [List.getElem?_set_ne hij] at hj ⊢
    exact h.at_ j e hj
theorem RepS.wipe {G : Hp} {ρ : AEnv} {σ : L2.St} (h : RepS G ρ σ) : ∀ vs : List Nat, RepS G (awipe ρ vs) (L2.wipe σ vs)
  | [] => h
  | v :: vs => (RepS.wipe h vs).unset v none
/-- an error leaves -/
def XdAt (G H O : Hp) (M : MH) (od : Option Addr) (fs : List (Str × V)) : Prop := (od = none ∧ fs = []) ∨ ∃ d, od = some d ∧ H d = some (.xd fs) ∧ G d = none ∧ O d = none ∧ M d = none
def WXr (G O : Hp) (W : WX) (AW : AWX) : Prop := ∀ (C : Addr) (fds : List (Str × PD)) (od : Option Addr) (fs : List (Str × V)) (G' H' : Hp) (M' : MH) (ρ : AEnv) (σ : L2.St), Same G G' → Wo G' H' M' O → RepS G' ρ σ → XdAt G' H' O M' od fs → RepK G' fds fs → AW C fds ρ M' → W (.ref C) od σ H'
structure Cz (W : WX) (G H O : Hp) (M : MH) (σ : L2.St) (ρ : AEnv) (AW : AWX) : Prop where
  wo : Wo G H M O
  rs : RepS G ρ σ
  wx : WXr G O W AW
section
variable {W : WX} {G G' H H' O : Hp} {M M' : MH} {σ σ' : L2.St} {ρ ρ' : AEnv} {AW : AWX}
theorem WXr.mono (s : Same G G') (h : WXr G O W AW) : WXr G' O W AW := fun C fds od fs G1 H1 M1 ρ σ s1 => h C fds od fs G1 H1 M1 ρ σ (s.trans s1)
theorem Cz.next (c : Cz W G H O M σ ρ AW) (s : Same G G') (w : Wo G' H' M' O) : Cz W G' H' O M' σ ρ AW := ⟨w, c.rs.mono s, c.wx.mono s⟩
theorem Cz.to (c : Cz W G H O M σ ρ AW) (s : Same G G') (w : Wo G' H' M' O) (r : RepS G' ρ' σ') : Cz W G' H' O M' σ' ρ' AW := ⟨w, r, c.wx.mono s⟩
end
def KVr (G O : Hp) (Q : VK) (AQ : AK) : Prop := ∀ (v : V) (d : PD) (G' H' : Hp) (M' : MH), Same G G' → Wo G' H' M' O → Rep G' d v → AQ d M' → Q v H'
def KTr (G O : Hp) (Q : Bool → Hp → Prop) (AQ : Bool → MH → Prop) : Prop := ∀ (b : Bool) (G' H' : Hp) (M' : MH), Same G G' → Wo G' H' M' O → AQ b M' → Q b H'
def KAr (G O : Hp) (Q : List V → Hp → Prop) (AQ : List PD → MH → Prop) : Prop := ∀ (vs : List V) (ds : List PD) (G' H' : Hp) (M' : MH), Same G G' → Wo G' H' M' O → RepL G' ds vs → AQ ds M' → Q vs H'
def KOr (G O : Hp) (Q : Option Int → Hp → Prop) (AQ : Option Int → MH → Prop) : Prop := ∀ (b : Option Int) (G' H' : Hp) (M' : MH), Same G G' → Wo G' H' M' O → AQ b M' → Q b H'
def KSr (G O : Hp) (Q : L2.St → Hp → Prop) (AQ : AEnv → MH → Prop) : Prop := ∀ (σ : L2.St) (ρ : AEnv) (G' H' : Hp) (M' : MH), Same G G' → Wo G' H' M' O → RepS G' ρ σ → AQ ρ M' → Q σ H'
def XKr (G O : Hp) (E : XK) (AX : AXK) : Prop := ∀ (C : Addr) (fds : List (Str × PD)) (od : Option Addr) (fs : List (Str × V)) (G' H' : Hp) (M' : MH), Same G G' → Wo G' H' M' O → XdAt G' H' O M' od fs → RepK G' fds fs → AX C fds M' → E (.ref C) od H'
structure EndsR (G O : Hp) (D : Ends) (AD : AEnds) : Prop where
  nx : KSr G O D.nx AD.nx
  rt : KVr G O D.rt AD.rt
  bk : KSr G O D.bk AD.bk
  ct : KSr G O D.ct AD.ct
theorem KVr.mono {G G' O : Hp} {Q : VK} {AQ : AK} (s : Same G G') (h : KVr G O Q AQ) : KVr G' O Q AQ := fun v d G1 H1 M1 s1 => h v d G1 H1 M1 (s.trans s1)
theorem KTr.mono {G G' O : Hp} {Q : Bool → Hp → Prop} {AQ : Bool → MH → Prop} (s : Same G G') (h : KTr G O Q AQ) : KTr G' O Q AQ := fun v G1 H1 M1 s1 => h v G1 H1 M1 (s.trans s1)
theorem KSr.mono {G G' O : Hp} {Q : L2.St → Hp → Prop} {AQ : AEnv → MH → Prop} (s : Same G G') (h : KSr G O Q AQ) : KSr G' O Q AQ := fun v d G1 H1 M1 s1 => h v d G1 H1 M1 (s.trans s1)
theorem EndsR.mono {G G' O : Hp} {D : Ends} {AD : AEnds} (s : Same G G') (h : EndsR G O D AD) : EndsR G' O D AD := ⟨h.nx.mono s, h.rt.mono s, h.bk.mono s, h.ct.mono s⟩
class RE (W : WX) (te : TE) (ae : outParam AE) : Prop where
  run : ∀ {G H O : Hp} {M : MH} {σ : L2.St} {ρ : AEnv} {AW : AWX} {Q : VK} {AQ : AK}, Cz W G H O M σ ρ AW → ae AW ρ M AQ → KVr G O Q AQ → te σ H Q
class RT (W : WX) (tt : TT) (at_ : outParam AT) : Prop where
  run : ∀ {G H O : Hp} {M : MH} {σ : L2.St} {ρ : AEnv} {AW : AWX} {Q : Bool → Hp → Prop} {AQ : Bool → MH → Prop}, Cz W G H O M σ ρ AW → at_ AW ρ M AQ → KTr G O Q AQ → tt σ H Q
class RA (W : WX) (ta : TA) (aa : outParam AA) : Prop where
  run : ∀ {G H O : Hp} {M : MH} {σ : L2.St} {ρ : AEnv} {AW : AWX} {Q : List V → Hp → Prop} {AQ : List PD → MH → Prop}, Cz W G H O M σ ρ AW → aa AW ρ M AQ → KAr G O Q AQ → ta σ H Q
class RO (W : WX) (to : TO) (ao : outParam AO) : Prop where
  run : ∀ {G H O : Hp} {M : MH} {σ : L2.St} {ρ : AEnv} {AW : AWX} {Q : Option Int → Hp → Prop} {AQ : Option Int → MH → Prop}, Cz W G H O M σ ρ AW → ao AW ρ M AQ → KOr G O Q AQ → to σ H Q
class RG (W : WX) (g : TG) (ag : outParam AG) (js : outParam (List Nat)) : Prop where
  run : ∀ {G H O : Hp} {M : MH} {σ : L2.St} {ρ : AEnv} {AW : AWX} {Q : L2.St → Hp → Prop} {AQ : AEnv → MH → Prop} {d : PD} {v : V}, Cz W G H O M σ ρ AW → Rep G d v → ag AW d ρ M AQ →
    (∀ (σ' : L2.St) (ρ' : AEnv) (G' H' : Hp) (M' : MH), Same G G' → Wo G' H' M' O → RepS G' ρ' σ' → σ'.length = σ.length → (∀ j, j ∉ js → σ'[j]? = σ[j]?) → AQ ρ' M' → Q σ' H') → g v σ H Q
class RGs (W : WX) (g : TGs) (ag : outParam AGs) (js : outParam (List Nat)) : Prop where
  run : ∀ {G H O : Hp} {M : MH} {σ : L2.St} {ρ : AEnv} {AW : AWX} {Q : L2.St → Hp → Prop} {AQ : AEnv → MH → Prop} {ds : List PD} {vs : List V}, Cz W G H O M σ ρ AW → RepL G ds vs → ag AW ds ρ M AQ →
    (∀ (σ' : L2.St) (ρ' : AEnv) (G' H' : Hp) (M' : MH), Same G G' → Wo G' H' M' O → RepS G' ρ' σ' → σ'.length = σ.length → (∀ j, j ∉ js → σ'[j]? = σ[j]?) → AQ ρ' M' → Q σ' H') → g vs σ H Q
class RS (W : WX) (ts : TS) (as_ : outParam AS) : Prop where
  run : ∀ {G H O : Hp} {M : MH} {σ : L2.St} {ρ : AEnv} {AW : AWX} {D : Ends} {AD : AEnds}, Cz W G H O M σ ρ AW → as_ AW AD ρ M → EndsR G O D AD → ts D σ H
/-- the things that a loop walks -/
structure Items (J : It) (G O : Hp) (ds : List PD) (chk : MH → Prop) : Prop where
  go : ∀ (i : Nat) (d : PD) (G' H' : Hp) (M' : MH), Same G G' → Wo G' H' M' O → chk M' → ds[i]? = some d → J.go i H' ∧ ∀ x H'', J.yld i H' x H'' → ∃ G'', Same G' G'' ∧ Wo G'' H'' M' O ∧ Rep G'' d x
  stop : ∀ (G' H' : Hp) (M' : MH), Same G G' → Wo G' H' M' O → chk M' → J.stop ds.length H'
class RI (W : WX) (wi : TI) (ai : outParam AI) : Prop where
  run : ∀ {G H O : Hp} {M : MH} {σ : L2.St} {ρ : AEnv} {AW : AWX} {R : It → Hp → Prop} {AR : List PD → (MH → Prop) → MH → Prop}, Cz W G H O M σ ρ AW → ai AW ρ M AR →
    (∀ (J : It) (ds : List PD) (chk : MH → Prop) (G' H' : Hp) (M' : MH), Same G G' → Wo G' H' M' O → (∀ O', Same O O' → Items J G' O' ds chk) → AR ds chk M' → R J H') → wi σ H R
/-- an operator, by values -/
abbrev AOp := PD → PD → MH → AK → Prop
class ROp (r : R2) (f : outParam AOp) : Prop where
  run : ∀ {G H O : Hp} {M : MH} {x y : V} {dx dy : PD} {Q : VK} {AQ : AK}, Wo G H M O → Rep G dx x → Rep G dy y → f dx dy M AQ → KVr G O Q AQ → r x y H Q
abbrev ACl := List PD → MH → AK → Prop
class RCl (r : List V → Hp → VK → Prop) (f : outParam ACl) : Prop where
  run : ∀ {G H O : Hp} {M : MH} {vs : List V} {ds : List PD} {Q : VK} {AQ : AK}, Wo G H M O → RepL G ds vs → f ds M AQ → KVr G O Q AQ → r vs H Q
/-- a promise over plain values -/
def conc (A : ASp) : Sp := fun vs H Q E => ∃ (G O : Hp) (M : MH) (ds : List PD) (AQ : AK) (AX : AXK), Wo G H M O ∧ RepL G ds vs ∧ A ds M AQ AX ∧ KVr G O Q AQ ∧ XKr G O E AX
end OA

/-! ### plain readings -/
namespace OA
open PySem PySem.Spec PyProof.Rows L2
def sqOf (M : MH) : PD → Option (List PD)
  | .lst ds => some ds
  | .val (.ref a) => match M a with
    | some (.lst ds) => some ds
    | _ => none
  | _ => none
def tpOf : PD → Option (List PD)
  | .tup ds => some ds
  | _ => none
def insOf (M : MH) : PD → Option (Addr × List (Str × PD))
  | .ins C fs ds => some (C, fs.zip ds)
  | .val (.ref a) => match M a with
    | some (.ins C fds) => some (C, fds)
    | _ => none
  | _ => none
def dkOf (M : MH) : PD → Option (List (Key × PD))
  | .dK ks ds => some (ks.zip ds)
  | .val (.ref a) => match M a with
    | some (.dK kvs) => some kvs
    | _ => none
  | _ => none
def dtOf (M : MH) : PD → Option (List (List Key × PD))
  | .dT ks ds => some (ks.zip ds)
  | .val (.ref a) => match M a with
    | some (.dT kvs) => some kvs
    | _ => none
  | _ => none
def keyOf : PD → Option Key
  | .val (.int i) => some (.inl i)
  | .val (.str x) => some (.inr x)
  | _ => none
section
variable {G H O : Hp} {M : MH} {d : PD} {v : V}
theorem sq_at (w : Wo G H M O) (r : Rep G d v) {ds : List PD} (h : sqOf M d = some ds) : ∃ a vs, v = .ref a ∧ H a = some (.lst vs) ∧ RepL G ds vs := by
  cases d with
  | lst es =>
    cases h
    obtain ⟨a, vs, e, h1, h2⟩ := r
    exact ⟨a, vs, e, w.gh _ _ h1, h2⟩
  | val u =>
    cases u with
    | ref a =>
      have h : (match M a with | some (.lst ds) => some ds | _ => none) = some ds := h
      cases e : M a with
      | none => rw [e] at h; cases h
      | some m =>
        rw [e] at h
        cases m with
        | lst es =>
          cases h
          obtain ⟨o, h1, _, _, vs, rfl, h2⟩ := w.mu a _ e
          exact ⟨a, vs, r, h1, h2⟩
        | _ => cases h
    | _ => cases h
  | _ => cases h
theorem tp_at (w : Wo G H M O) (r : Rep G d v) {ds : List PD} (h : tpOf d = some ds) : ∃ a vs, v = .ref a ∧ H a = some (.tup vs) ∧ RepL G ds vs := by
  cases d with
  | tup es =>
    cases h
    obtain ⟨a, vs, e, h1, h2⟩ := r
    exact ⟨a, vs, e, w.gh _ _ h1, h2⟩
  | _ => cases h
theorem ins_at (w : Wo G H M O) (r : Rep G d v) {C : Addr} {fds : List (Str × PD)} (h : insOf M d = some (C, fds)) : ∃ a dx fs, v = .ref a ∧ H a = some (.ins C dx fs) ∧ RepK G fds fs := by
  cases d with
  | ins C' fs es =>
    cases h
    obtain ⟨a, dx, vs, e, l, h1, h2⟩ := r
    exact ⟨a, dx, _, e, w.gh _ _ h1, RepK.zip h2⟩
  | val u =>
    cases u with
    | ref a =>
      have h : (match M a with | some (.ins C fds) => some (C, fds) | _ => none) = some (C, fds) := h
      cases e : M a with
      | none => rw [e] at h; cases h
      | some m =>
        rw [e] at h
        cases m with
        | ins C' es =>
          cases h
          obtain ⟨o, h1, _, _, dx, fs, rfl, h2⟩ := w.mu a _ e
          exact ⟨a, dx, fs, r, h1, h2⟩
        | _ => cases h
    | _ => cases h
  | _ => cases h
theorem dk_at (w : Wo G H M O) (r : Rep G d v) {kds : List (Key × PD)} (h : dkOf M d = some kds) : ∃ a kvs, v = .ref a ∧ H a = some (.dK kvs) ∧ RepK G kds kvs := by
  cases d with
  | dK ks es =>
    cases h
    obtain ⟨a, vs, e, l, h1, h2⟩ := r
    exact ⟨a, _, e, w.gh _ _ h1, RepK.zip h2⟩
  | val u =>
    cases u with
    | ref a =>
      have h : (match M a with | some (.dK kvs) => some kvs | _ => none) = some kds := h
      cases e : M a with
      | none => rw [e] at h; cases h
      | some m =>
        rw [e] at h
        cases m with
        | dK es =>
          cases h
          obtain ⟨o, h1, _, _, kvs, rfl, h2⟩ := w.mu a _ e
          exact ⟨a, kvs, r, h1, h2⟩
        | _ => cases h
    | _ => cases h
  | _ => cases h
theorem dt_at (w : Wo G H M O) (r : Rep G d v) {kds : List (List Key × PD)} (h : dtOf M d = some kds) : ∃ a kvs, v = .ref a ∧ H a = some (.dT kvs) ∧ RepK G kds kvs := by
  cases d with
  | dT ks es =>
    cases h
    obtain ⟨a, vs, e, l, h1, h2⟩ := r
    exact ⟨a, _, e, w.gh _ _ h1, RepK.zip h2⟩
  | val u =>
    cases u with
    | ref a =>
      have h : (match M a with | some (.dT kvs) => some kvs | _ => none) = some kds := h
      cases e : M a with
      | none => rw [e] at h; cases h
      | some m =>
        rw [e] at h
        cases m with
        | dT es =>
          cases h
          obtain ⟨o, h1, _, _, kvs, rfl, h2⟩ := w.mu a _ e
          exact ⟨a, kvs, r, h1, h2⟩
        | _ => cases h
    | _ => cases h
  | _ => cases h
theorem key_at (r : Rep G d v) {k : Key} (h : keyOf d = some k) : v = kV k := by
  cases d with
  | val u =>
    have r : v = u := r
    subst r
    cases v with
    | int i => cases h; rfl
    | str x => cases h; rfl
    | _ => cases h
  | _ => cases h
/-- a new list: it stands still, or it may change -/
theorem new_lst {Q : VK} {AQ : AK} {ds : List PD} {vs : List V} (w : Wo G H M O) (r : RepL G ds vs) (k : KVr G O Q AQ) (q : AQ (.lst ds) M) : ∀ p, H p = none → Q (.ref p) (upd H p (.lst vs)) := fun p np => by
  obtain ⟨w1, s1⟩ := w.lay np (.lst vs)
  exact k _ _ _ _ _ s1 w1 (show Rep _ (.lst ds) _ from ⟨p, vs, rfl, upd_same, RepL.mono s1 ds r⟩) q
theorem new_tup {Q : VK} {AQ : AK} {ds : List PD} {vs : List V} (w : Wo G H M O) (r : RepL G ds vs) (k : KVr G O Q AQ) (q : AQ (.tup ds) M) : ∀ p, H p = none → Q (.ref p) (upd H p (.tup vs)) := fun p np => by
  obtain ⟨w1, s1⟩ := w.lay np (.tup vs)
  exact k _ _ _ _ _ s1 w1 (show Rep _ (.tup ds) _ from ⟨p, vs, rfl, upd_same, RepL.mono s1 ds r⟩) q
theorem mut_lst {Q : VK} {AQ : AK} {ds : List PD} {vs : List V} (w : Wo G H M O) (r : RepL G ds vs) (k : KVr G O Q AQ) (q : ∀ a, M a = none → AQ (.ptr a) (mset M a (.lst ds))) : ∀ p, H p = none → Q (.ref p) (upd H p (.lst vs)) := fun p np =>
  k _ _ _ _ _ (Same.refl G) (w.new np (show RepO G (.lst vs) (.lst ds) from ⟨vs, rfl, r⟩)) (show Rep _ (.ptr p) _ from rfl) (q p (w.fresh np))
end
/-! ### expressions -/
def aVar (i : Nat) : AE := fun _ ρ M Q => match ρ[i]? with
  | some (some d) => Q d M
  | _ => False
def aC (v : V) : AE := fun _ _ M Q => Q (.val v) M
def aOp (f : AOp) (a b : AE) : AE := fun AW ρ M Q => a AW ρ M fun x M1 => b AW ρ M1 fun y M2 => f x y M2 Q
def aNil : AA := fun _ _ M Q => Q [] M
def aCons (a : AE) (r : AA) : AA := fun AW ρ M Q => a AW ρ M fun x M1 => r AW ρ M1 fun xs M2 => Q (x :: xs) M2
def aLst (t : AA) : AE := fun AW ρ M Q => t AW ρ M fun ds M1 => ds.length ≤ sizeLine ∧ Q (.lst ds) M1
def aTup (t : AA) : AE := fun AW ρ M Q => t AW ρ M fun ds M1 => ds.length ≤ sizeLine ∧ Q (.tup ds) M1
def aMLst (t : AA) : AE := fun AW ρ M Q => t AW ρ M fun ds M1 => ds.length ≤ sizeLine ∧ ∀ p, M1 p = none → Q (.ptr p) (mset M1 p (.lst ds))
def aCB (f : ACl) (t : AA) : AE := fun AW ρ M Q => t AW ρ M fun ds M1 => f ds M1 Q
def ifB (b : Bool) (A B : Prop) : Prop := match b with
  | true => A
  | false => B
theorem ifB_T {b : Bool} {A B : Prop} (h : b = true) (q : A) : ifB b A B := by subst h; exact q
theorem ifB_F {b : Bool} {A B : Prop} (h : b = false) (q : B) : ifB b A B := by subst h; exact q
theorem ifB_c {b : Bool} {A B : Prop} (c : Prop) (h : b = true ↔ c) (h1 : c → A) (h2 : ¬ c → B) : ifB b A B := by
  cases b with
  | true => exact h1 (h.mp rfl)
  | false => exact h2 fun z => Bool.false_ne_true (h.mpr z)
theorem ifB_2 {b : Bool} {A B : Prop} (h1 : b = true → A) (h2 : b = false → B) : ifB b A B := by
  cases b with
  | true => exact h1 rfl
  | false => exact h2 rfl
def aBl (d : PD) (Q : Bool → Prop) : Prop := match d with
  | .val (.bl b) => Q b
  | _ => False
def aTest (a : AE) : AT := fun AW ρ M Q => a AW ρ M fun d M1 => aBl d fun b => Q b M1
def aNot (t : AT) : AT := fun AW ρ M Q => t AW ρ M fun b M1 => Q (!b) M1
def aAnd (t u : AT) : AT := fun AW ρ M Q => t AW ρ M fun b M1 => ifB b (u AW ρ M1 Q) (Q false M1)
def aOr (t u : AT) : AT := fun AW ρ M Q => t AW ρ M fun b M1 => ifB b (Q true M1) (u AW ρ M1 Q)
def aYes : AT := fun _ _ M Q => Q true M
def aNotV (a : AE) : AE := fun AW ρ M Q => a AW ρ M fun d M1 => aBl d fun b => Q (.bl (!b)) M1
def aAndV (a b : AE) : AE := fun AW ρ M Q => a AW ρ M fun d M1 => aBl d fun k => ifB k (b AW ρ M1 Q) (Q (.bl false) M1)
def aOrV (a b : AE) : AE := fun AW ρ M Q => a AW ρ M fun d M1 => aBl d fun k => ifB k (Q (.bl true) M1) (b AW ρ M1 Q)
def aIf (t : AT) (a b : AE) : AE := fun AW ρ M Q => t AW ρ M fun k M1 => ifB k (a AW ρ M1 Q) (b AW ρ M1 Q)
def aUn (f : PD → MH → AK → Prop) (a : AE) : AE := fun AW ρ M Q => a AW ρ M fun d M1 => f d M1 Q
/-- truth -/
def aTru (d : PD) (M : MH) (Q : Bool → Prop) : Prop := match d with
  | .val .non => Q false
  | .val (.bl b) => Q b
  | .val (.int i) => Q (i != 0)
  | .val (.str y) => y.length ≤ sizeLine ∧ Q ((y.length : Int) != 0)
  | .lst ds => Q (!ds.isEmpty)
  | .tup ds => Q (!ds.isEmpty)
  | .dK _ ds => Q (!ds.isEmpty)
  | .val (.ref a) => match M a with
    | some (.lst ds) => Q (!ds.isEmpty)
    | some (.dK ds) => Q (!ds.isEmpty)
    | _ => False
  | _ => False
def aTruth (a : AE) : AT := fun AW ρ M Q => a AW ρ M fun d M1 => aTru d M1 fun b => Q b M1
def aNotT (a : AE) : AE := fun AW ρ M Q => a AW ρ M fun d M1 => aTru d M1 fun b => Q (.bl (!b)) M1
def aChain (f f' : AOp) (a b c : AE) : AE := fun AW ρ M Q => a AW ρ M fun x M1 => b AW ρ M1 fun y M2 => f x y M2 fun z M3 => aBl z fun k => ifB k (c AW ρ M3 fun u M4 => f' y u M4 Q) (Q (.bl false) M3)
section
variable {W : WX}
instance re_var {i : Nat} : RE W (tVar i) (aVar i) where
  run {G H O M σ ρ AW Q AQ} c h k := by
    unfold aVar at h
    cases e : ρ[i]? with
    | none => rw [e] at h; exact h.elim
    | some o =>
      rw [e] at h
      cases o with
      | none => exact h.elim
      | some d =>
        obtain ⟨v, h1, h2⟩ := c.rs.at_ i d e
        exact ⟨v, h1, k v d G H M (Same.refl G) c.wo h2 h⟩
instance re_c {v : V} : RE W (tC v) (aC v) where
  run c h k := k _ (.val _) _ _ _ (Same.refl _) c.wo rfl h
instance re_op {ta tb : TE} {a b : AE} {r : R2} {f : AOp} [i_ta : RE W ta a] [i_tb : RE W tb b] [i_r : ROp r f] : RE W (tOp r ta tb) (aOp f a b) where
  run c h k := i_ta.run c h fun x dx _ _ _ s1 w1 r1 h1 => i_tb.run (c.next s1 w1) h1 fun y dy _ _ _ s2 w2 r2 h2 => i_r.run w2 (Rep.mono s2 dx r1) r2 h2 (k.mono (s1.trans s2))
instance ra_nil : RA W tNil aNil where
  run c h k := k [] [] _ _ _ (Same.refl _) c.wo rfl h
instance ra_cons {ta : TE} {tr : TA} {a : AE} {r : AA} [i_ta : RE W ta a] [i_tr : RA W tr r] : RA W (tCons ta tr) (aCons a r) where
  run c h k := i_ta.run c h fun x dx _ _ _ s1 w1 r1 h1 => i_tr.run (c.next s1 w1) h1 fun xs ds _ _ _ s2 w2 r2 h2 => k _ _ _ _ _ (s1.trans s2) w2 (RepL.cons (Rep.mono s2 dx r1) r2) h2
instance re_lst {t : TA} {a : AA} [i_t : RA W t a] : RE W (tLst t) (aLst a) where
  run c h k := i_t.run c h fun xs ds _ _ _ s1 w1 r1 h1 => ⟨by rw [r1.len]; exact h1.1, new_lst w1 r1 (k.mono s1) h1.2⟩
instance re_tup {t : TA} {a : AA} [i_t : RA W t a] : RE W (tTup t) (aTup a) where
  run c h k := i_t.run c h fun xs ds _ _ _ s1 w1 r1 h1 => ⟨by rw [r1.len]; exact h1.1, new_tup w1 r1 (k.mono s1) h1.2⟩
/-- marks of the text: this list may change; this one stands still -/
def tMut (t : TE) : TE := t
def tFrz (t : TE) : TE := t
instance re_mlst {t : TA} {a : AA} [i_t : RA W t a] : RE W (tMut (tLst t)) (aMLst a) where
  run c h k := i_t.run c h fun xs ds _ _ _ s1 w1 r1 h1 => ⟨by rw [r1.len]; exact h1.1, mut_lst w1 r1 (k.mono s1) h1.2⟩
def frzK (M1 : MH) (d : PD) (Q : AK) : Prop := match d with
  | .val (.ref p) => match M1 p with
    | some (.lst ds) => Q (.lst ds) (mdel M1 p)
    | _ => Q d M1
  | _ => Q d M1
def aFrz (a : AE) : AE := fun AW ρ M Q => a AW ρ M fun d M1 => frzK M1 d Q
instance re_frz {t : TE} {a : AE} [i_t : RE W t a] : RE W (tFrz t) (aFrz a) where
  run {G H O M σ ρ AW Q AQ} c h k := by
    refine i_t.run c h fun v d G1 H1 M1 s1 w1 r1 h1 => ?_
    cases d with
    | val u =>
      cases u with
      | ref p =>
        have h1 : (match M1 p with | some (.lst ds) => AQ (.lst ds) (mdel M1 p) | _ => AQ (.val (.ref p)) M1) := h1
        cases e : M1 p with
        | none => rw [e] at h1; exact k _ _ _ _ _ s1 w1 r1 h1
        | some m =>
          rw [e] at h1
          cases m with
          | lst ds =>
            obtain ⟨o, g1, _, _, vs, rfl, g2⟩ := w1.mu p _ e
            obtain ⟨w2, s2⟩ := w1.freeze e g1
            exact k _ _ _ _ _ (s1.trans s2) w2 (show Rep _ (.lst ds) _ from ⟨p, vs, r1, upd_same, RepL.mono s2 ds g2⟩) h1
          | _ => exact k _ _ _ _ _ s1 w1 r1 h1
      | _ => exact k _ _ _ _ _ s1 w1 r1 h1
    | _ => exact k _ _ _ _ _ s1 w1 r1 h1
theorem frz_new {M : MH} {Q : AK} {ds : List PD} (h : Q (.lst ds) M) : ∀ a, M a = none → frzK (mset M a (.lst ds)) (.ptr a) Q := fun a ha => by
  show (match mset M a (.lst ds) a with | some (.lst ds') => Q (.lst ds') (mdel (mset M a (.lst ds)) a) | _ => Q (.ptr a) (mset M a (.lst ds)))
  rw [mset_same]
  show Q (.lst ds) (mdel (mset M a (.lst ds)) a)
  rw [mdel_mset ha]
  exact h
instance re_cb {r : List V → Hp → VK → Prop} {f : ACl} {t : TA} {a : AA} [i_t : RA W t a] [i_r : RCl r f] : RE W (tCB r t) (aCB f a) where
  run c h k := i_t.run c h fun xs ds _ _ _ s1 w1 r1 h1 => i_r.run w1 r1 h1 (k.mono s1)
theorem bl_at {G : Hp} {d : PD} {v : V} {Q : Bool → Prop} (r : Rep G d v) (h : aBl d Q) : ∃ b, v = .bl b ∧ Q b := by
  unfold aBl at h
  cases d with
  | val u =>
    cases u with
    | bl b => exact ⟨b, r, h⟩
    | _ => exact h.elim
  | _ => exact h.elim
instance rt_test {t : TE} {a : AE} [i_t : RE W t a] : RT W (tTest t) (aTest a) where
  run c h k := i_t.run c h fun v d _ _ _ s1 w1 r1 h1 => by
    obtain ⟨b, e, q⟩ := bl_at r1 h1
    exact ⟨b, e, k b _ _ _ s1 w1 q⟩
instance rt_B {t : TE} {a : AE} [i_t : RE W t a] : RT W (tB t) (aTest a) where
  run c h k := i_t.run c h fun v d _ _ _ s1 w1 r1 h1 => by
    obtain ⟨b, e, q⟩ := bl_at r1 h1
    exact ⟨b, e, k b _ _ _ s1 w1 q⟩
instance rt_not {t : TT} {a : AT} [i_t : RT W t a] : RT W (tNot t) (aNot a) where
  run c h k := i_t.run c h fun b _ _ _ s1 w1 h1 => k (!b) _ _ _ s1 w1 h1
instance rt_yes : RT W tYes aYes where
  run c h k := k true _ _ _ (Same.refl _) c.wo h
instance rt_and {t u : TT} {a b : AT} [i_t : RT W t a] [i_u : RT W u b] : RT W (tAnd t u) (aAnd a b) where
  run c h k := i_t.run c h fun x _ _ _ s1 w1 h1 => by
    cases x with
    | true => rw [if_pos rfl]; exact i_u.run (c.next s1 w1) h1 (k.mono s1)
    | false => rw [if_neg Bool.false_ne_true]; exact k false _ _ _ s1 w1 h1
instance rt_or {t u : TT} {a b : AT} [i_t : RT W t a] [i_u : RT W u b] : RT W (tOr t u) (aOr a b) where
  run c h k := i_t.run c h fun x _ _ _ s1 w1 h1 => by
    cases x with
    | false => rw [if_neg Bool.false_ne_true]; exact i_u.run (c.next s1 w1) h1 (k.mono s1)
    | true => rw [if_pos rfl]; exact k true _ _ _ s1 w1 h1
instance re_notV {t : TE} {a : AE} [i_t : RE W t a] : RE W (tNotV t) (aNotV a) where
  run c h k := i_t.run c h fun v d _ _ _ s1 w1 r1 h1 => by
    obtain ⟨b, e, q⟩ := bl_at r1 h1
    exact ⟨b, e, k _ (.val _) _ _ _ s1 w1 rfl q⟩
instance re_andV {t u : TE} {a b : AE} [i_t : RE W t a] [i_u : RE W u b] : RE W (tAndV t u) (aAndV a b) where
  run c h k := i_t.run c h fun v d _ _ _ s1 w1 r1 h1 => by
    obtain ⟨x, e, q⟩ := bl_at r1 h1
    refine ⟨x, e, ?_⟩
    cases x with
    | true => rw [if_pos rfl]; exact i_u.run (c.next s1 w1) q (k.mono s1)
    | false => rw [if_neg Bool.false_ne_true]; exact k _ (.val _) _ _ _ s1 w1 rfl q
instance re_orV {t u : TE} {a b : AE} [i_t : RE W t a] [i_u : RE W u b] : RE W (tOrV t u) (aOrV a b) where
  run c h k := i_t.run c h fun v d _ _ _ s1 w1 r1 h1 => by
    obtain ⟨x, e, q⟩ := bl_at r1 h1
    refine ⟨x, e, ?_⟩
    cases x with
    | false => rw [if_neg Bool.false_ne_true]; exact i_u.run (c.next s1 w1) q (k.mono s1)
    | true => rw [if_pos rfl]; exact k _ (.val _) _ _ _ s1 w1 rfl q
instance re_if {t : TT} {u v : TE} {c0 : AT} {a b : AE} [i_t : RT W t c0] [i_u : RE W u a] [i_v : RE W v b] : RE W (tIf t u v) (aIf c0 a b) where
  run c h k := i_t.run c h fun x _ _ _ s1 w1 h1 => by
    cases x with
    | true => rw [if_pos rfl]; exact i_u.run (c.next s1 w1) h1 (k.mono s1)
    | false => rw [if_neg Bool.false_ne_true]; exact i_v.run (c.next s1 w1) h1 (k.mono s1)
class RU (r : V → Hp → VK → Prop) (f : outParam (PD → MH → AK → Prop)) : Prop where
  run : ∀ {G H O : Hp} {M : MH} {x : V} {dx : PD} {Q : VK} {AQ : AK}, Wo G H M O → Rep G dx x → f dx M AQ → KVr G O Q AQ → r x H Q
instance re_un {r : V → Hp → VK → Prop} {f : PD → MH → AK → Prop} {t : TE} {a : AE} [i_r : RU r f] [i_t : RE W t a] : RE W (tUn r t) (aUn f a) where
  run c h k := i_t.run c h fun v d _ _ _ s1 w1 r1 h1 => i_r.run w1 r1 h1 (k.mono s1)
def fU (g : Int → V) : PD → MH → AK → Prop := fun d M Q => match d with
  | .val (.int i) => Q (.val (g i)) M
  | _ => False
instance ru_U {g : Int → V} : RU (rU g) (fU g) where
  run {G H O M x dx Q AQ} w r h k := by
    unfold fU at h
    cases dx with
    | val u =>
      cases u with
      | int i => exact ⟨i, r, k _ (.val (g i)) _ _ _ (Same.refl _) w rfl h⟩
      | _ => exact h.elim
    | _ => exact h.elim
theorem tru_at {K : PySem.W.Frag} {G H O : Hp} {M : MH} {d : PD} {v : V} {Q : Bool → Prop} (w : Wo G H M O) (r : Rep G d v) (h : aTru d M Q) : ∃ b, TruV K v H b ∧ Q b := by
  unfold aTru at h
  cases d with
  | val u =>
    have r : v = u := r
    subst r
    cases v with
    | non => exact ⟨false, rfl, h⟩
    | bl b => exact ⟨b, rfl, h⟩
    | int i => exact ⟨_, rfl, h⟩
    | str y => exact ⟨_, ⟨h.1, rfl⟩, h.2⟩
    | ref a =>
      have h : (match M a with | some (.lst ds) => Q (!ds.isEmpty) | some (.dK ds) => Q (!ds.isEmpty) | _ => False) := h
      cases e : M a with
      | none => rw [e] at h; exact h.elim
      | some m =>
        rw [e] at h
        cases m with
        | lst ds =>
          obtain ⟨o, g1, _, _, vs, rfl, g2⟩ := w.mu a _ e
          refine ⟨_, .inl ⟨vs, SqL.of g1, rfl⟩, ?_⟩
          have : vs.isEmpty = ds.isEmpty := by
            have l := g2.len
            cases vs <;> cases ds <;> first | rfl | (simp at l)
          rw [this]; exact h
        | dK ds =>
          obtain ⟨o, g1, _, _, vs, rfl, g2⟩ := w.mu a _ e
          refine ⟨_, .inr (.inr ⟨vs, g1, rfl⟩), ?_⟩
          have : vs.isEmpty = ds.isEmpty := by cases g2 <;> rfl
          rw [this]; exact h
        | _ => exact h.elim
    | _ => exact h.elim
  | lst ds =>
    obtain ⟨a, vs, rfl, g1, g2⟩ := r
    refine ⟨_, .inl ⟨vs, SqL.of (w.gh _ _ g1), rfl⟩, ?_⟩
    have : vs.isEmpty = ds.isEmpty := by
      have l := g2.len
      cases vs <;> cases ds <;> first | rfl | (simp at l)
    rw [this]; exact h
  | tup ds =>
    obtain ⟨a, vs, rfl, g1, g2⟩ := r
    refine ⟨_, .inr (.inl ⟨vs, SqT.of (w.gh _ _ g1), rfl⟩), ?_⟩
    have : vs.isEmpty = ds.isEmpty := by
      have l := g2.len
      cases vs <;> cases ds <;> first | rfl | (simp at l)
    rw [this]; exact h
  | dK ks ds =>
    obtain ⟨a, vs, rfl, l, g1, g2⟩ := r
    refine ⟨_, .inr (.inr ⟨_, w.gh _ _ g1, rfl⟩), ?_⟩
    have : (ks.zip vs).isEmpty = ds.isEmpty := by
      have l2 := g2.len
      cases ks <;> cases vs <;> cases ds <;> first | rfl | (simp at l l2)
    rw [this]; exact h
  | _ => exact h.elim
instance rt_truth {K : PySem.W.Frag} {t : TE} {a : AE} [i_t : RE W t a] : RT W (tTruth K t) (aTruth a) where
  run c h k := i_t.run c h fun v d _ _ _ s1 w1 r1 h1 => by
    obtain ⟨b, e, q⟩ := tru_at w1 r1 h1
    exact ⟨b, e, k b _ _ _ s1 w1 q⟩
instance re_notT {K : PySem.W.Frag} {t : TE} {a : AE} [i_t : RE W t a] : RE W (tNotT K t) (aNotT a) where
  run c h k := i_t.run c h fun v d _ _ _ s1 w1 r1 h1 => by
    obtain ⟨b, e, q⟩ := tru_at w1 r1 h1
    exact ⟨b, e, k _ (.val _) _ _ _ s1 w1 rfl q⟩
instance re_chain {r r' : R2} {f f' : AOp} {ta tb tc : TE} {a b c0 : AE} [i_r : ROp r f] [i_r' : ROp r' f'] [i_ta : RE W ta a] [i_tb : RE W tb b] [i_tc : RE W tc c0] : RE W (tChain r r' ta tb tc) (aChain f f' a b c0) where
  run c h k := i_ta.run c h fun x dx _ _ _ s1 w1 r1 h1 => i_tb.run (c.next s1 w1) h1 fun y dy _ _ _ s2 w2 r2 h2 => i_r.run w2 (Rep.mono s2 dx r1) r2 h2 fun z dz _ _ _ s3 w3 r3 h3 => by
    have s123 := (s1.trans s2).trans s3
    obtain ⟨q, e, h3⟩ := bl_at r3 h3
    refine ⟨q, e, ?_⟩
    cases q with
    | true => rw [if_pos rfl]; exact i_tc.run (c.next s123 w3) h3 fun u du _ _ _ s4 w4 r4 h4 => i_r'.run w4 (Rep.mono (s3.trans s4) dy r2) r4 h4 (k.mono (s123.trans s4))
    | false => rw [if_neg Bool.false_ne_true]; exact k _ (.val _) _ _ _ s123 w3 rfl h3
end
end OA

/-! ### plain readings: statements, targets, loops, comprehensions, calls -/
namespace OA
open PySem PySem.Spec PyProof.Rows L2
def aNext : AS := fun _ D ρ M => D.nx ρ M
def aSeq (a b : AS) : AS := fun AW D ρ M => a AW { D with nx := b AW D } ρ M
def aDrop (a : AE) : AS := fun AW D ρ M => a AW ρ M fun _ M1 => D.nx ρ M1
def aRet (a : AE) : AS := fun AW D ρ M => a AW ρ M D.rt
def aRetN : AS := fun _ D _ M => D.rt .non M
def aIfS (t : AT) (a b : AS) : AS := fun AW D ρ M => t AW ρ M fun k M1 => ifB k (a AW D ρ M1) (b AW D ρ M1)
def aNever : AS := fun _ _ _ _ => False
def aBreak : AS := fun _ D ρ M => D.bk ρ M
def aCont : AS := fun _ D ρ M => D.ct ρ M
def aAsg (a : AE) (g : AG) : AS := fun AW D ρ M => a AW ρ M fun d M1 => g AW d ρ M1 D.nx
def aName (i : Nat) : AG := fun _ d ρ M Q => Q (ρ.set i (some d)) M
def aGNil : AGs := fun _ ds ρ M Q => match ds with
  | [] => Q ρ M
  | _ => False
def aGCons (g : AG) (gs : AGs) : AGs := fun AW ds ρ M Q => match ds with
  | d :: r => g AW d ρ M fun ρ1 M1 => gs AW r ρ1 M1 Q
  | [] => False
def aGTup (n : Nat) (gs : AGs) : AG := fun AW d ρ M Q => match d with
  | .tup ds => ds.length = n ∧ gs AW ds ρ M Q
  | _ => False
def aCut (a b : AS) : AS := fun AW D ρ M => ∃ Mid : AEnv → MH → Prop, a AW { D with nx := Mid } ρ M ∧ ∀ ρ' M', Mid ρ' M' → b AW D ρ' M'
def aAug (i : Nat) (a : AE) (f : Int → Int → Int) : AS := fun AW D ρ M => match ρ[i]? with
  | some (some (.val (.int x))) => a AW ρ M fun d M1 => match d with
    | .val (.int y) => D.nx (ρ.set i (some (.int (f x y)))) M1
    | _ => False
  | _ => False
def LoopP (ds : List PD) (chk : MH → Prop) (g : AG) (b : AS) (AW : AWX) (D : AEnds) (ρ : AEnv) (M1 : MH) : Prop := ∃ I : Nat → AEnv → MH → Prop, I 0 ρ M1 ∧ ∀ i ρ' M', I i ρ' M' → chk M' ∧ (i = ds.length → D.nx ρ' M') ∧
  ∀ d, ds[i]? = some d → g AW d ρ' M' fun ρ2 M2 => b AW { D with nx := I (i + 1), ct := I (i + 1), bk := D.nx } ρ2 M2
def aFor (it : AI) (g : AG) (b : AS) : AS := fun AW D ρ M => it AW ρ M fun ds chk M1 => LoopP ds chk g b AW D ρ M1
def aWhile (t : AT) (b : AS) : AS := fun AW D ρ M => ∃ I : Nat → AEnv → MH → Prop, (∃ m, I m ρ M) ∧ ∀ m ρ' M', I m ρ' M' → t AW ρ' M' fun k M1 => ifB k (b AW { D with nx := fun ρ2 M2 => ∃ m', m' < m ∧ I m' ρ2 M2, ct := fun ρ2 M2 => ∃ m', m' < m ∧ I m' ρ2 M2, bk := D.nx } ρ' M1) (D.nx ρ' M1)
def LcP (ds : List PD) (chk : MH → Prop) (g : AG) (t : AT) (e : AE) (fin : List PD → MH → Prop) (AW : AWX) (ρ : AEnv) (M1 : MH) : Prop := ∃ I : Nat → List PD → MH → Prop, I 0 [] M1 ∧ ∀ i acc M', I i acc M' → chk M' ∧ (i = ds.length → fin acc M') ∧
  ∀ d, ds[i]? = some d → acc.length < sizeLine ∧ g AW d ρ M' fun ρ2 M2 => t AW ρ2 M2 fun b M3 => ifB b (e AW ρ2 M3 fun y M4 => I (i + 1) (acc ++ [y]) M4) (I (i + 1) acc M3)
def aLcG (it : AI) (g : AG) (t : AT) (e : AE) (vs js : List Nat) (fin : List PD → MH → AK → Prop) : AE := fun AW ρ M Q => (js.all fun j => vs.contains j) = true ∧ it AW ρ M fun ds chk M1 => LcP ds chk g t e (fun acc M' => fin acc M' Q) AW (awipe ρ vs) M1
def aLc (it : AI) (g : AG) (t : AT) (e : AE) (vs js : List Nat) : AE := aLcG it g t e vs js fun ds M Q => Q (.lst ds) M
def aMLc (it : AI) (g : AG) (t : AT) (e : AE) (vs js : List Nat) : AE := aLcG it g t e vs js fun ds M Q => ∀ p, M p = none → Q (.ptr p) (mset M p (.lst ds))
section
variable {W : WX}
instance rs_next : RS W tNext aNext where
  run c h k := k.nx _ _ _ _ _ (Same.refl _) c.wo c.rs h
instance rs_seq {t u : TS} {a b : AS} [i_t : RS W t a] [i_u : RS W u b] : RS W (tSeq t u) (aSeq a b) where
  run c h k := i_t.run c h ⟨fun _ _ _ _ _ s w r h1 => i_u.run (c.to s w r) h1 (k.mono s), k.rt, k.bk, k.ct⟩
instance rs_drop {t : TE} {a : AE} [i_t : RE W t a] : RS W (tDrop t) (aDrop a) where
  run c h k := i_t.run c h fun _ _ _ _ _ s w _ h1 => k.nx _ _ _ _ _ s w (c.rs.mono s) h1
instance rs_ret {t : TE} {a : AE} [i_t : RE W t a] : RS W (tRet t) (aRet a) where
  run c h k := i_t.run c h k.rt
instance rs_retN : RS W tRetN aRetN where
  run c h k := k.rt _ (.val .non) _ _ _ (Same.refl _) c.wo rfl h
instance rs_ifS {t : TT} {u v : TS} {c0 : AT} {a b : AS} [i_t : RT W t c0] [i_u : RS W u a] [i_v : RS W v b] : RS W (tIfS t u v) (aIfS c0 a b) where
  run c h k := i_t.run c h fun x _ _ _ s1 w1 h1 => by
    cases x with
    | true => rw [if_pos rfl]; exact i_u.run (c.next s1 w1) h1 (k.mono s1)
    | false => rw [if_neg Bool.false_ne_true]; exact i_v.run (c.next s1 w1) h1 (k.mono s1)
instance rs_never : RS W tNever aNever where
  run _ h _ := h.elim
instance rs_break : RS W tBreak aBreak where
  run c h k := k.bk _ _ _ _ _ (Same.refl _) c.wo c.rs h
instance rs_cont : RS W tCont aCont where
  run c h k := k.ct _ _ _ _ _ (Same.refl _) c.wo c.rs h
instance rg_name {i : Nat} : RG W (gName i) (aName i) [i] where
  run c r h k := k _ _ _ _ _ (Same.refl _) c.wo (c.rs.set r i) (List.length_set ..) (fun j hj => List.getElem?_set_ne (fun e => hj (by rw [e]; exact List.mem_singleton.mpr rfl))) h
instance rgs_nil : RGs W gNil aGNil [] where
  run {G H O M σ ρ AW Q AQ ds vs} c r h k := by
    cases ds with
    | nil => exact ⟨r, k _ _ _ _ _ (Same.refl _) c.wo c.rs rfl (fun _ _ => rfl) h⟩
    | cons _ _ => exact h.elim
instance rgs_cons {g : TG} {gs : TGs} {ag : AG} {ags : AGs} {js is_ : List Nat} [i_g : RG W g ag js] [i_gs : RGs W gs ags is_] : RGs W (gCons g gs) (aGCons ag ags) (js ++ is_) where
  run {G H O M σ ρ AW Q AQ ds vs} c r h k := by
    cases ds with
    | nil => exact h.elim
    | cons d ds =>
      obtain ⟨v, rs, rfl, r1, r2⟩ := r
      refine ⟨v, rs, rfl, i_g.run c r1 h fun σ1 ρ1 G1 H1 M1 s1 w1 q1 l1 f1 h1 => ?_⟩
      exact i_gs.run (c.to s1 w1 q1) (RepL.mono s1 ds r2) h1 fun σ2 ρ2 G2 H2 M2 s2 w2 q2 l2 f2 h2 => k _ _ _ _ _ (s1.trans s2) w2 q2 (l2.trans l1) (fun j hj => (f2 j (fun z => hj (List.mem_append_right _ z))).trans (f1 j (fun z => hj (List.mem_append_left _ z)))) h2
instance rg_tup {K : PySem.W.Frag} {n : Nat} {gs : TGs} {ags : AGs} {js : List Nat} [i_gs : RGs W gs ags js] : RG W (gTup K n gs) (aGTup n ags) js where
  run {G H O M σ ρ AW Q AQ d v} c r h k := by
    cases d with
    | tup ds =>
      obtain ⟨a, vs, rfl, g1, g2⟩ := r
      exact ⟨a, vs, rfl, SqT.of (c.wo.gh _ _ g1), g2.len.trans h.1, i_gs.run c g2 h.2 k⟩
    | _ => exact h.elim
instance rs_asg {t : TE} {g : TG} {a : AE} {ag : AG} {js : List Nat} [i_t : RE W t a] [i_g : RG W g ag js] : RS W (tAsg t g) (aAsg a ag) where
  run c h k := i_t.run c h fun v d _ _ _ s1 w1 r1 h1 => i_g.run (c.next s1 w1) r1 h1 fun _ _ _ _ _ s2 w2 r2 _ _ h2 => k.nx _ _ _ _ _ (s1.trans s2) w2 r2 h2
instance rs_cut {t u : TS} {a b : AS} [i_t : RS W t a] [i_u : RS W u b] : RS W (C8.tCut t u) (aCut a b) where
  run {G H O M σ ρ AW D AD} c h k := by
    obtain ⟨Mid, h1, h2⟩ := h
    refine ⟨fun σ' H' => ∃ G' M' ρ', Same G G' ∧ Wo G' H' M' O ∧ RepS G' ρ' σ' ∧ Mid ρ' M', i_t.run c h1 ⟨fun _ _ _ _ _ s w r q => ⟨_, _, _, s, w, r, q⟩, k.rt, k.bk, k.ct⟩, ?_⟩
    rintro σ' H' ⟨G', M', ρ', s, w, r, q⟩
    exact i_u.run (c.to s w r) (h2 _ _ q) (k.mono s)
instance rs_aug {i : Nat} {t : TE} {a : AE} {f : Int → Int → Int} [i_t : RE W t a] : RS W (tAug i t (ipI f)) (aAug i a f) where
  run {G H O M σ ρ AW D AD} c h k := by
    unfold aAug at h
    cases e : ρ[i]? with
    | none => rw [e] at h; exact h.elim
    | some o =>
      rw [e] at h
      cases o with
      | none => exact h.elim
      | some d =>
        obtain ⟨v, h1, h2⟩ := c.rs.at_ i d e
        cases d with
        | val u =>
          have h2 : v = u := h2
          subst h2
          cases v with
          | int x =>
            refine ⟨_, h1, i_t.run c h fun y dy G1 H1 M1 s1 w1 r1 q1 => ?_⟩
            cases dy with
            | val u =>
              have r1 : y = u := r1
              subst r1
              cases y with
              | int y => exact ⟨x, y, rfl, rfl, k.nx _ _ _ _ _ s1 w1 ((c.rs.mono s1).set (d := .int (f x y)) rfl i) q1⟩
              | _ => exact q1.elim
            | _ => exact q1.elim
          | _ => exact h.elim
        | _ => exact h.elim
instance rs_for {wi : TI} {g : TG} {tb : TS} {ai : AI} {ag : AG} {ab : AS} {js : List Nat} [i_wi : RI W wi ai] [i_g : RG W g ag js] [i_b : RS W tb ab] : RS W (tFor wi g tb) (aFor ai ag ab) where
  run {G H O M σ ρ AW D AD} c h k := i_wi.run c h fun J ds chk G1 H1 M1 s1 w1 it h1 => by
    obtain ⟨I, h0, hs⟩ := h1
    have it := it O (Same.refl O)
    refine ⟨fun i m σ' H' => m = ds.length - i ∧ i ≤ ds.length ∧ ∃ G' M' ρ', Same G1 G' ∧ Wo G' H' M' O ∧ RepS G' ρ' σ' ∧ I i ρ' M', ⟨ds.length, rfl, Nat.zero_le _, G1, M1, ρ, Same.refl _, w1, c.rs.mono s1, h0⟩, ?_⟩
    rintro i m σ' H' ⟨rfl, hi, G', M', ρ', s', w', r', hI⟩
    obtain ⟨hc, hend, hstep⟩ := hs i ρ' M' hI
    by_cases hlt : i < ds.length
    · right
      have e := List.getElem?_eq_getElem hlt
      obtain ⟨g1, g2⟩ := it.go i _ G' H' M' s' w' hc e
      refine ⟨g1, fun σ2 H2 => ∃ G2 M2 ρ2, Same G1 G2 ∧ Wo G2 H2 M2 O ∧ RepS G2 ρ2 σ2 ∧ I (i + 1) ρ2 M2, fun σ2 H2 ⟨G2, M2, ρ2, a, b, c', d⟩ => ⟨ds.length - (i + 1), by omega, rfl, hlt, G2, M2, ρ2, a, b, c', d⟩, fun x H'' y => ?_⟩
      obtain ⟨G'', s'', w'', r''⟩ := g2 x H'' y
      have sA := s'.trans s''
      refine i_g.run (c.to (s1.trans sA) w'' (r'.mono s'')) r'' (hstep _ e) fun σ2 ρ2 G2 H2 M2 sg wg rg _ _ hb => ?_
      have sB := sA.trans sg
      exact i_b.run (c.to (s1.trans sB) wg rg) hb ⟨fun _ _ _ _ _ s w r h => ⟨_, _, _, sB.trans s, w, r, h⟩, k.rt.mono (s1.trans sB), k.nx.mono (s1.trans sB), fun _ _ _ _ _ s w r h => ⟨_, _, _, sB.trans s, w, r, h⟩⟩
    · left
      have e : i = ds.length := by omega
      exact ⟨by rw [e]; exact it.stop G' H' M' s' w' hc, k.nx _ _ _ _ _ (s1.trans s') w' r' (hend e)⟩
instance rs_while {t : TT} {tb : TS} {a : AT} {ab : AS} [i_t : RT W t a] [i_b : RS W tb ab] : RS W (tWhile t tb) (aWhile a ab) where
  run {G H O M σ ρ AW D AD} c h k := by
    obtain ⟨I, ⟨m0, h0⟩, hs⟩ := h
    refine ⟨fun m σ' H' => ∃ G' M' ρ', Same G G' ∧ Wo G' H' M' O ∧ RepS G' ρ' σ' ∧ I m ρ' M', ⟨m0, G, M, ρ, Same.refl _, c.wo, c.rs, h0⟩, ?_⟩
    rintro m σ' H' ⟨G', M', ρ', s', w', r', hI⟩
    refine i_t.run (c.to s' w' r') (hs m ρ' M' hI) fun x G2 H2 M2 s2 w2 h2 => ?_
    have sA := s'.trans s2
    cases x with
    | true =>
      refine ⟨fun σ3 H3 => ∃ m', m' < m ∧ ∃ G3 M3 ρ3, Same G G3 ∧ Wo G3 H3 M3 O ∧ RepS G3 ρ3 σ3 ∧ I m' ρ3 M3, fun σ3 H3 h => h, ?_⟩
      refine i_b.run (c.to sA w2 (r'.mono s2)) h2 ⟨fun σ3 ρ3 G3 H3 M3 s3 w3 r3 h3 => ?_, k.rt.mono sA, k.nx.mono sA, fun σ3 ρ3 G3 H3 M3 s3 w3 r3 h3 => ?_⟩
      · obtain ⟨m', hm, h3⟩ := h3; exact ⟨m', hm, G3, M3, ρ3, sA.trans s3, w3, r3, h3⟩
      · obtain ⟨m', hm, h3⟩ := h3; exact ⟨m', hm, G3, M3, ρ3, sA.trans s3, w3, r3, h3⟩
    | false => exact k.nx _ _ _ _ _ sA w2 (r'.mono s2) h2
theorem wipe_eq {σ σ' : L2.St} : ∀ {vs : List Nat}, σ'.length = σ.length → (∀ j, j ∉ vs → σ'[j]? = σ[j]?) → L2.wipe σ' vs = L2.wipe σ vs := by
  intro vs hl hj
  apply List.ext_getElem?
  intro i
  by_cases hi : i ∈ vs
  · have key : ∀ (τ : L2.St) (vs : List Nat), i ∈ vs → i < τ.length → (L2.wipe τ vs)[i]? = some none := by
      intro τ vs
      induction vs with
      | nil => intro h; cases h
      | cons v vs ih =>
        intro h hlt
        unfold L2.wipe
        by_cases e : v = i
        · subst e
          rw [List.getElem?_set_self (by rw [L2.wipe_length]; exact hlt)]
        · rw [List.getElem?_set_ne e]
          rcases List.mem_cons.mp h with h | h
          · exact absurd h.symm e
          · exact ih h hlt
    by_cases hlt : i < σ.length
    · rw [key σ' vs hi (by omega), key σ vs hi hlt]
    · rw [List.getElem?_eq_none (by rw [L2.wipe_length]; omega), List.getElem?_eq_none (by rw [L2.wipe_length]; omega)]
  · have key : ∀ (τ : L2.St) (vs : List Nat), i ∉ vs → (L2.wipe τ vs)[i]? = τ[i]? := by
      intro τ vs
      induction vs with
      | nil => intro _; rfl
      | cons v vs ih =>
        intro h
        unfold L2.wipe
        rw [List.getElem?_set_ne (fun e => h (by rw [e]; exact List.mem_cons_self))]
        exact ih fun z => h (List.mem_cons_of_mem _ z)
    rw [key σ' vs hi, key σ vs hi, hj i hi]
theorem wipe_wipe (σ : L2.St) (vs : List Nat) : L2.wipe (L2.wipe σ vs) vs = L2.wipe σ vs := by
  apply wipe_eq (L2.wipe_length σ vs)
  intro j hj
  have key : ∀ (vs : List Nat), j ∉ vs → (L2.wipe σ vs)[j]? = σ[j]? := by
    intro vs
    induction vs with
    | nil => intro _; rfl
    | cons v vs ih =>
      intro h
      unfold L2.wipe
      rw [List.getElem?_set_ne (fun e => h (by rw [e]; exact List.mem_cons_self))]
      exact ih fun z => h (List.mem_cons_of_mem _ z)
  exact key vs hj
theorem lc_run {wi : TI} {g : TG} {tt : TT} {te : TE} {vs : List Nat} {ai : AI} {ag : AG} {at_ : AT} {ae : AE} {js : List Nat} {fin : List PD → MH → AK → Prop} [i_wi : RI W wi ai] [i_g : RG W g ag js] [i_t : RT W tt at_] [i_e : RE W te ae]
    (hf : ∀ {G H O : Hp} {M : MH} {Q : VK} {AQ : AK} {ds : List PD} {D : Addr}, Wo G H M O → G D = none → M D = none → O D = none → (∃ xs, H D = some (.lst xs) ∧ RepL G ds xs) → KVr G O Q AQ → fin ds M AQ → Q (.ref D) H)
    {G H O : Hp} {M : MH} {σ : L2.St} {ρ : AEnv} {AW : AWX} {Q : VK} {AQ : AK} (c : Cz W G H O M σ ρ AW) (h : aLcG ai ag at_ ae vs js fin AW ρ M AQ) (k : KVr G O Q AQ) : tLc wi g tt te vs σ H Q := by
  obtain ⟨hjs, h⟩ := h
  refine i_wi.run c h fun J ds chk G1 H1 M1 s1 w1 it h1 => ?_
  obtain ⟨I, h0, hs⟩ := h1
  intro D nD
  have gD := w1.gh.free nD
  have mD := w1.fresh nD
  have oD := w1.oh.free nD
  have wD : Wo G1 (upd H1 D (.lst [])) M1 O := w1.same (same_loc (Same.refl H1) nD _)
  refine ⟨fun i m H' => m = ds.length - i ∧ i ≤ ds.length ∧ ∃ G' M' acc xs, Same G1 G' ∧ Wo G' H' M' O ∧ G' D = none ∧ M' D = none ∧ H' D = some (.lst xs) ∧ RepL G' acc xs ∧ I i acc M', ⟨ds.length, rfl, Nat.zero_le _, G1, M1, [], [], Same.refl _, wD, gD, mD, upd_same, rfl, h0⟩, ?_⟩
  rintro i m H' ⟨rfl, hi, G', M', acc, xs, s', w', g', m', hD, hx, hI⟩
  obtain ⟨hc, hend, hstep⟩ := hs i acc M' hI
  have wg : Wo G' H' M' (upd O D (.lst xs)) := w'.guard hD g' m' oD
  have sO : Same O (upd O D (.lst xs)) := Same.lay oD _
  have it := it _ sO
  by_cases hlt : i < ds.length
  · right
    have e := List.getElem?_eq_getElem hlt
    obtain ⟨g1, g2⟩ := it.go i _ G' H' M' s' wg hc e
    refine ⟨g1, fun H2 => ∃ G2 M2 acc2 xs2, Same G1 G2 ∧ Wo G2 H2 M2 O ∧ G2 D = none ∧ M2 D = none ∧ H2 D = some (.lst xs2) ∧ RepL G2 acc2 xs2 ∧ I (i + 1) acc2 M2, fun H2 ⟨G2, M2, a2, x2, q⟩ => ⟨ds.length - (i + 1), by omega, rfl, hlt, G2, M2, a2, x2, q⟩, fun x H'' y => ?_⟩
    obtain ⟨G'', s'', w'', r''⟩ := g2 x H'' y
    have sA := s'.trans s''
    obtain ⟨hacc, hh⟩ := hstep _ e
    have wxO : WXr G'' (upd O D (.lst xs)) W AW := fun C fds od fs G3 H3 M3 ρ3 σ3 s3 w3 r3 hd rk aw => c.wx C fds od fs G3 H3 M3 ρ3 σ3 ((s1.trans sA).trans s3) (w3.less sO) r3 (hd.imp id fun ⟨d, e, h1, h2, h3, h4⟩ => ⟨d, e, h1, h2, sO.free h3, h4⟩) rk aw
    have cO : Cz W G'' H'' (upd O D (.lst xs)) M' (L2.wipe σ vs) (awipe ρ vs) AW := ⟨w'', (c.rs.mono (s1.trans sA)).wipe vs, wxO⟩
    -- what is known of D afterwards
    have outD : ∀ {G3 H3 : Hp} {M3 : MH}, Wo G3 H3 M3 (upd O D (.lst xs)) → H3 D = some (.lst xs) ∧ G3 D = none ∧ M3 D = none := fun {G3 H3 M3} w3 => by
      refine ⟨w3.oh D _ upd_same, w3.og D _ upd_same, ?_⟩
      cases em : M3 D with
      | none => rfl
      | some m3 =>
        obtain ⟨_, _, _, k3, _⟩ := w3.mu D m3 em
        rw [upd_same] at k3
        cases k3
    refine i_g.run cO r'' hh fun σ2 ρ2 G2 H2 M2 sg wg2 rg lg fg hb => ?_
    refine ⟨?_, ?_⟩
    · rw [wipe_eq (σ := L2.wipe σ vs) lg fun j hj => fg j fun z => hj (by have := List.all_eq_true.mp hjs j z; simpa using this), wipe_wipe]
    · have sB := sA.trans sg
      have c2 : Cz W G2 H2 (upd O D (.lst xs)) M2 σ2 ρ2 AW := cO.to sg wg2 rg
      refine i_t.run c2 hb fun b G3 H3 M3 s3 w3 h3 => ?_
      cases b with
      | true =>
        rw [if_pos rfl]
        refine i_e.run (c2.next s3 w3) h3 fun y dy G4 H4 M4 s4 w4 r4 h4 => ?_
        obtain ⟨k1, k2, k3⟩ := outD w4
        have s14 := (sB.trans s3).trans s4
        refine ⟨xs, k1, by rw [hx.len]; exact hacc, G4, M4, acc ++ [dy], xs ++ [y], s14, ?_, k2, k3, upd_same, (RepL.mono (((s''.trans sg).trans s3).trans s4) acc hx).app (RepL.one r4), h4⟩
        have w5 := w4.less sO
        refine ⟨fun b u hb => ?_, fun b u hb => ?_, w5.og, fun b n hb => ?_⟩
        · rw [upd_ne (ne_of_none hb k2)]; exact w5.gh b u hb
        · rw [upd_ne (ne_of_none hb oD)]; exact w5.oh b u hb
        · obtain ⟨u, z1, z2⟩ := w5.mu b n hb
          exact ⟨u, by rw [upd_ne (fun z => by rw [z, k3] at hb; cases hb)]; exact z1, z2⟩
      | false =>
        rw [if_neg Bool.false_ne_true]
        obtain ⟨k1, k2, k3⟩ := outD w3
        exact ⟨G3, M3, acc, xs, sB.trans s3, w3.less sO, k2, k3, k1, RepL.mono ((s''.trans sg).trans s3) acc hx, h3⟩
  · left
    have e : i = ds.length := by omega
    refine ⟨by rw [e]; exact it.stop G' H' M' s' wg hc, ?_⟩
    exact hf w' g' m' oD ⟨xs, hD, hx⟩ (k.mono (s1.trans s')) (hend e)
instance re_lc {wi : TI} {g : TG} {tt : TT} {te : TE} {vs : List Nat} {ai : AI} {ag : AG} {at_ : AT} {ae : AE} {js : List Nat} [i_wi : RI W wi ai] [i_g : RG W g ag js] [i_t : RT W tt at_] [i_e : RE W te ae] : RE W (tLc wi g tt te vs) (aLc ai ag at_ ae vs js) where
  run c h k := lc_run (fun {G H O M Q AQ ds D} w gD mD oD ⟨xs, hD, hx⟩ k h => by
    refine k _ (.lst ds) (upd G D (.lst xs)) H M (Same.lay gD _) ⟨fun b u hb => ?_, w.oh, fun b u hb => ?_, fun b n hb => ?_⟩ ⟨D, xs, rfl, upd_same, RepL.mono (Same.lay gD _) ds hx⟩ h
    · by_cases e : b = D
      · subst e; rw [upd_same] at hb; cases hb; exact hD
      · rw [upd_ne e] at hb; exact w.gh b u hb
    · rw [upd_ne (ne_of_none hb oD)]; exact w.og b u hb
    · obtain ⟨u, z1, z2, z3, z4⟩ := w.mu b n hb
      exact ⟨u, z1, by rw [upd_ne (fun z => by rw [z, mD] at hb; cases hb)]; exact z2, z3, z4.mono (Same.lay gD _)⟩) c h k
instance re_mlc {wi : TI} {g : TG} {tt : TT} {te : TE} {vs : List Nat} {ai : AI} {ag : AG} {at_ : AT} {ae : AE} {js : List Nat} [i_wi : RI W wi ai] [i_g : RG W g ag js] [i_t : RT W tt at_] [i_e : RE W te ae] : RE W (tMut (tLc wi g tt te vs)) (aMLc ai ag at_ ae vs js) where
  run c h k := lc_run (fun {G H O M Q AQ ds D} w gD mD oD ⟨xs, hD, hx⟩ k h => by
    refine k _ (.ptr D) G H (mset M D (.lst ds)) (Same.refl _) ⟨w.gh, w.oh, w.og, fun b n hb => ?_⟩ rfl (h D mD)
    by_cases e : b = D
    · subst e; rw [mset_same] at hb; cases hb; exact ⟨_, hD, gD, oD, xs, rfl, hx⟩
    · rw [mset_ne e] at hb; exact w.mu b n hb) c h k
end
end OA

/-! ### plain readings: iterators, operators, dicts, fields, calls -/
namespace OA
open PySem PySem.Spec PyProof.Rows L2
/-! iterators -/
def aIter (a : AE) : AI := fun AW ρ M R => a AW ρ M fun d M1 => match d with
  | .lst ds => R ds (fun _ => True) M1
  | .val (.ref p) => ∃ ds, M1 p = some (.lst ds) ∧ R ds (fun M => M p = some (.lst ds)) M1
  | _ => False
def aIterT (a : AE) : AI := fun AW ρ M R => a AW ρ M fun d M1 => match d with
  | .tup ds => R ds (fun _ => True) M1
  | _ => False
def rngD (lo : Int) (n : Nat) : List PD := (List.range n).map fun (i : Nat) => PD.int (lo + (i : Int))
def aRng1 (a : AA) : AI := fun AW ρ M R => a AW ρ M fun ds M1 => match ds with
  | [.val (.int j)] => (-(2 ^ 62) ≤ j ∧ j < 2 ^ 62) ∧ R (rngD 0 j.toNat) (fun _ => True) M1
  | _ => False
def aRng2 (a : AA) : AI := fun AW ρ M R => a AW ρ M fun ds M1 => match ds with
  | [.val (.int i), .val (.int j)] => (-(2 ^ 62) ≤ i ∧ i < 2 ^ 62 ∧ -(2 ^ 62) ≤ j ∧ j < 2 ^ 62) ∧ R (rngD i (j - i).toNat) (fun _ => True) M1
  | _ => False
def enumD (k : Nat) : List PD → List PD
  | [] => []
  | d :: ds => .tup [.int (k : Int), d] :: enumD (k + 1) ds
def aEnum (a : AA) : AI := fun AW ρ M R => a AW ρ M fun ds M1 => match ds with
  | [.lst es] => R (enumD 0 es) (fun _ => True) M1
  | [.val (.ref p)] => ∃ es, M1 p = some (.lst es) ∧ R (enumD 0 es) (fun M => M p = some (.lst es)) M1
  | _ => False
def aChars (a : AE) : AI := fun AW ρ M R => a AW ρ M fun d M1 => match d with
  | .val (.str x) => R (x.cps.toList.map fun c => PD.str ⟨#[c]⟩) (fun _ => True) M1
  | _ => False
theorem enumD_len : ∀ (k : Nat) (ds : List PD), (enumD k ds).length = ds.length
  | _, [] => rfl
  | k, d :: ds => congrArg (· + 1) (enumD_len (k + 1) ds)
theorem enumD_get : ∀ (k : Nat) (ds : List PD) (i : Nat) (x : PD), (enumD k ds)[i]? = some x → ∃ d, ds[i]? = some d ∧ x = .tup [.int ((k + i : Nat) : Int), d]
  | _, [], i, x, h => by simp [enumD] at h
  | k, d :: ds, 0, x, h => by cases h; exact ⟨d, rfl, rfl⟩
  | k, d :: ds, i + 1, x, h => by
    obtain ⟨e, h1, h2⟩ := enumD_get (k + 1) ds i x h
    refine ⟨e, h1, ?_⟩
    rw [h2]
    have : k + 1 + i = k + (i + 1) := by omega
    rw [this]
section
variable {W : WX}
theorem items_list {K : PySem.W.Frag} {G O : Hp} {a : Addr} {vs : List V} {ds : List PD} (h : G a = some (.lst vs)) (r : RepL G ds vs) : Items (Itl K a) G O ds (fun _ => True) := by
  refine ⟨fun i d G' H' M' s w _ e => ?_, fun G' H' M' s w _ => ⟨vs, SqL.of (w.gh _ _ (s _ _ h)), by rw [r.len]; exact Nat.le_refl _⟩⟩
  obtain ⟨v, h1, h2⟩ := (RepL.mono s ds r).get e
  refine ⟨⟨vs, v, SqL.of (w.gh _ _ (s _ _ h)), h1⟩, fun x H'' y => ?_⟩
  obtain ⟨rfl, y⟩ := y
  have e2 := y vs (SqL.of (w.gh _ _ (s _ _ h)))
  rw [h1] at e2
  cases e2
  exact ⟨G', Same.refl _, w, h2⟩
theorem items_mut {K : PySem.W.Frag} {G O : Hp} {a : Addr} {ds : List PD} : Items (Itl K a) G O ds (fun M => M a = some (.lst ds)) := by
  refine ⟨fun i d G' H' M' s w hc e => ?_, fun G' H' M' s w hc => ?_⟩
  · obtain ⟨o, g1, _, _, vs, rfl, r⟩ := w.mu a _ hc
    obtain ⟨v, h1, h2⟩ := r.get e
    refine ⟨⟨vs, v, SqL.of g1, h1⟩, fun x H'' y => ?_⟩
    obtain ⟨rfl, y⟩ := y
    have e2 := y vs (SqL.of g1)
    rw [h1] at e2
    cases e2
    exact ⟨G', Same.refl _, w, h2⟩
  · obtain ⟨o, g1, _, _, vs, rfl, r⟩ := w.mu a _ hc
    exact ⟨vs, SqL.of g1, by rw [r.len]; exact Nat.le_refl _⟩
instance ri_list {K : PySem.W.Frag} {t : TE} {a : AE} [i_t : RE W t a] : RI W (iList K t) (aIter a) where
  run {G H O M σ ρ AW R AR} c h k := i_t.run c h fun v d G1 H1 M1 s1 w1 r1 h1 => by
    cases d with
    | lst ds =>
      obtain ⟨a, vs, rfl, g1, g2⟩ := r1
      exact ⟨a, rfl, ⟨vs, SqL.of (w1.gh _ _ g1)⟩, k _ ds _ G1 H1 M1 s1 w1 (fun O' _ => items_list g1 g2) h1⟩
    | val u =>
      cases u with
      | ref p =>
        obtain ⟨ds, e, h1⟩ := h1
        obtain ⟨o, g1, _, _, vs, rfl, r⟩ := w1.mu p _ e
        exact ⟨p, r1, ⟨vs, SqL.of g1⟩, k _ ds _ G1 H1 M1 s1 w1 (fun O' _ => items_mut) h1⟩
      | _ => exact h1.elim
    | _ => exact h1.elim
instance ri_tup {K : PySem.W.Frag} {t : TE} {a : AE} [i_t : RE W t a] : RI W (iTup K t) (aIterT a) where
  run {G H O M σ ρ AW R AR} c h k := i_t.run c h fun v d G1 H1 M1 s1 w1 r1 h1 => by
    cases d with
    | tup ds =>
      obtain ⟨a, vs, rfl, g1, g2⟩ := r1
      refine ⟨a, rfl, ⟨vs, SqT.of (w1.gh _ _ g1)⟩, k _ ds _ G1 H1 M1 s1 w1 (fun O' _ => ⟨fun i d G' H' M' s w _ e => ?_, fun G' H' M' s w _ => ⟨vs, SqT.of (w.gh _ _ (s _ _ g1)), by rw [g2.len]; exact Nat.le_refl _⟩⟩) h1⟩
      obtain ⟨v, h1, h2⟩ := (RepL.mono s ds g2).get e
      refine ⟨⟨vs, v, SqT.of (w.gh _ _ (s _ _ g1)), h1⟩, fun x H'' y => ?_⟩
      obtain ⟨rfl, y⟩ := y
      have e2 := y vs (SqT.of (w.gh _ _ (s _ _ g1)))
      rw [h1] at e2
      cases e2
      exact ⟨G', Same.refl _, w, h2⟩
    | _ => exact h1.elim
theorem items_rng {G O : Hp} {lo : Int} {n : Nat} : Items (Itr lo n) G O (rngD lo n) (fun _ => True) := by
  have l : (rngD lo n).length = n := by unfold rngD; rw [List.length_map, List.length_range]
  refine ⟨fun i d G' H' M' s w _ e => ?_, fun G' H' M' s w _ => by rw [l]; exact Nat.le_refl _⟩
  have hi : i < n := by rw [← l]; exact get_lt e
  refine ⟨hi, fun x H'' y => ?_⟩
  obtain ⟨rfl, rfl⟩ := y
  refine ⟨G', Same.refl _, w, ?_⟩
  unfold rngD at e
  rw [List.getElem?_map, List.getElem?_range hi] at e
  cases e
  rfl
instance ri_rng1 {t : TA} {a : AA} [i_t : RA W t a] : RI W (iRng1 t) (aRng1 a) where
  run {G H O M σ ρ AW R AR} c h k := i_t.run c h fun vs ds G1 H1 M1 s1 w1 r1 h1 => by
    match ds, h1 with
    | [.val (.int j)], h1 =>
      obtain ⟨v, r, rfl, e1, e2⟩ := r1
      have e1 : v = .int j := e1
      have e2 : r = [] := e2
      subst e1 e2
      exact ⟨j, rfl, h1.1.1, h1.1.2, k _ _ _ G1 H1 M1 s1 w1 (fun O' _ => items_rng) h1.2⟩
instance ri_rng2 {t : TA} {a : AA} [i_t : RA W t a] : RI W (iRng2 t) (aRng2 a) where
  run {G H O M σ ρ AW R AR} c h k := i_t.run c h fun vs ds G1 H1 M1 s1 w1 r1 h1 => by
    match ds, h1 with
    | [.val (.int i), .val (.int j)], h1 =>
      obtain ⟨v, r, rfl, e1, v2, r2, rfl, e2, e3⟩ := r1
      have e1 : v = .int i := e1
      have e2 : v2 = .int j := e2
      have e3 : r2 = [] := e3
      subst e1 e2 e3
      exact ⟨i, j, rfl, h1.1, k _ _ _ G1 H1 M1 s1 w1 (fun O' _ => items_rng) h1.2⟩
theorem enum_step {G' H' O' : Hp} {M' : MH} {i : Nat} {v : V} {d : PD} {T : Addr} (w : Wo G' H' M' O') (nT : H' T = none) (r : Rep G' d v) : ∃ G'', Same G' G'' ∧ Wo G'' (upd H' T (.tup [.int (i : Nat), v])) M' O' ∧ Rep G'' (.tup [.int ((0 + i : Nat) : Int), d]) (.ref T) := by
  obtain ⟨w2, s2⟩ := w.lay nT (.tup [.int (i : Nat), v])
  refine ⟨_, s2, w2, T, _, rfl, upd_same, ?_⟩
  rw [Nat.zero_add]
  exact RepL.cons rfl (RepL.one (Rep.mono s2 d r))
instance ri_enum {K : PySem.W.Frag} {t : TA} {a : AA} [i_t : RA W t a] : RI W (iEnum K t) (aEnum a) where
  run {G H O M σ ρ AW R AR} c h k := i_t.run c h fun vs ds G1 H1 M1 s1 w1 r1 h1 => by
    match ds, h1 with
    | [.lst es], h1 =>
      obtain ⟨v, r, rfl, ⟨a, xs, rfl, g1, g2⟩, e2⟩ := r1
      have e2 : r = [] := e2
      subst e2
      refine ⟨a, xs, rfl, SqL.of (w1.gh _ _ g1), k _ _ _ G1 H1 M1 s1 w1 (fun O' _ => ⟨fun i d G' H' M' s w _ e => ?_, fun G' H' M' s w _ => ⟨xs, SqL.of (w.gh _ _ (s _ _ g1)), by rw [enumD_len, g2.len]; exact Nat.le_refl _⟩⟩) h1⟩
      obtain ⟨d', e', rfl⟩ := enumD_get 0 es i d e
      obtain ⟨v, q1, q2⟩ := (RepL.mono s es g2).get e'
      refine ⟨⟨xs, v, SqL.of (w.gh _ _ (s _ _ g1)), q1⟩, fun x H'' y => ?_⟩
      obtain ⟨T, x0, rfl, nT, rfl, y⟩ := y
      have e2 := y xs (SqL.of (w.gh _ _ (s _ _ g1)))
      rw [q1] at e2
      cases e2
      exact enum_step w nT q2
    | [.val (.ref p)], h1 =>
      obtain ⟨v, r, rfl, e1, e2⟩ := r1
      have e1 : v = .ref p := e1
      have e2 : r = [] := e2
      subst e1 e2
      obtain ⟨es, hm, h1⟩ := h1
      obtain ⟨o, g1, _, _, xs, rfl, _⟩ := w1.mu p _ hm
      refine ⟨p, xs, rfl, SqL.of g1, k _ _ _ G1 H1 M1 s1 w1 (fun O' _ => ⟨fun i d G' H' M' s w hc e => ?_, fun G' H' M' s w hc => ?_⟩) h1⟩
      · obtain ⟨d', e', rfl⟩ := enumD_get 0 es i d e
        obtain ⟨o, g1, _, _, xs, rfl, r⟩ := w.mu p _ hc
        obtain ⟨v, q1, q2⟩ := r.get e'
        refine ⟨⟨xs, v, SqL.of g1, q1⟩, fun x H'' y => ?_⟩
        obtain ⟨T, x0, rfl, nT, rfl, y⟩ := y
        have e2 := y xs (SqL.of g1)
        rw [q1] at e2
        cases e2
        exact enum_step w nT q2
      · obtain ⟨o, g1, _, _, xs, rfl, r⟩ := w.mu p _ hc
        exact ⟨xs, SqL.of g1, by rw [enumD_len, r.len]; exact Nat.le_refl _⟩
instance ri_str {t : TE} {a : AE} [i_t : RE W t a] : RI W (iStr t) (aChars a) where
  run {G H O M σ ρ AW R AR} c h k := i_t.run c h fun v d G1 H1 M1 s1 w1 r1 h1 => by
    match d, h1 with
    | .val (.str x), h1 =>
      have r1 : v = .str x := r1
      subst r1
      refine ⟨x, rfl, k _ _ _ G1 H1 M1 s1 w1 (fun O' _ => ⟨fun i d G' H' M' s w _ e => ?_, fun G' H' M' s w _ => ?_⟩) h1⟩
      · obtain ⟨ch, e1, rfl⟩ := map_get e
        have e2 : x.cps[i]? = some ch := by rw [← Array.getElem?_toList]; exact e1
        refine ⟨(Array.getElem?_eq_some_iff.mp e2).1, fun y H'' hy => ?_⟩
        obtain ⟨rfl, c', e3, rfl⟩ := hy
        rw [e2] at e3
        cases e3
        exact ⟨G', Same.refl _, w, rfl⟩
      · show x.cps.size ≤ _
        rw [List.length_map]; simp
/-! operators over scalars -/
def fS0 (s : V → V → Option V) : AOp := fun x y M Q => match x, y with
  | .val u, .val w => match s u w with
    | some z => Q (.val z) M
    | none => False
  | _, _ => False
def fS1 (s : V → V → Option (Prop × V)) : AOp := fun x y M Q => match x, y with
  | .val u, .val w => match s u w with
    | some z => z.1 ∧ Q (.val z.2) M
    | none => False
  | _, _ => False
theorem rop_S0 {r : R2} {s : V → V → Option V} (h : ∀ x y z H (Q : VK), s x y = some z → Q z H → r x y H Q) : ROp r (fS0 s) where
  run {G H O M x y dx dy Q AQ} w rx ry q k := by
    match dx, dy, q with
    | .val u, .val v, q =>
      have rx : x = u := rx
      have ry : y = v := ry
      subst rx ry
      have q : (match s x y with | some z => AQ (.val z) M | none => False) := q
      cases e : s x y with
      | none => rw [e] at q; exact q.elim
      | some z => rw [e] at q; exact h x y z H Q e (k z (.val z) G H M (Same.refl _) w rfl q)
theorem rop_S1 {r : R2} {s : V → V → Option (Prop × V)} (h : ∀ x y z H (Q : VK), s x y = some z → z.1 → Q z.2 H → r x y H Q) : ROp r (fS1 s) where
  run {G H O M x y dx dy Q AQ} w rx ry q k := by
    match dx, dy, q with
    | .val u, .val v, q =>
      have rx : x = u := rx
      have ry : y = v := ry
      subst rx ry
      have q : (match s x y with | some z => z.1 ∧ AQ (.val z.2) M | none => False) := q
      cases e : s x y with
      | none => rw [e] at q; exact q.elim
      | some z => rw [e] at q; exact h x y z H Q e q.1 (k z.2 (.val z.2) G H M (Same.refl _) w rfl q.2)
def sInt (f : Int → Int → V) : V → V → Option V
  | .int i, .int j => some (f i j)
  | _, _ => none
def sIntC (c : Int → Int → Prop) (f : Int → Int → V) : V → V → Option (Prop × V)
  | .int i, .int j => some (c i j, f i j)
  | _, _ => none
theorem sInt_of {f : Int → Int → V} {x y z : V} (h : sInt f x y = some z) : ∃ i j, x = .int i ∧ y = .int j ∧ z = f i j := by
  unfold sInt at h
  split at h
  · cases h; exact ⟨_, _, rfl, rfl, rfl⟩
  · cases h
theorem sIntC_of {c : Int → Int → Prop} {f : Int → Int → V} {x y : V} {z : Prop × V} (h : sIntC c f x y = some z) : ∃ i j, x = .int i ∧ y = .int j ∧ z = (c i j, f i j) := by
  unfold sIntC at h
  split at h
  · cases h; exact ⟨_, _, rfl, rfl, rfl⟩
  · cases h
instance rop_add : ROp rAddI (fS0 (sInt fun i j => .int (i + j))) := rop_S0 fun x y z H Q e q => by obtain ⟨i, j, rfl, rfl, rfl⟩ := sInt_of e; exact ⟨i, j, rfl, rfl, q⟩
instance rop_sub : ROp rSubI (fS0 (sInt fun i j => .int (i - j))) := rop_S0 fun x y z H Q e q => by obtain ⟨i, j, rfl, rfl, rfl⟩ := sInt_of e; exact ⟨i, j, rfl, rfl, q⟩
instance rop_lt : ROp rLtI (fS0 (sInt fun i j => .bl (decide (i < j)))) := rop_S0 fun x y z H Q e q => by obtain ⟨i, j, rfl, rfl, rfl⟩ := sInt_of e; exact ⟨i, j, rfl, rfl, q⟩
instance rop_le : ROp rLeI (fS0 (sInt fun i j => .bl (decide (i ≤ j)))) := rop_S0 fun x y z H Q e q => by obtain ⟨i, j, rfl, rfl, rfl⟩ := sInt_of e; exact ⟨i, j, rfl, rfl, q⟩
instance rop_gt : ROp rGtI (fS0 (sInt fun i j => .bl (decide (j < i)))) := rop_S0 fun x y z H Q e q => by obtain ⟨i, j, rfl, rfl, rfl⟩ := sInt_of e; exact ⟨i, j, rfl, rfl, q⟩
instance rop_ge : ROp rGeI (fS0 (sInt fun i j => .bl (decide (j ≤ i)))) := rop_S0 fun x y z H Q e q => by obtain ⟨i, j, rfl, rfl, rfl⟩ := sInt_of e; exact ⟨i, j, rfl, rfl, q⟩
instance rop_mul : ROp rMulI (fS1 (sIntC (fun i j => (-(2 ^ 64) < i ∧ i < 2 ^ 64) ∨ (-(2 ^ 64) < j ∧ j < 2 ^ 64)) fun i j => .int (i * j))) := rop_S1 fun x y z H Q e c q => by obtain ⟨i, j, rfl, rfl, rfl⟩ := sIntC_of e; exact ⟨i, j, rfl, rfl, c, q⟩
instance rop_mod : ROp rModI (fS1 (sIntC (fun _ j => 0 < j) fun i j => .int (i % j))) := rop_S1 fun x y z H Q e c q => by obtain ⟨i, j, rfl, rfl, rfl⟩ := sIntC_of e; exact ⟨i, j, rfl, rfl, c, q⟩
instance rop_div : ROp rDivI (fS1 (sIntC (fun _ j => 0 < j ∧ j < 1073741824) fun i j => .int (i / j))) := rop_S1 fun x y z H Q e c q => by obtain ⟨i, j, rfl, rfl, rfl⟩ := sIntC_of e; exact ⟨i, j, rfl, rfl, c, q⟩
instance rop_pow : ROp rPowI (fS1 (sIntC (fun i j => 0 ≤ j ∧ j ≤ 1000000 ∧ i.natAbs < 2 ^ 64) fun i j => .int (i ^ j.toNat))) := rop_S1 fun x y z H Q e c q => by obtain ⟨i, j, rfl, rfl, rfl⟩ := sIntC_of e; exact ⟨i, j, rfl, rfl, c, q⟩
def sEq (neg : Bool) : V → V → Option V
  | .str a, .str b => some (.bl (if neg then !decide (a = b) else decide (a = b)))
  | .int a, .int b => some (.bl (if neg then !decide (a = b) else decide (a = b)))
  | .bl a, .bl b => some (.bl (if neg then !decide (a = b) else decide (a = b)))
  | .non, .non => some (.bl (!neg))
  | .non, .str _ => some (.bl neg)
  | .str _, .non => some (.bl neg)
  | .non, .int _ => some (.bl neg)
  | .int _, .non => some (.bl neg)
  | .non, .bl _ => some (.bl neg)
  | .bl _, .non => some (.bl neg)
  | .int _, .str _ => some (.bl neg)
  | .str _, .int _ => some (.bl neg)
  | .bl _, .str _ => some (.bl neg)
  | .str _, .bl _ => some (.bl neg)
  | _, _ => none
theorem sEq_of {neg : Bool} {x y z : V} (h : sEq neg x y = some z) : scal x y = true ∧ z = .bl (if neg then !decide (x = y) else decide (x = y)) := by
  unfold sEq at h
  split at h <;> first
    | (cases h; refine ⟨rfl, ?_⟩; simp; done)
    | (cases h; refine ⟨rfl, ?_⟩; cases neg <;> simp; done)
    | cases h
instance rop_eq : ROp rEq (fS0 (sEq false)) := rop_S0 fun x y z H Q e q => by obtain ⟨h, rfl⟩ := sEq_of e; exact ⟨h, q⟩
instance rop_ne : ROp rNe (fS0 (sEq true)) := rop_S0 fun x y z H Q e q => by obtain ⟨h, rfl⟩ := sEq_of e; exact ⟨h, q⟩
def sAddT : V → V → Option (Prop × V)
  | .str a, .str b => some (a.length + b.length ≤ sizeLine, .str (a ++ b))
  | _, _ => none
instance rop_addT : ROp rAddT (fS1 sAddT) := rop_S1 fun x y z H Q e c q => by
  unfold sAddT at e
  split at e
  · cases e; exact ⟨_, _, rfl, rfl, c, q⟩
  · cases e
def sRepT : V → V → Option (Prop × V)
  | .str a, .int n => some (0 ≤ n ∧ n ≤ 1000 ∧ a.length ≤ 1000, .str (repS a n.toNat))
  | _, _ => none
instance rop_repT : ROp rRepS (fS1 sRepT) := rop_S1 fun x y z H Q e c q => by
  unfold sRepT at e
  split at e
  · cases e; exact ⟨_, _, rfl, rfl, c.1, c.2.1, c.2.2, q⟩
  · cases e
def sInT : V → V → Option V
  | .str a, .str b => some (.bl (!(Builtin.Str.occurrences b a 0 b.length 1).isEmpty))
  | _, _ => none
instance rop_inT : ROp rInT (fS0 sInT) := rop_S0 fun x y z H Q e q => by
  unfold sInT at e
  split at e
  · cases e; exact ⟨_, _, rfl, rfl, q⟩
  · cases e
/-- a sign in a text -/
def fSign (neg : Bool) : AOp := fun x y M Q => match x, y with
  | .val (.str a), .val (.str z) => ∃ c, a = ⟨#[c]⟩ ∧ Q (.bl (if neg then !decide (c ∈ z.cps.toList) else decide (c ∈ z.cps.toList))) M
  | _, _ => False
instance rop_sign : ROp rInG (fSign false) where
  run {G H O M x y dx dy Q AQ} w rx ry q k := by
    match dx, dy, q with
    | .val (.str a), .val (.str z), q =>
      have rx : x = .str a := rx
      have ry : y = .str z := ry
      subst rx ry
      obtain ⟨c, rfl, q⟩ := q
      exact ⟨c, z, rfl, rfl, k _ (.val _) G H M (Same.refl _) w rfl q⟩
def rNotG : R2 := fun x y H Q => ∃ (c : Nat) (z : Str), x = .str ⟨#[c]⟩ ∧ y = .str z ∧ Q (.bl (!decide (c ∈ z.cps.toList))) H
instance rop_signN : ROp rNotG (fSign true) where
  run {G H O M x y dx dy Q AQ} w rx ry q k := by
    match dx, dy, q with
    | .val (.str a), .val (.str z), q =>
      have rx : x = .str a := rx
      have ry : y = .str z := ry
      subst rx ry
      obtain ⟨c, rfl, q⟩ := q
      exact ⟨c, z, rfl, rfl, k _ (.val _) G H M (Same.refl _) w rfl q⟩
/-- is None -/
def isNB : PD → Bool
  | .val .non => true
  | _ => false
def fIsN (neg : Bool) : AOp := fun x y M Q => match y with
  | .val .non => Q (.bl (if neg then !isNB x else isNB x)) M
  | _ => False
def vIsN : R2 := fun x y H Q => y = .non ∧ Q (.bl (decide (x = .non))) H
def vNotN : R2 := fun x y H Q => y = .non ∧ Q (.bl (!decide (x = .non))) H
theorem isN_at {G : Hp} {d : PD} {v : V} (r : Rep G d v) : decide (v = .non) = isNB d := by
  cases d with
  | val u =>
    have r : v = u := r
    subst r
    cases v <;> first | rfl | (exact decide_eq_false (fun z => by cases z))
  | ins C fs ds =>
    obtain ⟨a, dx, vs, rfl, _⟩ := r
    exact decide_eq_false (fun z => by cases z)
  | err C fs ds =>
    obtain ⟨a, od, vs, rfl, _⟩ := r
    exact decide_eq_false (fun z => by cases z)
  | _ =>
    obtain ⟨a, vs, rfl, _⟩ := r
    exact decide_eq_false (fun z => by cases z)
instance rop_isN : ROp vIsN (fIsN false) where
  run {G H O M x y dx dy Q AQ} w rx ry q k := by
    match dy, q with
    | .val .non, q => exact ⟨ry, by rw [isN_at rx]; exact k _ (.val _) G H M (Same.refl _) w rfl q⟩
instance rop_notN : ROp vNotN (fIsN true) where
  run {G H O M x y dx dy Q AQ} w rx ry q k := by
    match dy, q with
    | .val .non, q => exact ⟨ry, by rw [isN_at rx]; exact k _ (.val _) G H M (Same.refl _) w rfl q⟩
/-! sequences -/
theorem atI_map {α β : Type} (f : α → β) (xs : List α) (i : Int) : atI (xs.map f) i = (atI xs i).map f := by
  unfold atI
  rw [List.length_map]
  cases ixN xs.length i with
  | none => rfl
  | some j => show (xs.map f)[j]? = (xs[j]?).map f; rw [List.getElem?_map]
theorem atI_rep {G : Hp} {ds : List PD} {vs : List V} (r : RepL G ds vs) {i : Int} {d : PD} (h : atI ds i = some d) : ∃ v, atI vs i = some v ∧ Rep G d v := by
  unfold atI at h ⊢
  rw [r.len]
  cases e : ixN ds.length i with
  | none => rw [e] at h; cases h
  | some j => rw [e] at h; exact r.get h
def fIxL : AOp := fun x y M Q => match y with
  | .val (.int i) => ∃ ds d, sqOf M x = some ds ∧ atI ds i = some d ∧ Q d M
  | _ => False
def fIxT : AOp := fun x y M Q => match x, y with
  | .tup ds, .val (.int i) => ∃ d, atI ds i = some d ∧ Q d M
  | _, _ => False
def fIxS : AOp := fun x y M Q => match x, y with
  | .val (.str z), .val (.int i) => ∃ c, z.length ≤ sizeLine ∧ atI z.cps.toList i = some c ∧ Q (.str ⟨#[c]⟩) M
  | _, _ => False
instance rop_ixL {K : PySem.W.Frag} : ROp (rIxL K) fIxL where
  run {G H O M x y dx dy Q AQ} w rx ry q k := by
    match dy, q with
    | .val (.int i), q =>
      obtain ⟨ds, d, e1, e2, q⟩ := q
      obtain ⟨a, vs, rfl, g1, g2⟩ := sq_at w rx e1
      obtain ⟨v, h1, h2⟩ := atI_rep g2 e2
      exact ⟨a, vs, i, v, rfl, ry, SqL.of g1, h1, k _ _ G H M (Same.refl _) w h2 q⟩
instance rop_ixT {K : PySem.W.Frag} : ROp (rIxT K) fIxT where
  run {G H O M x y dx dy Q AQ} w rx ry q k := by
    match dx, dy, q with
    | .tup ds, .val (.int i), q =>
      obtain ⟨d, e2, q⟩ := q
      obtain ⟨a, vs, rfl, g1, g2⟩ := rx
      obtain ⟨v, h1, h2⟩ := atI_rep g2 e2
      exact ⟨a, vs, i, v, rfl, ry, SqT.of (w.gh _ _ g1), h1, k _ _ G H M (Same.refl _) w h2 q⟩
instance rop_ixS : ROp rIxS fIxS where
  run {G H O M x y dx dy Q AQ} w rx ry q k := by
    match dx, dy, q with
    | .val (.str z), .val (.int i), q =>
      obtain ⟨c, e1, e2, q⟩ := q
      exact ⟨z, i, c, rx, ry, e1, e2, k _ (.val _) G H M (Same.refl _) w rfl q⟩
/-- x in ys: texts, ints -/
def fIn (neg : Bool) : AOp := fun x y M Q => ∃ ds, (sqOf M y = some ds ∨ tpOf y = some ds) ∧ match x with
  | .val (.str z) => ∃ xs : List Str, ds = xs.map PD.str ∧ Q (.bl (if neg then !decide (z ∈ xs) else decide (z ∈ xs))) M
  | .val (.int z) => ∃ xs : List Int, ds = xs.map PD.int ∧ Q (.bl (if neg then !decide (z ∈ xs) else decide (z ∈ xs))) M
  | .val u => ∃ ws : List V, ds = ws.map PD.val ∧ flatV u = true ∧ ws.all flatV = true ∧ Q (.bl (if neg then !inV u ws else inV u ws)) M
  | _ => False
instance rop_in {K : PySem.W.Frag} {neg : Bool} : ROp (rIn K neg) (fIn neg) where
  run {G H O M x y dx dy Q AQ} w rx ry q k := by
    obtain ⟨ds, hs, q⟩ := q
    obtain ⟨a, vs, rfl, g1, g2⟩ : ∃ a vs, y = .ref a ∧ (SqL K H a vs ∨ SqT K H a vs) ∧ RepL G ds vs := by
      rcases hs with hs | hs
      · obtain ⟨a, vs, e, g1, g2⟩ := sq_at w ry hs
        exact ⟨a, vs, e, .inl (SqL.of g1), g2⟩
      · obtain ⟨a, vs, e, g1, g2⟩ := tp_at w ry hs
        exact ⟨a, vs, e, .inr (SqT.of g1), g2⟩
    have fin : ∀ (ws : List V) (u : V), x = u → vs = ws → flatV u = true → ws.all flatV = true → AQ (.bl (if neg then !inV u ws else inV u ws)) M → rIn K neg x (.ref a) H Q := by
      intro ws u e1 e2 f1 f2 q
      subst e1 e2
      exact ⟨a, vs, rfl, g1, f1, f2, k _ (.val _) G H M (Same.refl _) w rfl q⟩
    match dx, q with
    | .val (.str z), q =>
      obtain ⟨xs, rfl, q2⟩ := q
      refine fin (xs.map V.str) (.str z) rx g2.strs rfl (flat_strs xs) ?_
      rw [inV_str]; exact q2
    | .val (.int z), q =>
      obtain ⟨xs, rfl, q2⟩ := q
      refine fin (xs.map V.int) (.int z) rx g2.ints rfl (flat_ints xs) ?_
      rw [inV_int]; exact q2
    | .val .non, q => obtain ⟨ws, rfl, f1, f2, q⟩ := q; exact fin ws .non rx g2.vals f1 f2 q
    | .val (.bl b), q => obtain ⟨ws, rfl, f1, f2, q⟩ := q; exact fin ws (.bl b) rx g2.vals f1 f2 q
    | .val (.byt b), q => obtain ⟨ws, rfl, f1, f2, q⟩ := q; exact fin ws (.byt b) rx g2.vals f1 f2 q
    | .val (.flt b), q => obtain ⟨ws, rfl, f1, f2, q⟩ := q; exact fin ws (.flt b) rx g2.vals f1 f2 q
    | .val (.ref b), q => obtain ⟨ws, rfl, f1, f2, q⟩ := q; exact fin ws (.ref b) rx g2.vals f1 f2 q
    | .val (.ty b), q => obtain ⟨ws, rfl, f1, f2, q⟩ := q; exact fin ws (.ty b) rx g2.vals f1 f2 q
def fCat : AOp := fun x y M Q => ∃ ds es, sqOf M x = some ds ∧ sqOf M y = some es ∧ ds.length + es.length ≤ sizeLine ∧ Q (.lst (ds ++ es)) M
instance rop_cat : ROp rCat fCat where
  run {G H O M x y dx dy Q AQ} w rx ry q k := by
    obtain ⟨ds, es, e1, e2, l, q⟩ := q
    obtain ⟨a, vs, rfl, g1, g2⟩ := sq_at w rx e1
    obtain ⟨b, us, rfl, k1, k2⟩ := sq_at w ry e2
    exact ⟨a, b, vs, us, rfl, rfl, g1, k1, by rw [g2.len, k2.len]; exact l, new_lst w (g2.app k2) k q⟩
def fMCat : AOp := fun x y M Q => ∃ ds es, sqOf M x = some ds ∧ sqOf M y = some es ∧ ds.length + es.length ≤ sizeLine ∧ ∀ p, M p = none → Q (.ptr p) (mset M p (.lst (ds ++ es)))
instance re_mcat {t u : TE} {a b : AE} [i_t : RE W t a] [i_u : RE W u b] : RE W (tMut (tOp rCat t u)) (aOp fMCat a b) where
  run c h k := i_t.run c h fun x dx _ _ _ s1 w1 r1 h1 => i_u.run (c.next s1 w1) h1 fun y dy _ _ _ s2 w2 r2 h2 => by
    obtain ⟨ds, es, e1, e2, l, q⟩ := h2
    obtain ⟨a, vs, rfl, g1, g2⟩ := sq_at w2 (Rep.mono s2 dx r1) e1
    obtain ⟨b, us, rfl, k1, k2⟩ := sq_at w2 r2 e2
    exact ⟨a, b, vs, us, rfl, rfl, g1, k1, by rw [g2.len, k2.len]; exact l, mut_lst w2 (g2.app k2) (k.mono (s1.trans s2)) q⟩
def fRepL : AOp := fun x y M Q => match y with
  | .val (.int n) => ∃ ds, sqOf M x = some ds ∧ -(2 ^ 63) ≤ n ∧ n < 2 ^ 63 ∧ ds.length * n.toNat ≤ sizeLine ∧ Q (.lst (List.replicate n.toNat ds).flatten) M
  | _ => False
theorem RepL.rep {G : Hp} {ds : List PD} {vs : List V} (r : RepL G ds vs) : ∀ n, RepL G (List.replicate n ds).flatten (List.replicate n vs).flatten
  | 0 => rfl
  | n + 1 => by rw [List.replicate_succ, List.replicate_succ, List.flatten_cons, List.flatten_cons]; exact r.app (RepL.rep r n)
instance rop_rep : ROp rRep fRepL where
  run {G H O M x y dx dy Q AQ} w rx ry q k := by
    match dy, q with
    | .val (.int n), q =>
      obtain ⟨ds, e1, b1, b2, l, q⟩ := q
      obtain ⟨a, vs, rfl, g1, g2⟩ := sq_at w rx e1
      exact ⟨a, n, vs, rfl, ry, g1, b1, b2, by rw [g2.len]; exact l, new_lst w (g2.rep n.toNat) k q⟩
/-- slices -/
def cutD {α : Type} (xs : List α) (lo hi : Option Int) : List α := (xs.drop (HT.sIx xs.length 0 lo)).take (HT.sIx xs.length xs.length hi - HT.sIx xs.length 0 lo)
theorem cut_rep {G : Hp} {ds : List PD} {vs : List V} (r : RepL G ds vs) (lo hi : Option Int) : RepL G (cutD ds lo hi) (cutV vs lo hi) := by
  unfold cutD cutV
  rw [r.len]
  exact (r.drop _).take _
def aNoPart : AO := fun _ _ M Q => Q none M
def aPart (a : AE) : AO := fun AW ρ M Q => a AW ρ M fun d M1 => match d with
  | .val (.int i) => Q (some i) M1
  | _ => False
instance ro_no : RO W tNoPart aNoPart where
  run c h k := k none _ _ _ (Same.refl _) c.wo h
instance ro_part {t : TE} {a : AE} [i_t : RE W t a] : RO W (tPart t) (aPart a) where
  run c h k := i_t.run c h fun v d G1 H1 M1 s1 w1 r1 h1 => by
    match d, h1 with
    | .val (.int i), h1 => exact ⟨i, r1, k _ _ _ _ s1 w1 h1⟩
class RSl (r : V → Option Int → Option Int → Hp → VK → Prop) (f : outParam (PD → Option Int → Option Int → MH → AK → Prop)) : Prop where
  run : ∀ {G H O : Hp} {M : MH} {x : V} {dx : PD} {lo hi : Option Int} {Q : VK} {AQ : AK}, Wo G H M O → Rep G dx x → f dx lo hi M AQ → KVr G O Q AQ → r x lo hi H Q
def aSl (f : PD → Option Int → Option Int → MH → AK → Prop) (a : AE) (l h : AO) : AE := fun AW ρ M Q => a AW ρ M fun d M1 => l AW ρ M1 fun lo M2 => h AW ρ M2 fun hi M3 => f d lo hi M3 Q
instance re_sl {r : V → Option Int → Option Int → Hp → VK → Prop} {f : PD → Option Int → Option Int → MH → AK → Prop} {te : TE} {tl th : TO} {a : AE} {l h0 : AO} [i_r : RSl r f] [i_te : RE W te a] [i_tl : RO W tl l] [i_th : RO W th h0] : RE W (tSl r te tl th) (aSl f a l h0) where
  run c h k := i_te.run c h fun v d _ _ _ s1 w1 r1 h1 => i_tl.run (c.next s1 w1) h1 fun lo _ _ _ s2 w2 h2 => i_th.run (c.next (s1.trans s2) w2) h2 fun hi _ _ _ s3 w3 h3 => i_r.run w3 (Rep.mono (s2.trans s3) d r1) h3 (k.mono ((s1.trans s2).trans s3))
def fSlL : PD → Option Int → Option Int → MH → AK → Prop := fun d lo hi M Q => ∃ ds, sqOf M d = some ds ∧ Q (.lst (cutD ds lo hi)) M
def fSlS : PD → Option Int → Option Int → MH → AK → Prop := fun d lo hi M Q => match d with
  | .val (.str z) => z.length ≤ sizeLine ∧ Q (.str (cutS z lo hi)) M
  | _ => False
def fSlT : PD → Option Int → Option Int → MH → AK → Prop := fun d lo hi M Q => match d with
  | .tup ds => ¬ (HT.sIx ds.length 0 lo = 0 ∧ HT.sIx ds.length ds.length hi = ds.length) ∧ Q (.tup (cutD ds lo hi)) M
  | _ => False
instance rsl_L {K : PySem.W.Frag} : RSl (rSlL K) fSlL where
  run {G H O M x dx lo hi Q AQ} w rx q k := by
    obtain ⟨ds, e, q⟩ := q
    obtain ⟨a, vs, rfl, g1, g2⟩ := sq_at w rx e
    exact ⟨a, vs, rfl, SqL.of g1, new_lst w (cut_rep g2 lo hi) k q⟩
instance rsl_S : RSl rSlS fSlS where
  run {G H O M x dx lo hi Q AQ} w rx q k := by
    match dx, q with
    | .val (.str z), q => exact ⟨z, rx, q.1, k _ (.val _) G H M (Same.refl _) w rfl q.2⟩
instance rsl_T {K : PySem.W.Frag} : RSl (rSlT K) fSlT where
  run {G H O M x dx lo hi Q AQ} w rx q k := by
    match dx, q with
    | .tup ds, q =>
      obtain ⟨a, vs, rfl, g1, g2⟩ := rx
      exact ⟨a, vs, rfl, SqT.of (w.gh _ _ g1), by rw [g2.len]; exact q.1, new_tup w (cut_rep g2 lo hi) k q.2⟩
end
end OA

/-! ### plain readings: builtins, methods, dicts, fields, calls, errors, defs -/
namespace OA
open PySem PySem.Spec PyProof.Rows L2
theorem rep1 {G : Hp} {d : PD} {vs : List V} (h : RepL G [d] vs) : ∃ v, vs = [v] ∧ Rep G d v := by
  obtain ⟨v, r, rfl, h1, h2⟩ := h
  have h2 : r = [] := h2
  subst h2
  exact ⟨v, rfl, h1⟩
theorem rep2 {G : Hp} {d e : PD} {vs : List V} (h : RepL G [d, e] vs) : ∃ v u, vs = [v, u] ∧ Rep G d v ∧ Rep G e u := by
  obtain ⟨v, r, rfl, h1, h2⟩ := h
  obtain ⟨u, rfl, h3⟩ := rep1 h2
  exact ⟨v, u, rfl, h1, h3⟩
section
variable {W : WX}
/-! builtins -/
def lstOf (M : MH) (d : PD) (ds : List PD) : Prop := sqOf M d = some ds ∨ tpOf d = some ds
theorem lst_at {K : PySem.W.Frag} {G H O : Hp} {M : MH} {d : PD} {v : V} {ds : List PD} (w : Wo G H M O) (r : Rep G d v) (h : lstOf M d ds) : ∃ a vs, v = .ref a ∧ (SqL K H a vs ∨ SqT K H a vs) ∧ RepL G ds vs := by
  rcases h with h | h
  · obtain ⟨a, vs, e, g1, g2⟩ := sq_at w r h; exact ⟨a, vs, e, .inl (SqL.of g1), g2⟩
  · obtain ⟨a, vs, e, g1, g2⟩ := tp_at w r h; exact ⟨a, vs, e, .inr (SqT.of g1), g2⟩
def fLen : ACl := fun ds M Q => match ds with
  | [d] => ∃ es, lstOf M d es ∧ Q (.int (es.length : Nat)) M
  | _ => False
instance rcl_len {K : PySem.W.Frag} : RCl (rLenL K) fLen where
  run {G H O M vs ds Q AQ} w r q k := by
    match ds, q with
    | [d], q =>
      obtain ⟨es, e, q⟩ := q
      obtain ⟨v, rfl, h⟩ := rep1 r
      obtain ⟨a, us, rfl, g1, g2⟩ := lst_at (K := K) w h e
      exact ⟨a, us, rfl, g1, by rw [g2.len]; exact k _ (.val _) G H M (Same.refl _) w rfl q⟩
def fLenT : ACl := fun ds M Q => match ds with
  | [.val (.str z)] => z.length ≤ sizeLine ∧ Q (.int (z.length : Nat)) M
  | _ => False
instance rcl_lenT : RCl rLenT fLenT where
  run {G H O M vs ds Q AQ} w r q k := by
    match ds, q with
    | [.val (.str z)], q =>
      obtain ⟨v, rfl, h⟩ := rep1 r
      have h : v = .str z := h
      subst h
      exact ⟨z, rfl, q.1, k _ (.val _) G H M (Same.refl _) w rfl q.2⟩
def rLenDV : List V → Hp → VK → Prop := fun xs H Q => ∃ a kvs, xs = [V.ref a] ∧ H a = some (.dK kvs) ∧ Q (.int kvs.length) H
def fLenD : ACl := fun ds M Q => match ds with
  | [d] => ∃ es, dkOf M d = some es ∧ Q (.int (es.length : Nat)) M
  | _ => False
theorem RepK.len {κ : Type} {G : Hp} {kds : List (κ × PD)} {kvs : List (κ × V)} (h : RepK G kds kvs) : kvs.length = kds.length := by
  induction h with
  | nil => rfl
  | cons _ _ ih => exact congrArg (· + 1) ih
instance rcl_lenD : RCl rLenDV fLenD where
  run {G H O M vs ds Q AQ} w r q k := by
    match ds, q with
    | [d], q =>
      obtain ⟨es, e, q⟩ := q
      obtain ⟨v, rfl, h⟩ := rep1 r
      obtain ⟨a, us, rfl, g1, g2⟩ := dk_at w h e
      exact ⟨a, us, rfl, g1, by rw [g2.len]; exact k _ (.val _) G H M (Same.refl _) w rfl q⟩
def fAbs : ACl := fun ds M Q => match ds with
  | [.val (.int i)] => Q (.int (if i < 0 then -i else i)) M
  | _ => False
instance rcl_abs : RCl rAbsI fAbs where
  run {G H O M vs ds Q AQ} w r q k := by
    match ds, q with
    | [.val (.int i)], q =>
      obtain ⟨v, rfl, h⟩ := rep1 r
      have h : v = .int i := h
      subst h
      exact ⟨i, rfl, k _ (.val _) G H M (Same.refl _) w rfl q⟩
def fInt : ACl := fun ds M Q => match ds with
  | [.val (.int i)] => Q (.int i) M
  | [.val (.bl b)] => Q (.int (if b then 1 else 0)) M
  | _ => False
instance rcl_int : RCl rIntI fInt where
  run {G H O M vs ds Q AQ} w r q k := by
    match ds, q with
    | [.val (.int i)], q =>
      obtain ⟨v, rfl, h⟩ := rep1 r
      have h : v = .int i := h
      subst h
      exact .inl ⟨i, rfl, k _ (.val _) G H M (Same.refl _) w rfl q⟩
    | [.val (.bl b)], q =>
      obtain ⟨v, rfl, h⟩ := rep1 r
      have h : v = .bl b := h
      subst h
      exact .inr ⟨b, rfl, k _ (.val _) G H M (Same.refl _) w rfl q⟩
def fListO : ACl := fun ds M Q => match ds with
  | [d] => ∃ es, lstOf M d es ∧ Q (.lst es) M
  | _ => False
def fMListO : ACl := fun ds M Q => match ds with
  | [d] => ∃ es, lstOf M d es ∧ ∀ p, M p = none → Q (.ptr p) (mset M p (.lst es))
  | _ => False
instance rcl_list {K : PySem.W.Frag} : RCl (rListO K) fListO where
  run {G H O M vs ds Q AQ} w r q k := by
    match ds, q with
    | [d], q =>
      obtain ⟨es, e, q⟩ := q
      obtain ⟨v, rfl, h⟩ := rep1 r
      obtain ⟨a, us, rfl, g1, g2⟩ := lst_at w h e
      exact ⟨a, us, rfl, g1, new_lst w g2 k q⟩
instance re_mlist {K : PySem.W.Frag} {t : TA} {a : AA} [i_t : RA W t a] : RE W (tMut (tCB (rListO K) t)) (aCB fMListO a) where
  run c h k := i_t.run c h fun vs ds G1 H1 M1 s1 w1 r1 h1 => by
    match ds, h1 with
    | [d], q =>
      obtain ⟨es, e, q⟩ := q
      obtain ⟨v, rfl, h⟩ := rep1 r1
      obtain ⟨a, us, rfl, g1, g2⟩ := lst_at w1 h e
      exact ⟨a, us, rfl, g1, mut_lst w1 g2 (k.mono s1) q⟩
def kD : Key → PD
  | .inl i => .int i
  | .inr x => .str x
theorem RepL.keys {κ : Type} {G : Hp} {kds : List (Key × PD)} {kvs : List (Key × V)} (h : RepK G kds kvs) : RepL G (kds.map fun kv => kD kv.1) (kvs.map fun kv => kV kv.1) := by
  induction h with
  | nil => exact rfl
  | @cons p q _ _ h1 _ ih =>
    refine RepL.cons ?_ ih
    show Rep G (kD p.1) (kV q.1)
    rw [← h1.1]
    cases p.1 <;> exact rfl
def fListD : ACl := fun ds M Q => match ds with
  | [d] => ∃ es, dkOf M d = some es ∧ Q (.lst (es.map fun kv => kD kv.1)) M
  | _ => False
def fMListD : ACl := fun ds M Q => match ds with
  | [d] => ∃ es, dkOf M d = some es ∧ ∀ p, M p = none → Q (.ptr p) (mset M p (.lst (es.map fun kv => kD kv.1)))
  | _ => False
instance rcl_listD : RCl rListD fListD where
  run {G H O M vs ds Q AQ} w r q k := by
    match ds, q with
    | [d], q =>
      obtain ⟨es, e, q⟩ := q
      obtain ⟨v, rfl, h⟩ := rep1 r
      obtain ⟨a, us, rfl, g1, g2⟩ := dk_at w h e
      exact ⟨a, us, rfl, g1, new_lst w (RepL.keys (κ := Key) g2) k q⟩
instance re_mlistD {t : TA} {a : AA} [i_t : RA W t a] : RE W (tMut (tCB rListD t)) (aCB fMListD a) where
  run c h k := i_t.run c h fun vs ds G1 H1 M1 s1 w1 r1 h1 => by
    match ds, h1 with
    | [d], q =>
      obtain ⟨es, e, q⟩ := q
      obtain ⟨v, rfl, h⟩ := rep1 r1
      obtain ⟨a, us, rfl, g1, g2⟩ := dk_at w1 h e
      exact ⟨a, us, rfl, g1, mut_lst w1 (RepL.keys (κ := Key) g2) (k.mono s1) q⟩
def fTupO : ACl := fun ds M Q => match ds with
  | [.tup es] => Q (.tup es) M
  | [d] => ∃ es, sqOf M d = some es ∧ Q (.tup es) M
  | _ => False
instance rcl_tuple {K : PySem.W.Frag} : RCl (rTupO K) fTupO where
  run {G H O M vs ds Q AQ} w r q k := by
    have gen : ∀ (d : PD) (es : List PD), ds = [d] → sqOf M d = some es → AQ (.tup es) M → rTupO K vs H Q := fun d es e0 e q2 => by
      subst e0
      obtain ⟨v, rfl, h⟩ := rep1 r
      obtain ⟨a, us, rfl, g1, g2⟩ := sq_at w h e
      exact ⟨a, us, rfl, .inl ⟨SqL.of g1, new_tup w g2 k q2⟩⟩
    match ds, q with
    | [.tup es], q =>
      obtain ⟨v, rfl, a, us, rfl, g1, g2⟩ := rep1 r
      exact ⟨a, us, rfl, .inr ⟨SqT.of (w.gh _ _ g1), k _ (.tup es) G H M (Same.refl _) w ⟨a, us, rfl, g1, g2⟩ q⟩⟩
    | [.val u], q => obtain ⟨es, e, q⟩ := q; exact gen _ es rfl e q
    | [.lst u], q => obtain ⟨es, e, q⟩ := q; exact gen _ es rfl e q
    | [.dK _ _], q => obtain ⟨es, e, q⟩ := q; exact gen _ es rfl e q
    | [.dT _ _], q => obtain ⟨es, e, q⟩ := q; exact gen _ es rfl e q
    | [.ins _ _ _], q => obtain ⟨es, e, q⟩ := q; exact gen _ es rfl e q
    | [.err _ _ _], q => obtain ⟨es, e, q⟩ := q; exact gen _ es rfl e q
def fBools (f : List Bool → Bool) : ACl := fun ds M Q => match ds with
  | [d] => ∃ bs : List Bool, sqOf M d = some (bs.map PD.bl) ∧ Q (.bl (f bs)) M
  | _ => False
instance rcl_any {K : PySem.W.Frag} : RCl (rAny K) (fBools fun bs => bs.any id) where
  run {G H O M vs ds Q AQ} w r q k := by
    match ds, q with
    | [d], q =>
      obtain ⟨bs, e, q⟩ := q
      obtain ⟨v, rfl, h⟩ := rep1 r
      obtain ⟨a, us, rfl, g1, g2⟩ := sq_at w h e
      rw [g2.bls] at g1
      exact ⟨a, bs, rfl, SqL.of g1, k _ (.val _) G H M (Same.refl _) w rfl q⟩
instance rcl_all {K : PySem.W.Frag} : RCl (rAll K) (fBools fun bs => bs.all id) where
  run {G H O M vs ds Q AQ} w r q k := by
    match ds, q with
    | [d], q =>
      obtain ⟨bs, e, q⟩ := q
      obtain ⟨v, rfl, h⟩ := rep1 r
      obtain ⟨a, us, rfl, g1, g2⟩ := sq_at w h e
      rw [g2.bls] at g1
      exact ⟨a, bs, rfl, SqL.of g1, k _ (.val _) G H M (Same.refl _) w rfl q⟩
def fSortedS : ACl := fun ds M Q => match ds with
  | [d] => ∃ xs : List Str, sqOf M d = some (xs.map PD.str) ∧ xs.length < 64 ∧ ∀ ys : List Str, ys.Perm xs → sortedS ys = true → Q (sL ys) M
  | _ => False
instance rcl_sortedS {K : PySem.W.Frag} : RCl (rSortedS K) fSortedS where
  run {G H O M vs ds Q AQ} w r q k := by
    match ds, q with
    | [d], q =>
      obtain ⟨xs, e, l, q⟩ := q
      obtain ⟨v, rfl, h⟩ := rep1 r
      obtain ⟨a, us, rfl, g1, g2⟩ := sq_at w h e
      rw [g2.strs] at g1
      exact ⟨a, xs, rfl, SqL.of g1, l, fun ys p hp hs np => new_lst w (RepL.ofStrs ys) k (q ys hp hs) p np⟩
/-- the type of a value -/
inductive TyD (K : PySem.W.Frag) (M : MH) : PD → Value → Prop
  | non : TyD K M .non (.type "NoneType")
  | bl {b : Bool} : TyD K M (.bl b) (.type "bool")
  | int {i : Int} : TyD K M (.int i) (.type "int")
  | str {x : Str} : TyD K M (.str x) (.type "str")
  | lst {ds : List PD} : TyD K M (.lst ds) (.type "list")
  | tup {ds : List PD} : TyD K M (.tup ds) (.type "tuple")
  | dK {ks : List Key} {ds : List PD} : TyD K M (.dK ks ds) (.type "dict")
  | mlst {a : Addr} {ds : List PD} : M a = some (.lst ds) → TyD K M (.ptr a) (.type "list")
  | ins {d : PD} {C : Addr} {fds : List (Str × PD)} : insOf M d = some (C, fds) → C8.InsC K C → TyD K M d (.ref C)
  | err {C : Addr} {fs : List Str} {ds : List PD} : ExcC K C → TyD K M (.err C fs ds) (.ref C)
theorem ty_at {K : PySem.W.Frag} {G H O : Hp} {M : MH} {d : PD} {v : V} {t : Value} (w : Wo G H M O) (r : Rep G d v) (h : TyD K M d t) (ne : ∀ C fs ds, d ≠ .err C fs ds) : TyX K H v t := by
  cases h with
  | err => exact absurd rfl (ne _ _ _)
  | non => have r : v = .non := r; subst r; exact .base .non
  | bl => have r : v = .bl _ := r; subst r; exact .base (.bl _)
  | int => have r : v = .int _ := r; subst r; exact .base (.int _)
  | str => have r : v = .str _ := r; subst r; exact .base (.str _)
  | lst => obtain ⟨a, vs, rfl, g1, g2⟩ := r; exact .base (.lst (w.gh _ _ g1))
  | tup => obtain ⟨a, vs, rfl, g1, g2⟩ := r; exact .base (.tup (w.gh _ _ g1))
  | dK => obtain ⟨a, vs, rfl, l, g1, g2⟩ := r; exact .base (.dK (w.gh _ _ g1))
  | mlst e =>
    have r : v = .ref _ := r
    subst r
    obtain ⟨o, g1, _, _, vs, rfl, _⟩ := w.mu _ _ e
    exact .base (.lst g1)
  | ins e c =>
    obtain ⟨a, dx, fs, rfl, g1, _⟩ := ins_at w r e
    exact .base (.ins g1 c.cl c.ha c.hn c.htk c.hm)
def fIsi (K : PySem.W.Frag) : ACl := fun ds M Q => match ds with
  | [d, .val c] => ∃ t u b, ClsV c u ∧ TyD K M d t ∧ PySem.W.kitOne K t u = some b ∧ Q (.bl b) M
  | _ => False
instance rcl_isi {K : PySem.W.Frag} : RCl (rIsR K) (fIsi K) where
  run {G H O M vs ds Q AQ} w r q k := by
    match ds, q with
    | [d, .val c], q =>
      obtain ⟨t, u, b, h1, h2, h3, q⟩ := q
      obtain ⟨v, x, rfl, g1, g2⟩ := rep2 r
      have g2 : x = c := g2
      subst g2
      by_cases ne : ∀ C fs ds, d ≠ .err C fs ds
      · exact .inr ⟨v, x, t, u, b, rfl, h1, ty_at w g1 h2 ne, h3, k _ (.val _) G H M (Same.refl _) w rfl q⟩
      · cases h2 with
        | err T =>
          obtain ⟨a, od, vs, rfl, l, e1, e2, _⟩ := g1
          refine .inl ⟨a, _, od, x, u, b, rfl, w.gh _ _ e1, fun y ey => ?_, T, h1, h3, k _ (.val _) G H M (Same.refl _) w rfl q⟩
          rcases e2 with ⟨z, _⟩ | ⟨d', z, e3⟩
          · rw [z] at ey; cases ey
          · rw [z] at ey; cases ey; exact ⟨_, w.gh _ _ e3⟩
        | ins e1 e2 => exact absurd (fun C fs ds z => by subst z; cases e1) ne
        | _ => exact absurd (fun C fs ds z => nomatch z) ne
/-! methods of lists and texts -/
abbrev AMt := PD → List PD → MH → AK → Prop
class RMt (T : String) (r : V → List V → Hp → VK → Prop) (f : outParam AMt) : Prop where
  ty : ∀ {K : PySem.W.Frag} {G H O : Hp} {M : MH} {x : V} {d : PD} {ds : List PD} {M' : MH} {AQ : AK}, Wo G H M O → Rep G d x → (∃ l, sqOf M d = some l) → tyV K T x H
  run : ∀ {G H O : Hp} {M : MH} {x : V} {vs : List V} {d : PD} {ds : List PD} {Q : VK} {AQ : AK}, Wo G H M O → Rep G d x → RepL G ds vs → f d ds M AQ → KVr G O Q AQ → r x vs H Q
theorem tyV_list {K : PySem.W.Frag} {G H O : Hp} {M : MH} {x : V} {d : PD} (w : Wo G H M O) (r : Rep G d x) (h : ∃ l, sqOf M d = some l) : tyV K "list" x H := by
  obtain ⟨l, h⟩ := h
  obtain ⟨a, vs, rfl, g1, g2⟩ := sq_at w r h
  exact .inl ⟨rfl, vs, SqL.of g1⟩
def aBM (f : AMt) (a : AE) (t : AA) : AE := fun AW ρ M Q => a AW ρ M fun d M1 => (∃ l, sqOf M1 d = some l) ∧ t AW ρ M1 fun ds M2 => f d ds M2 Q
def aBM0 (f : AMt) (a : AE) : AE := fun AW ρ M Q => a AW ρ M fun d M1 => (∃ l, sqOf M1 d = some l) ∧ f d [] M1 Q
instance re_bm {K : PySem.W.Frag} {r : V → List V → Hp → VK → Prop} {f : AMt} {to : TE} {t : TA} {a : AE} {aa : AA} [i_r : RMt "list" r f] [i_to : RE W to a] [i_t : RA W t aa] : RE W (tBM K "list" r to t) (aBM f a aa) where
  run c h k := i_to.run c h fun v d _ _ _ s1 w1 r1 h1 => ⟨tyV_list w1 r1 h1.1, i_t.run (c.next s1 w1) h1.2 fun vs ds _ _ _ s2 w2 r2 h2 => i_r.run w2 (Rep.mono s2 d r1) r2 h2 (k.mono (s1.trans s2))⟩
instance re_bm0 {K : PySem.W.Frag} {r : V → List V → Hp → VK → Prop} {f : AMt} {to : TE} {a : AE} [i_r : RMt "list" r f] [i_to : RE W to a] : RE W (tBM0 K "list" r to) (aBM0 f a) where
  run c h k := i_to.run c h fun v d _ _ _ s1 w1 r1 h1 => ⟨tyV_list w1 r1 h1.1, i_r.run w1 r1 (ds := []) rfl h1.2 (k.mono s1)⟩
theorem ptr_at {G H O : Hp} {M : MH} {a : Addr} {ds : List PD} (w : Wo G H M O) (e : M a = some (.lst ds)) : ∃ vs, H a = some (.lst vs) ∧ RepL G ds vs := by
  obtain ⟨o, g1, _, _, vs, rfl, g2⟩ := w.mu a _ e
  exact ⟨vs, g1, g2⟩
def fAppend : AMt := fun d ds M Q => match d, ds with
  | .val (.ref a), [e] => ∃ xs, M a = some (.lst xs) ∧ xs.length < sizeLine ∧ Q .non (mset M a (.lst (xs ++ [e])))
  | _, _ => False
instance rmt_append : RMt "list" rAppend fAppend where
  ty w r h := tyV_list w r h
  run {G H O M x vs d ds Q AQ} w r rs q k := by
    match d, ds, q with
    | .val (.ref a), [e], q =>
      obtain ⟨xs, hm, l, q⟩ := q
      obtain ⟨v, rfl, g⟩ := rep1 rs
      have r : x = .ref a := r
      subst r
      obtain ⟨us, g1, g2⟩ := ptr_at w hm
      exact ⟨a, us, v, rfl, rfl, g1, by rw [g2.len]; exact l, k _ (.val .non) G _ _ (Same.refl _) (w.write hm (show RepO G (.lst (us ++ [v])) (.lst (xs ++ [e])) from ⟨_, rfl, g2.app (RepL.one g)⟩)) rfl q⟩
def fExtend : AMt := fun d ds M Q => match d, ds with
  | .val (.ref a), [e] => ∃ xs ys, M a = some (.lst xs) ∧ sqOf M e = some ys ∧ xs.length + ys.length ≤ sizeLine ∧ Q .non (mset M a (.lst (xs ++ ys)))
  | _, _ => False
instance rmt_extend : RMt "list" rExtend fExtend where
  ty w r h := tyV_list w r h
  run {G H O M x vs d ds Q AQ} w r rs q k := by
    match d, ds, q with
    | .val (.ref a), [e], q =>
      obtain ⟨xs, ys, hm, he, l, q⟩ := q
      obtain ⟨v, rfl, g⟩ := rep1 rs
      have r : x = .ref a := r
      subst r
      obtain ⟨us, g1, g2⟩ := ptr_at w hm
      obtain ⟨b, zs, rfl, k1, k2⟩ := sq_at w g he
      exact ⟨a, b, us, zs, rfl, rfl, g1, k1, by rw [g2.len, k2.len]; exact l, k _ (.val .non) G _ _ (Same.refl _) (w.write hm (show RepO G (.lst (us ++ zs)) (.lst (xs ++ ys)) from ⟨_, rfl, g2.app k2⟩)) rfl q⟩
def fPopAt : AMt := fun d ds M Q => match d, ds with
  | .val (.ref a), [.val (.int i)] => ∃ xs j e, M a = some (.lst xs) ∧ -(2 ^ 63) ≤ i ∧ i < 2 ^ 63 ∧ seqIndex? i xs.length = some j ∧ xs[j]? = some e ∧ Q e (mset M a (.lst (xs.eraseIdx j)))
  | _, _ => False
instance rmt_popAt : RMt "list" rPopAt fPopAt where
  ty w r h := tyV_list w r h
  run {G H O M x vs d ds Q AQ} w r rs q k := by
    match d, ds, q with
    | .val (.ref a), [.val (.int i)], q =>
      obtain ⟨xs, j, e, hm, b1, b2, hj, he, q⟩ := q
      obtain ⟨v, rfl, g⟩ := rep1 rs
      have g : v = .int i := g
      have r : x = .ref a := r
      subst r g
      obtain ⟨us, g1, g2⟩ := ptr_at w hm
      obtain ⟨y, h1, h2⟩ := g2.get he
      exact ⟨a, us, i, j, y, rfl, rfl, g1, b1, b2, by rw [g2.len]; exact hj, h1, k _ e G _ _ (Same.refl _) (w.write hm (show RepO G (.lst (us.eraseIdx j)) (.lst (xs.eraseIdx j)) from ⟨_, rfl, g2.erase j⟩)) h2 q⟩
def fPop : AMt := fun d ds M Q => match d, ds with
  | .val (.ref a), [] => ∃ xs e, M a = some (.lst xs) ∧ xs[xs.length - 1]? = some e ∧ Q e (mset M a (.lst xs.dropLast))
  | _, _ => False
theorem RepL.dropL {G : Hp} {ds : List PD} {vs : List V} (r : RepL G ds vs) : RepL G ds.dropLast vs.dropLast := by
  rw [List.dropLast_eq_take, List.dropLast_eq_take, r.len]; exact r.take _
instance rmt_pop : RMt "list" rPop fPop where
  ty w r h := tyV_list w r h
  run {G H O M x vs d ds Q AQ} w r rs q k := by
    match d, ds, q with
    | .val (.ref a), [], q =>
      obtain ⟨xs, e, hm, he, q⟩ := q
      have rs : vs = [] := rs
      have r : x = .ref a := r
      subst r rs
      obtain ⟨us, g1, g2⟩ := ptr_at w hm
      obtain ⟨y, h1, h2⟩ := g2.get he
      exact ⟨a, us, y, rfl, rfl, g1, by rw [g2.len]; exact h1, k _ e G _ _ (Same.refl _) (w.write hm (show RepO G (.lst us.dropLast) (.lst xs.dropLast) from ⟨_, rfl, g2.dropL⟩)) h2 q⟩
def vInsert : V → List V → Hp → VK → Prop := fun x vs H Q => ∃ (l : Addr) (xs : List V) (i : Int) (y : V), x = .ref l ∧ vs = [.int i, y] ∧ H l = some (.lst xs) ∧ xs.length < sizeLine ∧ 0 ≤ i ∧ i < 2 ^ 63 ∧ Q .non (upd H l (.lst (xs.take i.toNat ++ [y] ++ xs.drop i.toNat)))
def fInsert : AMt := fun d ds M Q => match d, ds with
  | .val (.ref a), [.val (.int i), e] => ∃ xs, M a = some (.lst xs) ∧ xs.length < sizeLine ∧ 0 ≤ i ∧ i < 2 ^ 63 ∧ Q .non (mset M a (.lst (xs.take i.toNat ++ [e] ++ xs.drop i.toNat)))
  | _, _ => False
instance rmt_insert : RMt "list" vInsert fInsert where
  ty w r h := tyV_list w r h
  run {G H O M x vs d ds Q AQ} w r rs q k := by
    match d, ds, q with
    | .val (.ref a), [.val (.int i), e], q =>
      obtain ⟨xs, hm, l, b1, b2, q⟩ := q
      obtain ⟨v, y, rfl, g, gy⟩ := rep2 rs
      have g : v = .int i := g
      have r : x = .ref a := r
      subst r g
      obtain ⟨us, g1, g2⟩ := ptr_at w hm
      exact ⟨a, us, i, y, rfl, rfl, g1, by rw [g2.len]; exact l, b1, b2, k _ (.val .non) G _ _ (Same.refl _) (w.write hm (show RepO G (.lst (us.take i.toNat ++ [y] ++ us.drop i.toNat)) (.lst (xs.take i.toNat ++ [e] ++ xs.drop i.toNat)) from ⟨_, rfl, ((g2.take _).app (RepL.one gy)).app (g2.drop _)⟩)) rfl q⟩
def fIndex : AMt := fun d ds M Q => match ds with
  | [.val (.str y)] => ∃ (xs : List Str) (j : Nat), sqOf M d = some (xs.map PD.str) ∧ xs[j]? = some y ∧ (∀ (m : Nat), m < j → xs[m]? ≠ some y) ∧ Q (.int (j : Nat)) M
  | _ => False
instance rmt_index {K : PySem.W.Frag} : RMt "list" (rIndex K) fIndex where
  ty w r h := tyV_list w r h
  run {G H O M x vs d ds Q AQ} w r rs q k := by
    match ds, q with
    | [.val (.str y)], q =>
      obtain ⟨xs, j, hs, hj, hn, q⟩ := q
      obtain ⟨v, rfl, g⟩ := rep1 rs
      have g : v = .str y := g
      subst g
      obtain ⟨a, us, rfl, g1, g2⟩ := sq_at w r hs
      rw [g2.strs] at g1
      refine ⟨a, xs.map V.str, .str y, j, .str y, rfl, rfl, SqL.of g1, rfl, flat_strs xs, by rw [List.getElem?_map, hj]; rfl, by simp [eqV], fun m z' hm hz => ?_, k _ (.val _) G H M (Same.refl _) w rfl q⟩
      obtain ⟨z, h1, rfl⟩ := map_get hz
      have := hn m hm
      rw [h1] at this
      simp only [eqV]
      rw [beq_eq_false_iff_ne]
      exact fun e => this (by rw [e])
/-- methods of texts -/
class RM1 (r : V → List V → Hp → VK → Prop) (f : outParam (Str → PD → MH → AK → Prop)) : Prop where
  run : ∀ {G H O : Hp} {M : MH} {z : Str} {v : V} {d : PD} {Q : VK} {AQ : AK}, Wo G H M O → Rep G d v → f z d M AQ → KVr G O Q AQ → r (.str z) [v] H Q
def aM1 (f : Str → PD → MH → AK → Prop) (a b : AE) : AE := fun AW ρ M Q => a AW ρ M fun x M1 => match x with
  | .val (.str z) => b AW ρ M1 fun y M2 => f z y M2 Q
  | _ => False
instance re_m1 {r : V → List V → Hp → VK → Prop} {f : Str → PD → MH → AK → Prop} {to te : TE} {a b : AE} [i_r : RM1 r f] [i_to : RE W to a] [i_te : RE W te b] : RE W (tM1 r to te) (aM1 f a b) where
  run {G H O M σ ρ AW Q AQ} c h k := i_to.run c h fun v d G1 H1 M1 s1 w1 r1 h1 => by
    match d, h1 with
    | .val (.str z), h1 =>
      have r1 : v = .str z := r1
      subst r1
      exact ⟨⟨z, rfl⟩, i_te.run (c.next s1 w1) h1 fun y dy _ _ _ s2 w2 r2 h2 => i_r.run w2 r2 h2 (k.mono (s1.trans s2))⟩
def fJoin : Str → PD → MH → AK → Prop := fun z d M Q => ∃ xs : List Str, lstOf M d (xs.map PD.str) ∧ (xs.map (·.length)).sum + xs.length * z.length ≤ 16777216 ∧ Q (.str (Txt.join z xs)) M
instance rm1_join {K : PySem.W.Frag} : RM1 (rJoin K) fJoin where
  run {G H O M z v d Q AQ} w r q k := by
    obtain ⟨xs, e, l, q⟩ := q
    obtain ⟨a, us, rfl, g1, g2⟩ := lst_at (K := K) w r e
    rw [g2.strs] at g1
    exact ⟨z, a, xs, rfl, rfl, g1, l, k _ (.val _) G H M (Same.refl _) w rfl q⟩
def vSplit : V → List V → Hp → VK → Prop := fun x xs H Q => ∃ a b, x = .str a ∧ xs = [.str b] ∧ (b.length == 0) = false ∧ a.length + 2 ≤ sizeLine ∧ rNewStrs (Txt.split a b) H Q
def fSplit : Str → PD → MH → AK → Prop := fun z d M Q => match d with
  | .val (.str b) => (b.length == 0) = false ∧ z.length + 2 ≤ sizeLine ∧ Q (sL (Txt.split z b)) M
  | _ => False
instance rm1_split : RM1 vSplit fSplit where
  run {G H O M z v d Q AQ} w r q k := by
    match d, q with
    | .val (.str b), q =>
      have r : v = .str b := r
      subst r
      exact ⟨z, b, rfl, rfl, q.1, q.2.1, new_lst w (RepL.ofStrs _) k q.2.2⟩
/-! dicts -/
def keysOf : List PD → Option (List Key)
  | [] => some []
  | d :: ds => match keyOf d, keysOf ds with
    | some k, some ks => some (k :: ks)
    | _, _ => none
theorem keys_at {G : Hp} : ∀ {ds : List PD} {ks : List Key} {vs : List V}, keysOf ds = some ks → RepL G ds vs → vs = ks.map kV
  | [], ks, vs, h, r => by cases h; exact r
  | d :: ds, ks, vs, h, r => by
    obtain ⟨v, rr, rfl, r1, r2⟩ := r
    unfold keysOf at h
    cases e1 : keyOf d with
    | none => rw [e1] at h; cases h
    | some k =>
      cases e2 : keysOf ds with
      | none => rw [e1, e2] at h; cases h
      | some ks' =>
        rw [e1, e2] at h
        cases h
        rw [key_at r1 e1, keys_at e2 r2]
        rfl
/-- what a dict has at a key -/
def dGet (M : MH) (x y : PD) (o : Option PD) : Prop := (∃ kvs k, dkOf M x = some kvs ∧ keyOf y = some k ∧ o = valD kvs k) ∨ ∃ kvs ds k, dtOf M x = some kvs ∧ y = .tup ds ∧ keysOf ds = some k ∧ o = valD kvs k
theorem dGet.k {M : MH} {x : PD} {kvs : List (Key × PD)} {y : PD} {k : Key} (h : dkOf M x = some kvs) (e : keyOf y = some k) : dGet M x y (valD kvs k) := .inl ⟨kvs, k, h, e, rfl⟩
theorem dGet.t {M : MH} {x : PD} {kvs : List (List Key × PD)} {ds : List PD} {k : List Key} (h : dtOf M x = some kvs) (e : keysOf ds = some k) : dGet M x (.tup ds) (valD kvs k) := .inr ⟨kvs, ds, k, h, rfl, e, rfl⟩
theorem dget_at {G H O : Hp} {M : MH} {x y : PD} {v u : V} {o : Option PD} (w : Wo G H M O) (rx : Rep G x v) (ry : Rep G y u) (h : dGet M x y o) : ∃ a o', v = .ref a ∧ IsD H a ∧ DGet H a u o' ∧ ((o = none ∧ o' = none) ∨ ∃ d z, o = some d ∧ o' = some z ∧ Rep G d z) := by
  rcases h with ⟨kvs, k, h1, h2, rfl⟩ | ⟨kvs, ds, k, h1, rfl, h2, rfl⟩
  · obtain ⟨a, us, rfl, g1, g2⟩ := dk_at w rx h1
    rw [key_at ry h2]
    refine ⟨a, valV us k, rfl, .inl ⟨us, .inl g1⟩, DGet.k g1, g2.val k⟩
  · obtain ⟨a, us, rfl, g1, g2⟩ := dt_at w rx h1
    obtain ⟨b, zs, rfl, k1, k2⟩ := ry
    rw [keys_at h2 k2] at k1
    exact ⟨a, valV us k, rfl, .inr ⟨us, .inl g1⟩, DGet.t g1 (w.gh _ _ k1), g2.val k⟩
def aDGet (a b : AE) : AE := fun AW ρ M Q => a AW ρ M fun x M1 => b AW ρ M1 fun y M2 => ∃ d, dGet M2 x y (some d) ∧ Q d M2
instance re_dget {td ty : TE} {a b : AE} [i_td : RE W td a] [i_ty : RE W ty b] : RE W (tDGet td ty) (aDGet a b) where
  run c h k := i_td.run c h fun x dx _ _ _ s1 w1 r1 h1 => i_ty.run (c.next s1 w1) h1 fun y dy _ _ _ s2 w2 r2 h2 => by
    obtain ⟨d, h2, q⟩ := h2
    obtain ⟨p, o', e1, _, e2, e3⟩ := dget_at w2 (Rep.mono s2 dx r1) r2 h2
    rcases e3 with ⟨z, _⟩ | ⟨d', z, z1, rfl, z3⟩
    · cases z
    · cases z1; exact ⟨p, z, e1, e2, k _ _ _ _ _ (s1.trans s2) w2 z3 q⟩
def aDGet1 (a b : AE) : AE := fun AW ρ M Q => a AW ρ M fun x M1 => ((∃ kvs, dkOf M1 x = some kvs) ∨ ∃ kvs, dtOf M1 x = some kvs) ∧ b AW ρ M1 fun y M2 => ∃ o, dGet M2 x y o ∧ Q (o.getD .non) M2
instance re_dget1 {td ty : TE} {a b : AE} [i_td : RE W td a] [i_ty : RE W ty b] : RE W (tDGet1 td ty) (aDGet1 a b) where
  run c h k := i_td.run c h fun x dx _ _ _ s1 w1 r1 h1 => by
    obtain ⟨hd, h1⟩ := h1
    obtain ⟨p, rfl, hI⟩ : ∃ p, x = .ref p ∧ IsD _ p := by
      rcases hd with ⟨kvs, e⟩ | ⟨kvs, e⟩
      · obtain ⟨p, us, e1, g1, _⟩ := dk_at w1 r1 e; exact ⟨p, e1, .inl ⟨us, .inl g1⟩⟩
      · obtain ⟨p, us, e1, g1, _⟩ := dt_at w1 r1 e; exact ⟨p, e1, .inr ⟨us, .inl g1⟩⟩
    refine ⟨p, rfl, hI, i_ty.run (c.next s1 w1) h1 fun y dy _ _ _ s2 w2 r2 h2 => ?_⟩
    obtain ⟨o, h2, q⟩ := h2
    obtain ⟨p', o', e1, _, e2, e3⟩ := dget_at w2 (Rep.mono s2 dx r1) r2 h2
    cases e1
    refine ⟨o', e2, ?_⟩
    rcases e3 with ⟨rfl, rfl⟩ | ⟨d', z, rfl, rfl, z3⟩
    · exact k _ (.val .non) _ _ _ (s1.trans s2) w2 rfl q
    · exact k _ _ _ _ _ (s1.trans s2) w2 z3 q
def aDIn (neg : Bool) (b a : AE) : AE := fun AW ρ M Q => b AW ρ M fun y M1 => a AW ρ M1 fun x M2 => ∃ o, dGet M2 x y o ∧ Q (.bl (if neg then !o.isSome else o.isSome)) M2
instance re_din {td ty : TE} {a b : AE} [i_td : RE W td a] [i_ty : RE W ty b] : RE W (tDIn ty td) (aDIn false b a) where
  run c h k := i_ty.run c h fun y dy _ _ _ s1 w1 r1 h1 => i_td.run (c.next s1 w1) h1 fun x dx _ _ _ s2 w2 r2 h2 => by
    obtain ⟨o, h2, q⟩ := h2
    obtain ⟨p, o', e1, _, e2, e3⟩ := dget_at w2 r2 (Rep.mono s2 dy r1) h2
    refine ⟨p, o', e1, e2, k _ (.val _) _ _ _ (s1.trans s2) w2 rfl ?_⟩
    rcases e3 with ⟨rfl, rfl⟩ | ⟨d', z, rfl, rfl, z3⟩ <;> exact q
instance re_dnotin {td ty : TE} {a b : AE} [i_td : RE W td a] [i_ty : RE W ty b] : RE W (tDNotIn ty td) (aDIn true b a) where
  run c h k := i_ty.run c h fun y dy _ _ _ s1 w1 r1 h1 => i_td.run (c.next s1 w1) h1 fun x dx _ _ _ s2 w2 r2 h2 => by
    obtain ⟨o, h2, q⟩ := h2
    obtain ⟨p, o', e1, _, e2, e3⟩ := dget_at w2 r2 (Rep.mono s2 dy r1) h2
    refine ⟨p, o', e1, e2, k _ (.val _) _ _ _ (s1.trans s2) w2 rfl ?_⟩
    rcases e3 with ⟨rfl, rfl⟩ | ⟨d', z, rfl, rfl, z3⟩ <;> exact q
/-- a new dict may change -/
def aDNewK : AE := fun _ _ M Q => ∀ p, M p = none → Q (.ptr p) (mset M p (.dK []))
def aDNewT : AE := fun _ _ M Q => ∀ p, M p = none → Q (.ptr p) (mset M p (.dT []))
instance re_dnewK : RE W tDNewK aDNewK where
  run c h k := fun p np => k _ (.ptr p) _ _ _ (Same.refl _) (c.wo.new np (show RepO _ (.dK []) (.dK []) from ⟨[], rfl, .nil⟩)) rfl (h p (c.wo.fresh np))
instance re_dnewT : RE W tDNewT aDNewT where
  run c h k := fun p np => k _ (.ptr p) _ _ _ (Same.refl _) (c.wo.new np (show RepO _ (.dT []) (.dT []) from ⟨[], rfl, .nil⟩)) rfl (h p (c.wo.fresh np))
/-- d[k] = v -/
def dPut (M : MH) (x y v : PD) (Q : MH → Prop) : Prop := match x with
  | .val (.ref a) => (∃ kvs k, M a = some (.dK kvs) ∧ keyOf y = some k ∧ kvs.length < sizeLine ∧ Q (mset M a (.dK (putD kvs k v)))) ∨ ∃ kvs ds k, M a = some (.dT kvs) ∧ y = .tup ds ∧ keysOf ds = some k ∧ kvs.length < sizeLine ∧ Q (mset M a (.dT (putD kvs k v)))
  | _ => False
def aDPut (a b v : AE) : AS := fun AW D ρ M => v AW ρ M fun z M1 => a AW ρ M1 fun x M2 => b AW ρ M2 fun y M3 => dPut M3 x y z fun M4 => D.nx ρ M4
instance rs_dput {td ty tv : TE} {a b v : AE} [i_td : RE W td a] [i_ty : RE W ty b] [i_tv : RE W tv v] : RS W (sDPut td ty tv) (aDPut a b v) where
  run {G H O M σ ρ AW D AD} c h k := i_tv.run c h fun z dz G1 H1 M1 s1 w1 r1 h1 => i_td.run (c.next s1 w1) h1 fun x dx G2 H2 M2 s2 w2 r2 h2 => i_ty.run (c.next (s1.trans s2) w2) h2 fun y dy G3 H3 M3 s3 w3 r3 h3 => by
    have s13 := (s1.trans s2).trans s3
    match dx, h3 with
    | .val (.ref p), h3 =>
      have r2 : x = .ref p := r2
      subst r2
      rcases h3 with ⟨kvs, kk, hm, hk, l, q⟩ | ⟨kvs, ds, kk, hm, rfl, hk, l, q⟩
      · obtain ⟨o, g1, _, _, us, rfl, g2⟩ := w3.mu p _ hm
        rw [key_at r3 hk]
        refine ⟨p, _, rfl, DPut.k g1 (by rw [g2.len]; exact l), k.nx _ _ _ _ _ s13 (w3.write hm (show RepO _ (.dK _) (.dK _) from ⟨_, rfl, g2.put (Rep.mono (s2.trans s3) dz r1)⟩)) (c.rs.mono s13) q⟩
      · obtain ⟨o, g1, _, _, us, rfl, g2⟩ := w3.mu p _ hm
        obtain ⟨b, zs, rfl, k1, k2⟩ := r3
        rw [keys_at hk k2] at k1
        exact ⟨p, _, rfl, DPut.t g1 (w3.gh _ _ k1) (by rw [g2.len]; exact l), k.nx _ _ _ _ _ s13 (w3.write hm (show RepO _ (.dT _) (.dT _) from ⟨_, rfl, g2.put (Rep.mono (s2.trans s3) dz r1)⟩)) (c.rs.mono s13) q⟩
/-! x[i] = v, lists -/
def fSet (M : MH) (x y v : PD) (Q : MH → Prop) : Prop := match x, y with
  | .val (.ref a), .val (.int i) => ∃ xs j, M a = some (.lst xs) ∧ ixN xs.length i = some j ∧ Q (mset M a (.lst (xs.set j v)))
  | _, _ => False
def aGSub (a b : AE) : AG := fun AW d ρ M Q => a AW ρ M fun x M1 => b AW ρ M1 fun y M2 => fSet M2 x y d fun M3 => Q ρ M3
instance rg_sub {to ti : TE} {a b : AE} [i_to : RE W to a] [i_ti : RE W ti b] : RG W (gSub to ti rSetL) (aGSub a b) [] where
  run {G H O M σ ρ AW Q AQ d v} c r h k := i_to.run c h fun x dx G1 H1 M1 s1 w1 r1 h1 => i_ti.run (c.next s1 w1) h1 fun y dy G2 H2 M2 s2 w2 r2 h2 => by
    have s12 := s1.trans s2
    match dx, dy, h2 with
    | .val (.ref p), .val (.int i), h2 =>
      have r1 : x = .ref p := r1
      have r2 : y = .int i := r2
      subst r1 r2
      obtain ⟨xs, j, hm, hj, q⟩ := h2
      obtain ⟨us, g1, g2⟩ := ptr_at w2 hm
      exact ⟨p, us, i, j, rfl, rfl, g1, by rw [g2.len]; exact hj, k _ _ _ _ _ s12 (w2.write hm (show RepO _ (.lst _) (.lst _) from ⟨_, rfl, g2.set (Rep.mono s12 d r) j⟩)) (c.rs.mono s12) rfl (fun _ _ => rfl) q⟩
/-! fields -/
def aFld (K : PySem.W.Frag) (a : AE) (f : Str) : AE := fun AW ρ M Q => a AW ρ M fun d M1 => ∃ C fds x, insOf M1 d = some (C, fds) ∧ Cls K C ∧ NoAttr K C f ∧ fds.lookup f = some x ∧ Q x M1
instance re_fld {K : PySem.W.Frag} {t : TE} {a : AE} {f : Str} [i_t : RE W t a] : RE W (tFld K t f) (aFld K a f) where
  run c h k := i_t.run c h fun v d _ _ _ s1 w1 r1 h1 => by
    obtain ⟨C, fds, x, e, hc, hn, hl, q⟩ := h1
    obtain ⟨p, dx, fs, rfl, g1, g2⟩ := ins_at w1 r1 e
    rcases g2.look f with ⟨z, _⟩ | ⟨d', z, z1, z2, z3⟩
    · rw [hl] at z; cases z
    · rw [hl] at z1; cases z1
      exact ⟨p, C, dx, fs, z, rfl, g1, hc, hn, z2, k _ _ _ _ _ s1 w1 z3 q⟩
theorem RepK.putF {G : Hp} {fds : List (Str × PD)} {fs : List (Str × V)} (h : RepK G fds fs) {f : Str} {d : PD} {v : V} (r : Rep G d v) : RepK G (putG f d fds) (putF f v fs) := by
  induction h with
  | nil => exact .cons ⟨rfl, r⟩ .nil
  | @cons p q _ _ h1 h2 ih =>
    obtain ⟨a, x⟩ := p
    obtain ⟨b, y⟩ := q
    have e : a = b := h1.1
    subst e
    show RepK G (if a = f then (f, d) :: _ else (a, x) :: putG f d _) (if a = f then (a, v) :: _ else (a, y) :: L2.putF f v _)
    by_cases e : a = f
    · rw [if_pos e, if_pos e]; exact .cons ⟨e.symm, r⟩ h2
    · rw [if_neg e, if_neg e]; exact .cons h1 ih
def aSFld (K : PySem.W.Frag) (a v : AE) (f : Str) : AS := fun AW D ρ M => v AW ρ M fun y M1 => a AW ρ M1 fun x M2 => match x with
  | .val (.ref p) => ∃ C fds, M2 p = some (.ins C fds) ∧ Cls K C ∧ NoAttr K C f ∧ fds.length < 1000 ∧ D.nx ρ (mset M2 p (.ins C (putG f y fds)))
  | _ => False
instance rs_fld {K : PySem.W.Frag} {ta tv : TE} {a v : AE} {f : Str} [i_ta : RE W ta a] [i_tv : RE W tv v] : RS W (sFld K ta tv f) (aSFld K a v f) where
  run {G H O M σ ρ AW D AD} c h k := i_tv.run c h fun y dy G1 H1 M1 s1 w1 r1 h1 => i_ta.run (c.next s1 w1) h1 fun x dx G2 H2 M2 s2 w2 r2 h2 => by
    have s12 := s1.trans s2
    match dx, h2 with
    | .val (.ref p), h2 =>
      have r2 : x = .ref p := r2
      subst r2
      obtain ⟨C, fds, hm, hc, hn, l, q⟩ := h2
      obtain ⟨o, g1, _, _, dx, fs, rfl, g2⟩ := w2.mu p _ hm
      exact ⟨p, C, dx, fs, rfl, g1, hc, hn, by rw [g2.len]; exact l, k.nx _ _ _ _ _ s12 (w2.write hm (show RepO _ (.ins C dx _) (.ins C _) from ⟨dx, _, rfl, g2.putF (Rep.mono s2 dy r1)⟩)) (c.rs.mono s12) q⟩
/-- a constant of a class -/
def aCVal (K : PySem.W.Frag) (a : AE) (f : Str) : AE := fun AW ρ M Q => a AW ρ M fun d M1 => match d with
  | .val (.ref C) => ∃ mc v u, ClX.CRead K C mc ∧ ClX.CVal K C mc f v u ∧ Q (.val v) M1
  | _ => False
instance re_cval {K : PySem.W.Frag} {t : TE} {a : AE} {f : Str} [i_t : RE W t a] : RE W (ClX.tCVal K t f) (aCVal K a f) where
  run c h k := i_t.run c h fun v d _ _ _ s1 w1 r1 h1 => by
    match d, h1 with
    | .val (.ref C), h1 =>
      obtain ⟨mc, x, u, h2, h3, q⟩ := h1
      exact ⟨C, mc, x, u, r1, h2, h3, k _ (.val x) _ _ _ s1 w1 rfl q⟩
/-! calls -/
theorem xk0 {G O : Hp} {E : XK} : XKr G O E (fun _ _ _ => False) := fun _ _ _ _ _ _ _ _ _ _ _ z => z.elim
abbrev X0 : AXK := fun _ _ _ => False
def aCall (A : ASp) (dvs : List V) (t : AA) : AE := fun AW ρ M Q => t AW ρ M fun ds M1 => A (ds ++ dvs.map PD.val) M1 Q X0
instance re_call {A : ASp} {dvs : List V} {t : TA} {a : AA} {E : XK} [i_t : RA W t a] : RE W (tCall (conc A) dvs E t) (aCall A dvs a) where
  run c h k := i_t.run c h fun vs ds _ _ _ s1 w1 r1 h1 => ⟨_, _, _, _, _, _, w1, r1.app (RepL.ofVals dvs), h1, k.mono s1, xk0⟩
/-- a call that may raise -/
def aCallS (A : ASp) (t : AA) : AE := fun AW ρ M Q => t AW ρ M fun ds M1 => A ds M1 Q fun C fds M2 => AW C fds ρ M2
theorem wx_xk {W : WX} {G G' O : Hp} {AW : AWX} {ρ : AEnv} {σ : L2.St} (s : Same G G') (rs : RepS G ρ σ) (h : WXr G O W AW) : XKr G' O (WE W σ) (fun C fds M2 => AW C fds ρ M2) := fun C fds od fs G2 H2 M2 s2 w2 hd rk aw => h C fds od fs G2 H2 M2 ρ σ (s.trans s2) w2 (rs.mono (s.trans s2)) hd rk aw
instance re_callS {A : ASp} {t : TA} {a : AA} [i_t : RA W t a] : RE W (tCallS (conc A) (WE W) t) (aCallS A a) where
  run c h k := i_t.run c h fun vs ds _ _ _ s1 w1 r1 h1 => ⟨_, _, _, _, _, _, w1, r1, h1, k.mono s1, wx_xk s1 c.rs c.wx⟩
def aMeth (C : Addr) (m : Str) (A : ASp) (dvs : List V) (a : AE) (t : AA) : AE := fun AW ρ M Q => a AW ρ M fun d M1 => ∃ fds, insOf M1 d = some (C, fds) ∧ fds.lookup m = none ∧ t AW ρ M1 fun ds M2 => A (d :: (ds ++ dvs.map PD.val)) M2 Q X0
instance re_meth {C : Addr} {m : Str} {A : ASp} {dvs : List V} {ta : TE} {t : TA} {a : AE} {aa : AA} {E : XK} [i_ta : RE W ta a] [i_t : RA W t aa] : RE W (tMeth C m (conc A) dvs E ta t) (aMeth C m A dvs a aa) where
  run c h k := i_ta.run c h fun v d _ _ _ s1 w1 r1 h1 => by
    obtain ⟨fds, e, hn, h1⟩ := h1
    obtain ⟨p, dx, fs, e1, g1, g2⟩ := ins_at w1 r1 e
    refine ⟨p, dx, fs, e1, g1, ?_, i_t.run (c.next s1 w1) h1 fun vs ds _ _ _ s2 w2 r2 h2 => ⟨_, _, _, _, _, _, w2, RepL.cons (Rep.mono s2 d r1) (r2.app (RepL.ofVals dvs)), h2, k.mono (s1.trans s2), xk0⟩⟩
    rcases g2.look m with ⟨_, z⟩ | ⟨_, _, z, _⟩
    · exact z
    · rw [hn] at z; cases z
def aSt (A : ASp) (a : AE) (t : AA) : AE := fun AW ρ M Q => a AW ρ M fun _ M1 => t AW ρ M1 fun ds M2 => A ds M2 Q X0
def aStC (C : Addr) (A : ASp) (a : AE) (t : AA) : AE := fun AW ρ M Q => a AW ρ M fun d M1 => d = .ptr C ∧ t AW ρ M1 fun ds M2 => A ds M2 Q X0
instance re_st {C : Addr} {A : ASp} {ta : TE} {t : TA} {a : AE} {aa : AA} [i_ta : RE W ta a] [i_t : RA W t aa] : RE W (tSt C (conc A) ta t) (aStC C A a aa) where
  run c h k := i_ta.run c h fun v d _ _ _ s1 w1 r1 h1 => by
    obtain ⟨rfl, h1⟩ := h1
    exact ⟨r1, i_t.run (c.next s1 w1) h1 fun vs ds _ _ _ s2 w2 r2 h2 => ⟨_, _, _, _, _, _, w2, r2, h2, k.mono (s1.trans s2), xk0⟩⟩
/-- a new object: it may change -/
def aMake (C : Addr) (A : ASp) (dvs : List V) (t : AA) : AE := fun AW ρ M Q => t AW ρ M fun ds M1 => ∀ p, M1 p = none → A (.ptr p :: (ds ++ dvs.map PD.val)) (mset M1 p (.ins C [])) (fun d M2 => d = .non ∧ Q (.ptr p) M2) X0
theorem make_wo {G H O : Hp} {M : MH} {C x dx : Addr} (w : Wo G H M O) (nx : H x = none) (ndx : H dx = none) (ne : dx ≠ x) : Wo G (upd (upd H dx (.own x)) x (.ins C dx [])) (mset M x (.ins C [])) O :=
  Wo.new (w.same (same_loc (Same.refl H) ndx _)) (by rw [upd_ne ne.symm]; exact nx) ⟨dx, [], rfl, .nil⟩
instance re_make {C : Addr} {A : ASp} {dvs : List V} {t : TA} {aa : AA} {E : XK} [i_t : RA W t aa] : RE W (tMake C (conc A) dvs E t) (aMake C A dvs aa) where
  run c h k := i_t.run c h fun vs ds G1 H1 M1 s1 w1 r1 h1 => fun x dx nx ndx ne => ⟨_, _, _, _, _, _, make_wo w1 nx ndx ne, RepL.cons (d := .ptr x) rfl (r1.app (RepL.ofVals dvs)), h1 x (w1.fresh nx), fun v d G2 H2 M2 s2 w2 r2 q => by
    obtain ⟨rfl, q⟩ := q
    exact ⟨r2, k _ (.ptr x) _ _ _ (s1.trans s2) w2 rfl q⟩, xk0⟩
/-! raising -/
def aRaise (C : Addr) (fs : List Str) (t : AA) : AS := fun AW _ ρ M => t AW ρ M fun ds M1 => ds.length = fs.length ∧ AW C (fs.zip ds) ρ M1
theorem raise_end {W : WX} {G G1 H1 O : Hp} {M1 : MH} {σ : L2.St} {ρ : AEnv} {AW : AWX} {C : Addr} {fds : List (Str × PD)} {fs : List (Str × V)} (rs : RepS G ρ σ) (wx : WXr G O W AW) (s1 : Same G G1) (w1 : Wo G1 H1 M1 O) (r : RepK G1 fds fs) (q : AW C fds ρ M1) : ∀ d, H1 d = none → W (.ref C) (some d) σ (upd H1 d (.xd fs)) := fun d nd =>
  wx C fds (some d) fs G1 _ M1 ρ σ s1 (w1.same (same_loc (Same.refl H1) nd _)) (rs.mono s1) (.inr ⟨d, rfl, upd_same, w1.gh.free nd, w1.oh.free nd, w1.fresh nd⟩) r q
theorem mk_errP1 {C : Addr} {f1 : Str} {σ : L2.St} {H1 : Hp} {Q : XK} {x1 : V} (h : ∀ d, H1 d = none → Q (.ref C) (some d) (upd H1 d (.xd [(f1, x1)]))) : tMkO C (spErr1 C f1) [] (fun _ H R => R [x1] H) σ H1 Q := by
  refine ⟨(by show 1 ≤ 1000; decide), fun a ha => ⟨a, x1, rfl, upd_same, fun dx hdx hne => ?_⟩⟩
  have hd1 : H1 dx = none := by rw [upd_ne hne] at hdx; exact hdx
  refine ⟨rfl, dx, [(f1, x1)], upd_same, by rw [upd_ne hne, upd_same], hd1, ?_⟩
  have e : upd (del (upd (upd (upd H1 a (exo a C none)) dx (exd dx [(f1, x1)])) a (exo a C (some dx))) a) dx (.xd [(f1, x1)]) = upd H1 dx (.xd [(f1, x1)]) := by
    funext b
    by_cases hb : b = dx
    · rw [hb, upd_same, upd_same]
    · rw [upd_ne hb, upd_ne hb]
      by_cases hb2 : b = a
      · rw [hb2, del_same, ha]
      · rw [del_ne hb2, upd_ne hb2, upd_ne hb, upd_ne hb2]
  rw [e]
  exact h dx hd1
instance rs_raise1 {C : Addr} {f1 : Str} {t : TA} {a : AA} [i_t : RA W t a] : RS W (tRaise C (spErr1 C f1) W t) (aRaise C [f1] a) where
  run {G H O M σ ρ AW D AD} c h k := i_t.run c h fun vs ds G1 H1 M1 s1 w1 r1 h1 => by
    match ds, h1 with
    | [d1], h1 =>
      obtain ⟨x1, rfl, g1⟩ := rep1 r1
      exact mk_errP1 (σ := σ) (Q := fun cls d H' => W cls d σ H') (C := C) (f1 := f1) (H1 := H1) (x1 := x1) (raise_end c.rs c.wx s1 w1 (fds := [(f1, d1)]) (.cons ⟨rfl, g1⟩ .nil) h1.2)
def aRaise2 (C : Addr) (f1 f2 : Str) (t : AA) : AS := fun AW _ ρ M => t AW ρ M fun ds M1 => match ds with
  | [d1, d2] => AW C [(f2, d2), (f1, d1)] ρ M1
  | _ => False
instance rs_raise2 {C : Addr} {f1 f2 : Str} {t : TA} {a : AA} [i_t : RA W t a] : RS W (tRaise C (spErr2 C f1 f2) W t) (aRaise2 C f1 f2 a) where
  run {G H O M σ ρ AW D AD} c h k := i_t.run c h fun vs ds G1 H1 M1 s1 w1 r1 h1 => by
    match ds, h1 with
    | [d1, d2], h1 =>
      obtain ⟨x1, x2, rfl, g1, g2⟩ := rep2 r1
      exact mk_err2 (ta := fun _ H R => R [x1, x2] H) (σ := σ) (H := H1) (C := C) (f1 := f1) (f2 := f2) (Q := fun cls d H' => W cls d σ H') ⟨x1, x2, rfl, raise_end c.rs c.wx s1 w1 (fds := [(f2, d2), (f1, d1)]) (.cons ⟨rfl, g2⟩ (.cons ⟨rfl, g1⟩ .nil)) h1⟩ (fun _ _ hq h => hq _ _ h)
instance re_no : RE W (fun _ _ _ => False) (fun _ _ _ _ => False) where
  run _ h _ := h.elim
end
/-! defs -/
def astart (N : List Str) (ds : List PD) : AEnv := ds.map some ++ List.replicate (N.length - ds.length) none
theorem start_rep {G : Hp} {N : List Str} : ∀ {ds : List PD} {vs : List V}, RepL G ds vs → RepS G (astart N ds) (L2.start N vs) := by
  intro ds vs r
  have l := r.len
  refine ⟨by unfold astart L2.start; simp [l], fun i d e => ?_⟩
  unfold astart at e
  by_cases hi : i < ds.length
  · rw [List.getElem?_append_left (by rw [List.length_map]; exact hi), List.getElem?_map] at e
    cases e2 : ds[i]? with
    | none => rw [e2] at e; cases e
    | some d' =>
      rw [e2] at e
      cases e
      obtain ⟨v, h1, h2⟩ := r.get e2
      refine ⟨v, ?_, h2⟩
      unfold L2.start
      rw [List.getElem?_append_left (by rw [List.length_map, l]; exact hi), List.getElem?_map, h1]
      rfl
  · rw [List.getElem?_append_right (by rw [List.length_map]; omega)] at e
    have := List.mem_of_getElem? e
    rw [List.mem_replicate] at this
    cases this.2
abbrev W0 : WX := fun _ _ _ _ => False
abbrev AW0 : AWX := fun _ _ _ _ => False
theorem wx0 {G O : Hp} {W : WX} : WXr G O W AW0 := fun _ _ _ _ _ _ _ _ _ _ _ _ _ _ z => z.elim
theorem body_of {t : TS} {as_ : AS} {W : WX} (i : RS W t as_) {A : ASp} {vs : List V} {H : Hp} {Q : VK} {E : XK} {N : List Str} (h : conc A vs H Q E)
    (hA : ∀ (ds : List PD) (M : MH) (AQ : AK) (AX : AXK), A ds M AQ AX → as_ AW0 { nx := fun _ M' => AQ .non M', rt := AQ } (astart N ds) M) : t { nx := fun _ H' => Q .non H', rt := Q } (L2.start N vs) H := by
  obtain ⟨G, O, M, ds, AQ, AX, w, r, h, k, _⟩ := h
  exact i.run ⟨w, start_rep r, wx0⟩ (hA ds M AQ AX h) ⟨fun σ ρ G' H' M' s w' _ q => k _ (.val .non) _ _ _ s w' rfl q, k, fun _ _ _ _ _ _ _ _ z => z.elim, fun _ _ _ _ _ _ _ _ z => z.elim⟩
/-- some of what may change is forgotten -/
def Sub (M0 M : MH) : Prop := ∀ a m, M0 a = some m → M a = some m
theorem Sub.refl (M : MH) : Sub M M := fun _ _ h => h
theorem Sub.trans {A B C : MH} (h : Sub A B) (g : Sub B C) : Sub A C := fun a m e => g a m (h a m e)
theorem Sub.new {M0 M : MH} {a : Addr} {m : MO} (h : Sub M0 M) (n : M a = none) : Sub M0 (mset M a m) := fun b n' e => mset_old n (h b n' e)
theorem Sub.put {M0 M : MH} {a : Addr} {m : MO} (h : Sub M0 M) (n : M0 a = none) : Sub M0 (mset M a m) := fun b n' e => by
  rw [mset_ne fun z => by rw [z, n] at e; cases e]; exact h b n' e
theorem Wo.drop {G H O : Hp} {M0 M : MH} (w : Wo G H M O) (h : Sub M0 M) : Wo G H M0 O := ⟨w.gh, w.oh, w.og, fun a m e => w.mu a m (h a m e)⟩
theorem Sub.none {M0 M : MH} {a : Addr} (h : Sub M0 M) (n : M a = Option.none) : M0 a = Option.none := by
  cases e : M0 a with
  | none => rfl
  | some m => rw [h a m e] at n; cases n
theorem XdAt.less {G H O : Hp} {M0 M : MH} {od : Option Addr} {fs : List (Str × V)} (x : XdAt G H O M od fs) (h : Sub M0 M) : XdAt G H O M0 od fs := x.imp id fun ⟨d, e, h1, h2, h3, h4⟩ => ⟨d, e, h1, h2, h3, h.none h4⟩
def lessX (AX : AXK) : AWX := fun C fds _ M' => ∃ M0, Sub M0 M' ∧ AX C fds M0
theorem lessX.mk {AX : AXK} {C : Addr} {fds : List (Str × PD)} {ρ : AEnv} {M : MH} (h : AX C fds M) : lessX AX C fds ρ M := ⟨M, Sub.refl M, h⟩
theorem wx_less {G O : Hp} {E : XK} {AX : AXK} (x : XKr G O E AX) : WXr G O (fun cls d _ H => E cls d H) (lessX AX) := fun C fds od fs G' H' M' ρ σ s w' _ hd rk ⟨M0, hs, aw⟩ => x C fds od fs G' H' M0 s (w'.drop hs) (hd.less hs) rk aw
theorem body_ofX {E : XK} {t : TS} {as_ : AS} (i : RS (fun cls d _ H => E cls d H) t as_) {A : ASp} {vs : List V} {H : Hp} {Q : VK} {N : List Str} (h : conc A vs H Q E)
    (hA : ∀ (ds : List PD) (M : MH) (AQ : AK) (AX : AXK), A ds M AQ AX → as_ (lessX AX) { nx := fun _ M' => AQ .non M', rt := AQ } (astart N ds) M) : t { nx := fun _ H' => Q .non H', rt := Q } (L2.start N vs) H := by
  obtain ⟨G, O, M, ds, AQ, AX, w, r, h, k, x⟩ := h
  exact i.run ⟨w, start_rep r, wx_less x⟩ (hA ds M AQ AX h) ⟨fun σ ρ G' H' M' s w' _ q => k _ (.val .non) _ _ _ s w' rfl q, k, fun _ _ _ _ _ _ _ _ z => z.elim, fun _ _ _ _ _ _ _ _ z => z.elim⟩
theorem conc_len {A : ASp} {ps : List Str} (h : ∀ ds M AQ AX, A ds M AQ AX → ds.length = ps.length) : ∀ vs H Q E, conc A vs H Q E → vs.length = ps.length := fun vs H Q E ⟨G, O, M, ds, AQ, AX, w, r, q, _⟩ => by
  rw [r.len]; exact h ds M AQ AX q
end OA
namespace OA
open PySem PySem.Spec PyProof.Rows L2
section
variable {X : Cx}
theorem pe_mut {e : Expr} {t : TE} (h : PE X e t) : PE X e (tMut t) := h
theorem pe_frz {e : Expr} {t : TE} (h : PE X e t) : PE X e (tFrz t) := h
theorem ps_mutLc {st : Stmt} {t : TE} {g : TG} (h : PS X st (tAsg t g)) : PS X st (tAsg (tMut t) g) := h
theorem o_isN : OpR X (compareOp .Is) vIsN := op_isN
theorem o_notN : OpR X (compareOp .IsNot) vNotN := op_notN
theorem o_notG : OpR X (compareOp .NotIn) rNotG := op_notIn_sign
theorem c_lenD : CallR X (.builtin "len") rLenDV := call_lenD
theorem m_insert : MtR X "list.insert" vInsert := mt_insert
theorem e_split {o e : Expr} {to te : TE} {apos pos : Pos} (ho : PE X o to) (he : PE X e te) (hs : starEach [e] X.env = [(false, eval e X.env)] := by rfl) (hbase : attributeBase o "split" X.env (eval o X.env) = eval o X.env := by rfl) (hline : (apos.endLine == pos.line) = true := by rfl) :
    PE X (.Call (.Attribute o "split" apos) [e] [] pos) (tM1 vSplit to te) := pe_split ho he hs hbase hline
end
end OA

/-! ### loops and comprehensions over plain values -/
namespace OA
open PySem PySem.Spec PyProof.Rows L2
section
variable {chk : MH → Prop} {g : AG} {b : AS} {AW : AWX} {D : AEnds} {ρ : AEnv} {M : MH} {t : AT} {e : AE} {fin : List PD → MH → Prop}
theorem loop_rng {lo : Int} {n : Nat} (I : Nat → AEnv → MH → Prop) (h0 : I 0 ρ M) (hs : ∀ i ρ' M', i < n → I i ρ' M' → g AW (.int (lo + (i : Int))) ρ' M' fun ρ2 M2 => b AW { D with nx := I (i + 1), ct := I (i + 1), bk := D.nx } ρ2 M2) (hd : ∀ ρ' M', I n ρ' M' → D.nx ρ' M') : LoopP (rngD lo n) (fun _ => True) g b AW D ρ M := by
  have l : (rngD lo n).length = n := by unfold rngD; rw [List.length_map, List.length_range]
  refine ⟨I, h0, fun i ρ' M' h => ⟨trivial, fun e => ?_, fun d e => ?_⟩⟩
  · rw [l] at e; subst e; exact hd ρ' M' h
  · have hi : i < n := by rw [← l]; exact get_lt e
    unfold rngD at e
    rw [List.getElem?_map, List.getElem?_range hi] at e
    cases e
    exact hs i ρ' M' hi h
/-- over a list of things told by a function -/
theorem loop_map {α : Type} {xs : List α} {f : α → PD} (I : Nat → AEnv → MH → Prop) (h0 : I 0 ρ M) (hc : ∀ i ρ' M', I i ρ' M' → chk M') (hs : ∀ i x ρ' M', xs[i]? = some x → I i ρ' M' → g AW (f x) ρ' M' fun ρ2 M2 => b AW { D with nx := I (i + 1), ct := I (i + 1), bk := D.nx } ρ2 M2) (hd : ∀ ρ' M', I xs.length ρ' M' → D.nx ρ' M') : LoopP (xs.map f) chk g b AW D ρ M := by
  refine ⟨I, h0, fun i ρ' M' h => ⟨hc i ρ' M' h, fun e => ?_, fun d e => ?_⟩⟩
  · rw [List.length_map] at e; subst e; exact hd ρ' M' h
  · obtain ⟨x, hx, rfl⟩ := map_get e
    exact hs i x ρ' M' hx h
theorem loop_any {ds : List PD} (I : Nat → AEnv → MH → Prop) (h0 : I 0 ρ M) (hc : ∀ i ρ' M', I i ρ' M' → chk M') (hs : ∀ i x ρ' M', ds[i]? = some x → I i ρ' M' → g AW x ρ' M' fun ρ2 M2 => b AW { D with nx := I (i + 1), ct := I (i + 1), bk := D.nx } ρ2 M2) (hd : ∀ ρ' M', I ds.length ρ' M' → D.nx ρ' M') : LoopP ds chk g b AW D ρ M :=
  ⟨I, h0, fun i ρ' M' h => ⟨hc i ρ' M' h, fun e => hd ρ' M' (e ▸ h), fun d e => hs i d ρ' M' e h⟩⟩
theorem loop_enum {α : Type} {xs : List α} {f : α → PD} (I : Nat → AEnv → MH → Prop) (h0 : I 0 ρ M) (hc : ∀ i ρ' M', I i ρ' M' → chk M') (hs : ∀ i x ρ' M', xs[i]? = some x → I i ρ' M' → g AW (.tup [.int ((i : Nat) : Int), f x]) ρ' M' fun ρ2 M2 => b AW { D with nx := I (i + 1), ct := I (i + 1), bk := D.nx } ρ2 M2) (hd : ∀ ρ' M', I xs.length ρ' M' → D.nx ρ' M') : LoopP (enumD 0 (xs.map f)) chk g b AW D ρ M := by
  refine ⟨I, h0, fun i ρ' M' h => ⟨hc i ρ' M' h, fun e => ?_, fun d e => ?_⟩⟩
  · rw [enumD_len, List.length_map] at e; subst e; exact hd ρ' M' h
  · obtain ⟨y, hy, rfl⟩ := enumD_get 0 _ i d e
    obtain ⟨x, hx, rfl⟩ := map_get hy
    rw [Nat.zero_add]
    exact hs i x ρ' M' hx h
theorem lc_map {α : Type} {xs : List α} {f : α → PD} (h : α → PD) (hc : chk M) (hl : xs.length ≤ 1000000) (hs : ∀ x ∈ xs, ∀ (R1 : AK) (R2 : MH → Prop), R1 (h x) M → g AW (f x) ρ M fun ρ2 M2 => t AW ρ2 M2 fun b M3 => ifB b (e AW ρ2 M3 R1) (R2 M3)) (hf : fin (xs.map h) M) : LcP (xs.map f) chk g t e fin AW ρ M := by
  refine ⟨fun i acc M' => acc = (xs.take i).map h ∧ M' = M, ⟨rfl, rfl⟩, ?_⟩
  rintro i acc M' ⟨rfl, rfl⟩
  refine ⟨hc, fun e => ?_, fun d e => ?_⟩
  · rw [List.length_map] at e; subst e; rw [List.take_length]; exact hf
  · obtain ⟨x, hx, rfl⟩ := map_get e
    have := get_lt hx
    refine ⟨by rw [List.length_map, List.length_take, sizeLine_eq]; omega, hs x (List.mem_of_getElem? hx) _ _ ⟨?_, rfl⟩⟩
    rw [take_more hx, List.map_append]
    rfl
theorem lc_fm {α : Type} {xs : List α} {f : α → PD} (h : α → Option PD) (hc : chk M) (hl : xs.length ≤ 1000000) (hs : ∀ x ∈ xs, ∀ (R1 : AK) (R2 : MH → Prop), (∀ y, h x = some y → R1 y M) → (h x = none → R2 M) → g AW (f x) ρ M fun ρ2 M2 => t AW ρ2 M2 fun b M3 => ifB b (e AW ρ2 M3 R1) (R2 M3)) (hf : fin (xs.filterMap h) M) : LcP (xs.map f) chk g t e fin AW ρ M := by
  refine ⟨fun i acc M' => acc = (xs.take i).filterMap h ∧ M' = M, ⟨rfl, rfl⟩, ?_⟩
  rintro i acc M' ⟨rfl, rfl⟩
  refine ⟨hc, fun e => ?_, fun d e => ?_⟩
  · rw [List.length_map] at e; subst e; rw [List.take_length]; exact hf
  · obtain ⟨x, hx, rfl⟩ := map_get e
    have := get_lt hx
    refine ⟨?_, hs x (List.mem_of_getElem? hx) _ _ (fun y hy => ⟨?_, rfl⟩) (fun hn => ⟨?_, rfl⟩)⟩
    · have := List.length_filterMap_le h (xs.take i)
      rw [List.length_take] at this
      rw [sizeLine_eq]; omega
    · rw [take_more hx, List.filterMap_append, List.filterMap_cons, hy]; rfl
    · rw [take_more hx, List.filterMap_append, List.filterMap_cons, hn]; simp
theorem lc_rng {lo : Int} {n : Nat} (h : Nat → PD) (hl : n ≤ 1000000) (hs : ∀ i, i < n → ∀ (R1 : AK) (R2 : MH → Prop), R1 (h i) M → g AW (.int (lo + (i : Int))) ρ M fun ρ2 M2 => t AW ρ2 M2 fun b M3 => ifB b (e AW ρ2 M3 R1) (R2 M3)) (hf : fin ((List.range n).map h) M) : LcP (rngD lo n) (fun _ => True) g t e fin AW ρ M :=
  lc_map (xs := List.range n) h trivial (by rw [List.length_range]; exact hl) (fun x hx => hs x (List.mem_range.mp hx)) hf
theorem lc_rngF {lo : Int} {n : Nat} (h : Nat → Option PD) (hl : n ≤ 1000000) (hs : ∀ i, i < n → ∀ (R1 : AK) (R2 : MH → Prop), (∀ y, h i = some y → R1 y M) → (h i = none → R2 M) → g AW (.int (lo + (i : Int))) ρ M fun ρ2 M2 => t AW ρ2 M2 fun b M3 => ifB b (e AW ρ2 M3 R1) (R2 M3)) (hf : fin ((List.range n).filterMap h) M) : LcP (rngD lo n) (fun _ => True) g t e fin AW ρ M :=
  lc_fm (xs := List.range n) h trivial (by rw [List.length_range]; exact hl) (fun x hx => hs x (List.mem_range.mp hx)) hf
/-- results that are not told by a function -/
theorem lc_all {α β : Type} {xs : List α} {f : α → PD} (h : β → PD) (R : α → β → Prop) (hc : chk M) (hl : xs.length ≤ 1000000) (hs : ∀ x ∈ xs, ∀ (R1 : AK) (R2 : MH → Prop), (∀ y, R x y → R1 (h y) M) → g AW (f x) ρ M fun ρ2 M2 => t AW ρ2 M2 fun b M3 => ifB b (e AW ρ2 M3 R1) (R2 M3)) (hf : ∀ ys : List β, Paired R xs ys → fin (ys.map h) M) : LcP (xs.map f) chk g t e fin AW ρ M := by
  have snoc : ∀ {l : List α} {m : List β} {x : α} {y : β}, Paired R l m → R x y → Paired R (l ++ [x]) (m ++ [y]) := fun {l m x y} p r => by
    induction p with
    | nil => exact .cons r .nil
    | cons h1 _ ih => exact .cons h1 ih
  refine ⟨fun i acc M' => ∃ ys, acc = ys.map h ∧ Paired R (xs.take i) ys ∧ M' = M, ⟨[], rfl, .nil, rfl⟩, ?_⟩
  rintro i acc M' ⟨ys, rfl, p, rfl⟩
  refine ⟨hc, fun e => ?_, fun d e => ?_⟩
  · rw [List.length_map] at e; subst e; rw [List.take_length] at p; exact hf ys p
  · obtain ⟨x, hx, rfl⟩ := map_get e
    have hlt := get_lt hx
    have pl := Paired.length p
    rw [List.length_take] at pl
    refine ⟨by rw [List.length_map, sizeLine_eq]; omega, hs x (List.mem_of_getElem? hx) _ _ fun y hy => ⟨ys ++ [y], by rw [List.map_append]; rfl, ?_, rfl⟩⟩
    rw [take_more hx]
    exact snoc p hy
theorem atI_at {α : Type} {xs : List α} {i : Nat} {x : α} (h : xs[i]? = some x) : atI xs ((i : Nat) : Int) = some x := by
  have := get_lt h
  unfold atI ixN
  rw [if_pos (Int.natCast_nonneg i), if_pos (by exact_mod_cast this)]
  exact h
theorem at0 {α : Type} {xs : List α} {i : Nat} {x : α} (h : xs[i]? = some x) : atI xs (0 + (i : Int)) = some x := by rw [Int.zero_add]; exact atI_at h
theorem map_at {α β : Type} {f : α → β} {xs : List α} {i : Nat} {x : α} (h : xs[i]? = some x) : (xs.map f)[i]? = some (f x) := by rw [List.getElem?_map, h]; rfl
end
end OA

/-! ### what may change stands still from now on: objects with their fields -/
namespace OA
open PySem PySem.Spec PyProof.Rows L2
/-- one cell by itself -/
def frzO : MO → Option PD
  | .lst ds => some (.lst ds)
  | .dK kvs => some (.dK (kvs.map (·.1)) (kvs.map (·.2)))
  | .dT kvs => some (.dT (kvs.map (·.1)) (kvs.map (·.2)))
  | .ins C fds => some (.ins C (fds.map (·.1)) (fds.map (·.2)))
  | _ => none
theorem frzO_rep {G : Hp} {a : Addr} {o : HO} {m : MO} {d : PD} (h : frzO m = some d) (g : G a = some o) (r : RepO G o m) : Rep G d (.ref a) := by
  cases m with
  | lst ds => cases h; obtain ⟨vs, rfl, r⟩ := r; exact ⟨a, vs, rfl, g, r⟩
  | dK kvs =>
    cases h
    obtain ⟨us, rfl, r⟩ := r
    obtain ⟨vs, rfl, r2⟩ := RepK.unzip r
    exact ⟨a, vs, rfl, by rw [List.length_map, List.length_map], g, r2⟩
  | dT kvs =>
    cases h
    obtain ⟨us, rfl, r⟩ := r
    obtain ⟨vs, rfl, r2⟩ := RepK.unzip r
    exact ⟨a, vs, rfl, by rw [List.length_map, List.length_map], g, r2⟩
  | ins C fds =>
    cases h
    obtain ⟨dx, us, rfl, r⟩ := r
    obtain ⟨vs, rfl, r2⟩ := RepK.unzip r
    exact ⟨a, dx, vs, rfl, by rw [List.length_map, List.length_map], g, r2⟩
  | draw _ => cases h
  | inn => cases h
/-- steps: the thing itself; a field of an object; a member of a list -/
inductive Fz : PD → MH → PD → MH → Prop
  | done {d : PD} {M : MH} : Fz d M d M
  | drop {d d' : PD} {M M0 M' : MH} : Sub M0 M → Fz d M0 d' M' → Fz d M d' M'
  | top {a : Addr} {M M' : MH} {m : MO} {d d' : PD} : M a = some m → frzO m = some d → Fz d (mdel M a) d' M' → Fz (.ptr a) M d' M'
  | fld {x a C : Addr} {M M' : MH} {m : MO} {e d d' : PD} {f : Str} {pre post : List (Str × PD)} : M x = some (.ins C (pre ++ (f, .ptr a) :: post)) → x ≠ a → M a = some m → frzO m = some e → Fz d (mset (mdel M a) x (.ins C (pre ++ (f, e) :: post))) d' M' → Fz d M d' M'
theorem RepK.split {κ : Type} {G : Hp} : ∀ {pre : List (κ × PD)} {f : κ} {d : PD} {post : List (κ × PD)} {fs : List (κ × V)}, RepK G (pre ++ (f, d) :: post) fs → ∃ ps v qs, fs = ps ++ (f, v) :: qs ∧ RepK G pre ps ∧ Rep G d v ∧ RepK G post qs
  | [], f, d, post, _, h => by
    cases h with
    | @cons _ q _ _ h1 h2 =>
      obtain ⟨a, v⟩ := q
      have e : f = a := h1.1
      subst e
      exact ⟨[], v, _, rfl, .nil, h1.2, h2⟩
  | p :: pre, f, d, post, _, h => by
    cases h with
    | @cons _ q _ _ h1 h2 =>
      obtain ⟨ps, v, qs, rfl, a, b, c⟩ := RepK.split h2
      exact ⟨q :: ps, v, qs, rfl, .cons h1 a, b, c⟩
theorem RepK.join {κ : Type} {G : Hp} {pre : List (κ × PD)} {ps : List (κ × V)} {f : κ} {d : PD} {v : V} {post : List (κ × PD)} {qs : List (κ × V)} (h1 : RepK G pre ps) (h2 : Rep G d v) (h3 : RepK G post qs) : RepK G (pre ++ (f, d) :: post) (ps ++ (f, v) :: qs) := by
  induction h1 with
  | nil => exact .cons ⟨rfl, h2⟩ h3
  | cons h _ ih => exact .cons h ih
theorem Fz.ok {d d' : PD} {M M' : MH} (z : Fz d M d' M') : ∀ {G H O : Hp} {v : V}, Wo G H M O → Rep G d v → ∃ G', Same G G' ∧ Wo G' H M' O ∧ Rep G' d' v := by
  induction z with
  | done => intro G H O v w r; exact ⟨G, Same.refl _, w, r⟩
  | drop hs _ ih => intro G H O v w r; exact ih (w.drop hs) r
  | @top a M M' m d d' e hf _ ih =>
    intro G H O v w r
    have r : v = .ref a := r
    subst r
    obtain ⟨o, g1, _, _, ro⟩ := w.mu a m e
    obtain ⟨w2, s2⟩ := w.freeze e g1
    obtain ⟨G', s3, w3, r3⟩ := ih w2 (frzO_rep hf upd_same (ro.mono s2))
    exact ⟨G', s2.trans s3, w3, r3⟩
  | @fld x a C M M' m e d d' f pre post hx hne ha hf _ ih =>
    intro G H O v w r
    obtain ⟨o, g1, _, _, ro⟩ := w.mu a m ha
    obtain ⟨w2, s2⟩ := w.freeze ha g1
    have hx2 : mdel M a x = some (.ins C (pre ++ (f, .ptr a) :: post)) := by rw [mdel_ne hne]; exact hx
    obtain ⟨ox, k1, _, _, dx, fs, rfl, rk⟩ := w2.mu x _ hx2
    obtain ⟨ps, u, qs, rfl, p1, p2, p3⟩ := RepK.split rk
    have p2 : u = .ref a := p2
    subst p2
    have w3 := w2.write (o' := .ins C dx (ps ++ (f, .ref a) :: qs)) (m' := .ins C (pre ++ (f, e) :: post)) hx2 ⟨dx, _, rfl, RepK.join p1 (frzO_rep hf upd_same (ro.mono s2)) p3⟩
    have e3 : upd H x (.ins C dx (ps ++ (f, .ref a) :: qs)) = H := by
      funext b
      by_cases hb : b = x
      · rw [hb, upd_same, k1]
      · rw [upd_ne hb]
    rw [e3] at w3
    obtain ⟨G', s4, w4, r4⟩ := ih w3 (Rep.mono s2 d r)
    exact ⟨G', s2.trans s4, w4, r4⟩
def fz (AQ : AK) : AK := fun d M => ∃ d' M', Fz d M d' M' ∧ AQ d' M'
theorem KVr.fz {G O : Hp} {Q : VK} {AQ : AK} (k : KVr G O Q AQ) : KVr G O Q (OA.fz AQ) := fun v d G' H' M' s w r ⟨d', M2, z, q⟩ => by
  obtain ⟨G2, s2, w2, r2⟩ := z.ok w r
  exact k v d' G2 H' M2 (s.trans s2) w2 r2 q
/-- as body_of and body_ofX, what is returned may be made to stand still -/
theorem body_ofF {t : TS} {as_ : AS} {W : WX} (i : RS W t as_) {A : ASp} {vs : List V} {H : Hp} {Q : VK} {E : XK} {N : List Str} (h : conc A vs H Q E)
    (hA : ∀ (ds : List PD) (M : MH) (AQ : AK) (AX : AXK), A ds M AQ AX → as_ AW0 { nx := fun _ M' => AQ .non M', rt := fz AQ } (astart N ds) M) : t { nx := fun _ H' => Q .non H', rt := Q } (L2.start N vs) H := by
  obtain ⟨G, O, M, ds, AQ, AX, w, r, h, k, _⟩ := h
  exact i.run ⟨w, start_rep r, wx0⟩ (hA ds M AQ AX h) ⟨fun σ ρ G' H' M' s w' _ q => k _ (.val .non) _ _ _ s w' rfl q, k.fz, fun _ _ _ _ _ _ _ _ z => z.elim, fun _ _ _ _ _ _ _ _ z => z.elim⟩
theorem body_ofXF {E : XK} {t : TS} {as_ : AS} (i : RS (fun cls d _ H => E cls d H) t as_) {A : ASp} {vs : List V} {H : Hp} {Q : VK} {N : List Str} (h : conc A vs H Q E)
    (hA : ∀ (ds : List PD) (M : MH) (AQ : AK) (AX : AXK), A ds M AQ AX → as_ (lessX AX) { nx := fun _ M' => AQ .non M', rt := fz AQ } (astart N ds) M) : t { nx := fun _ H' => Q .non H', rt := Q } (L2.start N vs) H := by
  obtain ⟨G, O, M, ds, AQ, AX, w, r, h, k, x⟩ := h
  exact i.run ⟨w, start_rep r, wx_less x⟩ (hA ds M AQ AX h) ⟨fun σ ρ G' H' M' s w' _ q => k _ (.val .non) _ _ _ s w' rfl q, k.fz, fun _ _ _ _ _ _ _ _ z => z.elim, fun _ _ _ _ _ _ _ _ z => z.elim⟩
end OA

/-! ### methods and staticmethods that may raise -/
namespace OA
open PySem PySem.Spec PyProof.Rows L2
structure MethX (P : Program) (w : World) (K : PySem.W.Frag) (mg : Str → Option Value) (base : Heap) (C : Addr) (m : Str) (ps : List Str) (sp : Sp) (k : Nat) (dvs : List V) : Prop where
  ex : ∃ f fd, FnOk P w K mg base (L2.CX P w) k f fd ps sp ∧ (∃ ds, Vals dvs ds ∧ Binds K fd ps ds) ∧ Cls K C ∧ Meth K C m f
structure StaticX (P : Program) (w : World) (K : PySem.W.Frag) (mg : Str → Option Value) (base : Heap) (C : Addr) (m : Str) (ps : List Str) (sp : Sp) (k : Nat) : Prop where
  ex : ∃ g fd p mc rest, FnOk P w K mg base (L2.CX P w) k g fd ps sp ∧ Binds K fd ps [] ∧ ClX.CRead K C mc ∧ PySem.W.findCls K (.ref C) mc m = some (.get (.builtin "staticmethod.__get__") (.ref p) .none (.ref C)) ∧ PySem.W.recIn K p "staticmethod" = some (.ref g :: rest) ∧ PySem.W.keepIn K (.ref g) = true
section
variable {X : Cx} {C : Addr} {m x : Str} {ps : List Str} {sp : Sp} {k j : Nat} {o e : Expr} {es : List Expr} {ta : TE} {t : TA} {apos pos : Pos} {dvs : List V} {pl : Sem Bool} {W : WX}
def tMethS (C : Addr) (m : Str) (sp : Sp) (dvs : List V) (E : L2.St → XK) (ta : TE) (t : TA) : TE := fun σ H Q => ta σ H fun x H1 => ∃ a dx fs, x = .ref a ∧ H1 a = some (.ins C dx fs) ∧ fs.lookup m = none ∧ t σ H1 fun vs H2 => sp (x :: (vs ++ dvs)) H2 Q (E σ)
theorem pe_moX (c : MethX X.prog X.w X.K X.mg X.base C m ps sp k dvs) (hr : Room j X.A) (hk : k ≤ j) (tk : Takes X W) (he : PE X o ta) (ha : PA X (e :: es) t)
    (hst : starEach (e :: es) X.env = (false, eval e X.env) :: starEach es X.env := by rfl) (hpl : (backTo pos (starEach es X.env)).any (·.1) = false := by rfl)
    (ht : eval (.Call (.Attribute o m apos) (e :: es) [] pos) X.env = (do
      let ov ← eval o X.env
      standAt apos.atName
      let (f, first) ← holding [ov] (getMethod ov m pl)
      callWith pos f first (backTo pos (starEach (e :: es) X.env)) (backToKw pos (keywordEach [] X.env))) := by rfl) :
    PE X (.Call (.Attribute o m apos) (e :: es) [] pos) (tMethS C m sp dvs (WE W) ta t) := by
  obtain ⟨f, fd, F, ⟨ds, hd, b⟩, cl, M⟩ := c.ex
  refine ⟨fun pins s σ H Q I h => ?_⟩
  refine PySem.W.methodCall_KW (pl := pl) (thn (he.run pins s σ H _ I h) fun u s1 ⟨x, H1, I1, rx, a, dx, fs, ex, ea, l, q⟩ => ?_) ht
  subst ex
  obtain rfl : u = Value.ref a := rx
  refine getmeth_ok I1 ea cl M l ?_
  refine PySem.W.callWith_K (first := [.ref a]) (h₀ := X.base) I.ok.mod.kin M.kp (thn (ha.run pos pins s1 σ H1 _ I1 q) fun us s2 ⟨vs, H2, I2, r, q2⟩ => ⟨I2.kIn, ?_⟩) hst hpl
  exact run_fnSD (E := WE W) (us := .ref a :: us) (vs := .ref a :: vs) F (hr.mono hk) b hd (passAt tk σ) I2 (.cons rfl r) q2
theorem pe_mo0X (c : MethX X.prog X.w X.K X.mg X.base C m ps sp k dvs) (hr : Room j X.A) (hk : k ≤ j) (tk : Takes X W) (he : PE X o ta)
    (ht : eval (.Call (.Attribute o m apos) [] [] pos) X.env = (do
      let ov ← eval o X.env
      standAt apos.atName
      let (f, first) ← holding [ov] (getMethod ov m pl)
      callWith pos f first (backTo pos (starEach [] X.env)) (backToKw pos (keywordEach [] X.env))) := by rfl) :
    PE X (.Call (.Attribute o m apos) [] [] pos) (tMethS C m sp dvs (WE W) ta tNil) := by
  obtain ⟨f, fd, F, ⟨ds, hd, b⟩, cl, M⟩ := c.ex
  refine ⟨fun pins s σ H Q I h => ?_⟩
  refine PySem.W.methodCall_KW (pl := pl) (thn (he.run pins s σ H _ I h) fun u s1 ⟨x, H1, I1, rx, a, dx, fs, ex, ea, l, q⟩ => ?_) ht
  subst ex
  obtain rfl : u = Value.ref a := rx
  refine getmeth_ok I1 ea cl M l ?_
  refine PySem.W.callWith_K0 (first := [.ref a]) I1.kIn M.kp ?_
  exact run_fnSD (E := WE W) (us := [.ref a]) (vs := [.ref a]) F (hr.mono hk) b hd (passAt tk σ) I1 (.cons rfl .nil) q
def tStS (C : Addr) (sp : Sp) (E : L2.St → XK) (ta : TE) (t : TA) : TE := fun σ H Q => ta σ H fun x H1 => x = .ref C ∧ t σ H1 fun vs H2 => sp vs H2 Q (E σ)
theorem pe_stX (c : StaticX X.prog X.w X.K X.mg X.base C m ps sp k) (hr : Room j X.A) (hk : k ≤ j) (tk : Takes X W) (he : PE X o ta) (ha : PA X (e :: es) t)
    (hst : starEach (e :: es) X.env = (false, eval e X.env) :: starEach es X.env := by rfl) (hpl : (backTo pos (starEach es X.env)).any (·.1) = false := by rfl)
    (ht : eval (.Call (.Attribute o m apos) (e :: es) [] pos) X.env = (do
      let ov ← eval o X.env
      standAt apos.atName
      let (f, first) ← holding [ov] (getMethod ov m pl)
      callWith pos f first (backTo pos (starEach (e :: es) X.env)) (backToKw pos (keywordEach [] X.env))) := by rfl) :
    PE X (.Call (.Attribute o m apos) (e :: es) [] pos) (tStS C sp (WE W) ta t) := by
  obtain ⟨g, fd, p, mc, rest, F, b, r, at_, hp, kp⟩ := c.ex
  refine ⟨fun pins s σ H Q I h => ?_⟩
  refine PySem.W.methodCall_KW (pl := pl) (thn (he.run pins s σ H _ I h) fun u s1 ⟨x, H1, I1, rx, ex, q⟩ => ?_) ht
  subst ex
  obtain rfl : u = Value.ref C := rx
  refine PySem.W.method_cls I1.kIn r.ga ?_
  refine PySem.W.cls_bind I1.kIn r.rd at_ ?_
  refine wpAny_call (PySem.W.sm_get (s := { s1 with toks := s1.toks + 1 }) I1.kIn hp (PySem.W.handed_on rfl ?_))
  refine PySem.W.callWith_K (h₀ := X.base) I1.ok.mod.kin kp (thn (ha.run pos pins _ σ H1 _ (I1.tok _) q) fun us s3 ⟨vs, H2, I3, rv, q2⟩ => ⟨I3.kIn, ?_⟩) hst hpl
  exact run_fnS F (hr.mono hk) b (passAt tk σ) I3 rv q2
/-! their plain readings -/
def aMethS (C : Addr) (m : Str) (A : ASp) (dvs : List V) (a : AE) (t : AA) : AE := fun AW ρ M Q => a AW ρ M fun d M1 => ∃ fds, insOf M1 d = some (C, fds) ∧ fds.lookup m = none ∧ t AW ρ M1 fun ds M2 => A (d :: (ds ++ dvs.map PD.val)) M2 Q fun C fds M3 => AW C fds ρ M3
instance re_methS {W : WX} {C : Addr} {m : Str} {A : ASp} {dvs : List V} {ta : TE} {t : TA} {a : AE} {aa : AA} [i_ta : RE W ta a] [i_t : RA W t aa] : RE W (tMethS C m (conc A) dvs (WE W) ta t) (aMethS C m A dvs a aa) where
  run c h k := i_ta.run c h fun v d _ _ _ s1 w1 r1 h1 => by
    obtain ⟨fds, e, hn, h1⟩ := h1
    obtain ⟨p, dx, fs, e1, g1, g2⟩ := ins_at w1 r1 e
    refine ⟨p, dx, fs, e1, g1, ?_, i_t.run (c.next s1 w1) h1 fun vs ds _ _ _ s2 w2 r2 h2 => ⟨_, _, _, _, _, _, w2, RepL.cons (Rep.mono s2 d r1) (r2.app (RepL.ofVals dvs)), h2, k.mono (s1.trans s2), wx_xk (s1.trans s2) c.rs c.wx⟩⟩
    rcases g2.look m with ⟨_, z⟩ | ⟨_, _, z, _⟩
    · exact z
    · rw [hn] at z; cases z
def aStS (C : Addr) (A : ASp) (a : AE) (t : AA) : AE := fun AW ρ M Q => a AW ρ M fun d M1 => d = .ptr C ∧ t AW ρ M1 fun ds M2 => A ds M2 Q fun C fds M3 => AW C fds ρ M3
instance re_stS {W : WX} {C : Addr} {A : ASp} {ta : TE} {t : TA} {a : AE} {aa : AA} [i_ta : RE W ta a] [i_t : RA W t aa] : RE W (tStS C (conc A) (WE W) ta t) (aStS C A a aa) where
  run c h k := i_ta.run c h fun v d _ _ _ s1 w1 r1 h1 => by
    obtain ⟨rfl, h1⟩ := h1
    exact ⟨r1, i_t.run (c.next s1 w1) h1 fun vs ds _ _ _ s2 w2 r2 h2 => ⟨_, _, _, _, _, _, w2, r2, h2, k.mono (s1.trans s2), wx_xk (s1.trans s2) c.rs c.wx⟩⟩
end
end OA

/-! ### plain readings: == of data, operators of own classes -/
namespace OA
open PySem PySem.Spec PyProof.Rows L2
mutual
inductive PyD (M : MH) : PD → PyData → Prop
  | non : PyD M .non .none
  | bl (b : Bool) : PyD M (.bl b) (.bool b)
  | int (i : Int) : PyD M (.int i) (.int i)
  | str (x : Str) : PyD M (.str x) (.str x)
  | lst {d : PD} {ds : List PD} {ps : List PyData} : sqOf M d = some ds → PyDs M ds ps → PyD M d (.list ps)
  | tup {ds : List PD} {ps : List PyData} : PyDs M ds ps → PyD M (.tup ds) (.tuple ps)
inductive PyDs (M : MH) : List PD → List PyData → Prop
  | nil : PyDs M [] []
  | cons {d : PD} {p : PyData} {ds : List PD} {ps : List PyData} : PyD M d p → PyDs M ds ps → PyDs M (d :: ds) (p :: ps)
end
section
variable {K : PySem.W.Frag} {G H O : Hp} {M : MH}
mutual
theorem PyD.dp (w : Wo G H M O) : ∀ {d : PD} {p : PyData} {v : V}, PyD M d p → Rep G d v → Dp K H v p
  | _, _, v, .non, r => by have r : v = .non := r; subst r; exact .non
  | _, _, v, .bl b, r => by have r : v = .bl b := r; subst r; exact .bl b
  | _, _, v, .int i, r => by have r : v = .int i := r; subst r; exact .int i
  | _, _, v, .str x, r => by have r : v = .str x := r; subst r; exact .str x
  | _, _, v, .lst h q, r => by
    obtain ⟨a, vs, rfl, g1, g2⟩ := sq_at w r h
    exact .lst (SqL.of g1) (PyDs.dp w q g2)
  | _, _, v, .tup q, r => by
    obtain ⟨a, vs, rfl, g1, g2⟩ := r
    exact .tup (SqT.of (w.gh _ _ g1)) (PyDs.dp w q g2)
theorem PyDs.dp (w : Wo G H M O) : ∀ {ds : List PD} {ps : List PyData} {vs : List V}, PyDs M ds ps → RepL G ds vs → DpAll K H vs ps
  | _, _, vs, .nil, r => by have r : vs = [] := r; subst r; exact .nil
  | _, _, vs, .cons h q, r => by
    obtain ⟨v, rs, rfl, r1, r2⟩ := r
    exact .cons (PyD.dp w h r1) (PyDs.dp w q r2)
end
end
def fEqD (neg : Bool) : AOp := fun x y M Q => ∃ p q, PyD M x p ∧ PyD M y q ∧ SeqAt.shaped p = true ∧ SeqAt.shaped q = true ∧ Q (.bl (if neg then !PyData.eqv p q else PyData.eqv p q)) M
instance rop_eqD {K : PySem.W.Frag} : ROp (rEqD K) (fEqD false) where
  run {G H O M x y dx dy Q AQ} w rx ry h k := by
    obtain ⟨p, q, h1, h2, s1, s2, h⟩ := h
    exact ⟨p, q, h1.dp w rx, h2.dp w ry, s1, s2, k _ (.val _) G H M (Same.refl _) w rfl h⟩
instance rop_neD {K : PySem.W.Frag} : ROp (rNeD K) (fEqD true) where
  run {G H O M x y dx dy Q AQ} w rx ry h k := by
    obtain ⟨p, q, h1, h2, s1, s2, h⟩ := h
    exact ⟨p, q, h1.dp w rx, h2.dp w ry, s1, s2, k _ (.val _) G H M (Same.refl _) w rfl h⟩
theorem pyd_strs {M : MH} : ∀ xs : List Str, PyDs M (xs.map PD.str) (xs.map PyData.str)
  | [] => .nil
  | x :: xs => .cons (.str x) (pyd_strs xs)
theorem PyD.sL {M : MH} {d : PD} {xs : List Str} (h : sqOf M d = some (xs.map PD.str)) : PyD M d (dS xs) := .lst h (pyd_strs xs)
/-! operators of own classes -/
def fOwn2 (C : Addr) (A : ASp) : AOp := fun x y M Q => ∃ fs gs, insOf M x = some (C, fs) ∧ insOf M y = some (C, gs) ∧ A [x, y] M Q X0
instance rop_own2 {C : Addr} {A : ASp} : ROp (rOwn2 C (conc A)) (fOwn2 C A) where
  run {G H O M x y dx dy Q AQ} w rx ry h k := by
    obtain ⟨fs, gs, h1, h2, h⟩ := h
    obtain ⟨a, d1, fs', rfl, g1, _⟩ := ins_at w rx h1
    obtain ⟨b, d2, gs', rfl, g2, _⟩ := ins_at w ry h2
    exact ⟨a, b, d1, fs', d2, gs', rfl, rfl, g1, g2, _, _, _, _, _, _, w, RepL.cons rx (RepL.one ry), h, k, xk0⟩
def fOwnO (K : PySem.W.Frag) (C : Addr) (A : ASp) : AOp := fun x y M Q => ∃ fs t, insOf M x = some (C, fs) ∧ TyD K M y t ∧ (∀ C fs ds, y ≠ .err C fs ds) ∧ PySem.W.notFirst K C t = true ∧ A [x, y] M Q X0
instance rop_ownO {K : PySem.W.Frag} {C : Addr} {A : ASp} : ROp (rOwnO K C (conc A)) (fOwnO K C A) where
  run {G H O M x y dx dy Q AQ} w rx ry h k := by
    obtain ⟨fs, t, h1, h2, ne, h3, h⟩ := h
    obtain ⟨a, d1, fs', rfl, g1, _⟩ := ins_at w rx h1
    exact ⟨a, d1, fs', t, rfl, g1, ty_at w ry h2 ne, h3, _, _, _, _, _, _, w, RepL.cons rx (RepL.one ry), h, k, xk0⟩
end OA

/-! ### plain readings: except clauses, caught errors -/
namespace OA
open PySem PySem.Spec PyProof.Rows L2
/-- what stands in the heap and is not touched stands still from now on -/
theorem Wo.hold {G H O : Hp} {M : MH} {a : Addr} {o : HO} (w : Wo G H M O) (h : H a = some o) (g : G a = none) (hO : O a = none) (hm : M a = none) : Wo (upd G a o) H M O ∧ Same G (upd G a o) := by
  have s : Same G (upd G a o) := Same.lay g o
  refine ⟨⟨fun b u e => ?_, w.oh, fun b u e => ?_, fun b n e => ?_⟩, s⟩
  · by_cases hb : b = a
    · subst hb; rw [upd_same] at e; cases e; exact h
    · rw [upd_ne hb] at e; exact w.gh b u e
  · rw [upd_ne (ne_of_none e hO)]; exact w.og b u e
  · obtain ⟨u, k1, k2, k3, k4⟩ := w.mu b n e
    exact ⟨u, k1, by rw [upd_ne (fun z => by rw [z, hm] at e; cases e)]; exact k2, k3, k4.mono s⟩
def aoff : Option Nat → AEnds → AEnds
  | none, D => D
  | some i, D => { nx := fun ρ M => D.nx (ρ.set i none) M, rt := D.rt, bk := fun ρ M => D.bk (ρ.set i none) M, ct := fun ρ M => D.ct (ρ.set i none) M }
def aon : Option Nat → AEnv → PD → AEnv
  | none, ρ, _ => ρ
  | some i, ρ, d => ρ.set i (some d)
def aWMix (K : PySem.W.Frag) (AW : AWX) (D : AEnds) : List (Value × Option Nat × AS) → AWX
  | [] => AW
  | (c, oi, as_) :: r => fun C fds ρ M => ∃ b, PySem.W.exmOne K (.ref C) c = some b ∧ ifB b (as_ AW0 (aoff oi D) (aon oi ρ (.err C (fds.map (·.1)) (fds.map (·.2)))) M) (aWMix K AW D r C fds ρ M)
theorem EndsR.off {G O : Hp} {Dc : Ends} {D : AEnds} (k : EndsR G O Dc D) : ∀ oi : Option Nat, EndsR G O (offD oi Dc) (aoff oi D)
  | none => k
  | some i => ⟨fun _ _ _ _ _ s w r h => k.nx _ _ _ _ _ s w (r.unset i none) h, k.rt, fun _ _ _ _ _ s w r h => k.bk _ _ _ _ _ s w (r.unset i none) h, fun _ _ _ _ _ s w r h => k.ct _ _ _ _ _ s w (r.unset i none) h⟩
theorem RepS.on {G : Hp} {ρ : AEnv} {σ : L2.St} (h : RepS G ρ σ) {d : PD} {a : Addr} (r : Rep G d (.ref a)) : ∀ oi : Option Nat, RepS G (aon oi ρ d) (onS oi σ a)
  | none => h
  | some i => h.set r i
class RHs (l : List (Value × Option Nat × TS)) (al : outParam (List (Value × Option Nat × AS))) : Prop where
  run : ∀ {K : PySem.W.Frag} {Wout : WX} {G O : Hp} {Dc : Ends} {D : AEnds} {AW : AWX}, EndsR G O Dc D → WXr G O Wout AW → WXr G O (wMix K Wout Dc l) (aWMix K AW D al)
instance rhs_nil : RHs [] [] := ⟨fun _ h => h⟩
instance rhs_cons {c : Value} {oi : Option Nat} {ts : TS} {as_ : AS} {l : List (Value × Option Nat × TS)} {al : List (Value × Option Nat × AS)} [i_t : RS W0 ts as_] [i_l : RHs l al] : RHs ((c, oi, ts) :: l) ((c, oi, as_) :: al) where
  run {K Wout G O Dc D AW} k hw C fds od fs G' H' M' ρ σ s w r x rk aw := by
    obtain ⟨b, e, q⟩ := aw
    refine ⟨b, e, fun hb a na => ?_, fun hb => ?_⟩
    · subst hb
      obtain ⟨w1, s1⟩ := w.lay na (errO a (.ref C) od)
      obtain ⟨vs, efs, rvs⟩ := rk.unzip
      have hl : (fds.map (·.1)).length = (fds.map (·.2)).length := by rw [List.length_map, List.length_map]
      have ⟨G2, s2, w2, r2⟩ : ∃ G2, Same G' G2 ∧ Wo G2 (upd H' a (errO a (.ref C) od)) M' O ∧ Rep G2 (.err C (fds.map (·.1)) (fds.map (·.2))) (.ref a) := by
        rcases x with ⟨rfl, hfs⟩ | ⟨d, rfl, h1, h2, h3, h4⟩
        · have e0 : fds = [] := by
            have := rk.len
            rw [hfs] at this
            cases fds with
            | nil => rfl
            | cons _ _ => cases this
          exact ⟨_, s1, w1, a, none, vs, rfl, hl, upd_same, .inl ⟨rfl, by rw [e0]; rfl⟩, RepL.mono s1 _ rvs⟩
        · have hda : d ≠ a := ne_of_none h1 na
          obtain ⟨w2, s2⟩ := w1.hold (a := d) (by rw [upd_ne hda]; exact h1) (by rw [upd_ne hda]; exact h2) h3 h4
          exact ⟨_, s1.trans s2, w2, a, some d, vs, rfl, hl, s2 _ _ upd_same, .inr ⟨d, rfl, by rw [upd_same, efs]⟩, RepL.mono (s1.trans s2) _ rvs⟩
      exact i_t.run ⟨w2, (r.mono s2).on r2 oi, wx0⟩ q ((k.mono (s.trans s2)).off oi)
    · subst hb
      exact i_l.run (k.mono s) (hw.mono s) C fds od fs G' H' M' ρ σ (Same.refl _) w r x rk q
def aMix (K : PySem.W.Frag) (b : AS) (al : List (Value × Option Nat × AS)) : AS := fun AW D ρ M => b (aWMix K AW D al) D ρ M
def aMix0 (K : PySem.W.Frag) (b : AS) (al : List (Value × Option Nat × AS)) : AS := fun _ D ρ M => b (aWMix K AW0 D al) D ρ M
section
variable {W : WX}
instance rs_mix {K : PySem.W.Frag} {tb : WX → TS} {b : AS} {l : List (Value × Option Nat × TS)} {al : List (Value × Option Nat × AS)} [i_b : ∀ W' : WX, RS W' (tb W') b] [i_l : RHs l al] : RS W (tMix K W tb l) (aMix K b al) where
  run c h k := (i_b _).run ⟨c.wo, c.rs, i_l.run k c.wx⟩ h k
instance rs_mix0 {K : PySem.W.Frag} {tb : WX → TS} {b : AS} {l : List (Value × Option Nat × TS)} {al : List (Value × Option Nat × AS)} [i_b : ∀ W' : WX, RS W' (tb W') b] [i_l : RHs l al] : RS W (tMix K W0 tb l) (aMix0 K b al) where
  run c h k := (i_b _).run ⟨c.wo, c.rs, i_l.run k wx0⟩ h k
/-- a field of a caught error -/
def aXfR (K : PySem.W.Frag) (n : Str) (a : AE) : AE := fun AW ρ M Q => a AW ρ M fun d M1 => match d with
  | .err C fs ds => XfC K C ∧ PySem.W.findIn K (.ref C) n = some none ∧ ∃ x, (fs.zip ds).lookup n = some x ∧ Q x M1
  | _ => False
instance re_xfR {K : PySem.W.Frag} {n : Str} {t : TE} {a : AE} [i_t : RE W t a] : RE W (tXfR K n t) (aXfR K n a) where
  run c h k := i_t.run c h fun v d G1 H1 M1 s1 w1 r1 h1 => by
    match d, h1 with
    | .err C fs ds, h1 =>
      obtain ⟨T, hno, x, hl, q⟩ := h1
      obtain ⟨p, od, vs, rfl, l, g1, g2, g3⟩ := r1
      rcases g2 with ⟨rfl, e⟩ | ⟨d, rfl, g2⟩
      · subst e; cases hl
      · rcases (RepK.zip (ks := fs) g3).look n with ⟨z, _⟩ | ⟨d', z, z1, z2, z3⟩
        · rw [hl] at z; cases z
        · rw [hl] at z1; cases z1
          exact ⟨C, p, d, _, z, T, hno, rfl, w1.gh _ _ g1, w1.gh _ _ g2, z2, k _ _ _ _ _ s1 w1 z3 q⟩
end
/-! a condition that is decided -/
theorem ifB_d {c : Prop} [Decidable c] {A B : Prop} (h1 : c → A) (h2 : ¬ c → B) : ifB (decide c) A B := by
  by_cases h : c
  · rw [decide_eq_true h]; exact h1 h
  · rw [decide_eq_false h]; exact h2 h
theorem ifB_n {c : Prop} [Decidable c] {A B : Prop} (h1 : ¬ c → A) (h2 : c → B) : ifB (!decide c) A B := by
  by_cases h : c
  · rw [decide_eq_true h]; exact h2 h
  · rw [decide_eq_false h]; exact h1 h
def fMSplit : Str → PD → MH → AK → Prop := fun z d M Q => match d with
  | .val (.str b) => (b.length == 0) = false ∧ z.length + 2 ≤ sizeLine ∧ ∀ p, M p = none → Q (.ptr p) (mset M p (.lst ((Txt.split z b).map PD.str)))
  | _ => False
instance re_msplit {W : WX} {to te : TE} {a b : AE} [i_to : RE W to a] [i_te : RE W te b] : RE W (tMut (tM1 vSplit to te)) (aM1 fMSplit a b) where
  run {G H O M σ ρ AW Q AQ} c h k := i_to.run c h fun v d G1 H1 M1 s1 w1 r1 h1 => by
    match d, h1 with
    | .val (.str z), h1 =>
      have r1 : v = .str z := r1
      subst r1
      refine ⟨⟨z, rfl⟩, i_te.run (c.next s1 w1) h1 fun y dy G2 H2 M2 s2 w2 r2 h2 => ?_⟩
      match dy, h2 with
      | .val (.str b), h2 =>
        have r2 : y = .str b := r2
        subst r2
        exact ⟨z, b, rfl, rfl, h2.1, h2.2.1, mut_lst w2 (RepL.ofStrs _) (k.mono (s1.trans s2)) h2.2.2⟩
/-! a def that is called in a suite -/
theorem body_ofW {t : TS} {as_ : AS} (i : RS W0 t as_) {A : ASp} {vs : List V} {H : Hp} {Q : VK} {N : List Str} (h : conc A vs H Q E0)
    (hA : ∀ (ds : List PD) (M : MH) (AQ : AK) (AX : AXK), A ds M AQ AX → as_ AW0 { nx := fun _ M' => AQ .non M', rt := AQ } (astart N ds) M) : t { nx := fun _ H' => Q .non H', rt := Q } (L2.start N vs) H := body_of i h hA
end OA

/-! ### plain readings: tuple + tuple, max, min, in of data -/
namespace OA
open PySem PySem.Spec PyProof.Rows L2
theorem o_catT {X : Cx} (K : PySem.W.Frag) (h : X.K = K := by rfl) : OpR X (binaryOp .Add) (rCatT K) := by subst h; exact op_catT
def fCatT : AOp := fun x y M Q => match x, y with
  | .tup ds, .tup es => ds ≠ [] ∧ ds.length + es.length ≤ sizeLine ∧ Q (.tup (ds ++ es)) M
  | _, _ => False
instance rop_catT {K : PySem.W.Frag} : ROp (rCatT K) fCatT where
  run {G H O M x y dx dy Q AQ} w rx ry q k := by
    match dx, dy, q with
    | .tup ds, .tup es, q =>
      obtain ⟨ne, l, q⟩ := q
      obtain ⟨a, us, rfl, g1, g2⟩ := rx
      obtain ⟨b, vs, rfl, k1, k2⟩ := ry
      refine ⟨a, b, us, vs, rfl, rfl, SqT.of (w.gh _ _ g1), SqT.of (w.gh _ _ k1), fun z => ne ?_, by rw [g2.len, k2.len]; exact l, fun e => ?_, fun _ => new_tup w (g2.app k2) k q⟩
      · have := g2.len
        rw [z] at this
        exact List.length_eq_zero_iff.mp this.symm
      · have e2 : es = [] := by
          have := k2.len
          rw [e] at this
          exact List.length_eq_zero_iff.mp this.symm
        subst e2
        rw [List.append_nil] at q
        exact k _ (.tup ds) _ _ _ (Same.refl _) w ⟨a, us, rfl, g1, g2⟩ q
def vMax2 : List V → Hp → VK → Prop := fun xs H Q => ∃ i j, xs = [.int i, .int j] ∧ Q (.int (if j > i then j else i)) H
def vMin2 : List V → Hp → VK → Prop := fun xs H Q => ∃ i j, xs = [.int i, .int j] ∧ Q (.int (if j < i then j else i)) H
theorem c_max2 {X : Cx} (hc : X.calm = true := by rfl) : CallR X (.builtin "max") vMax2 := call_max2 hc
theorem c_min2 {X : Cx} (hc : X.calm = true := by rfl) : CallR X (.builtin "min") vMin2 := call_min2 hc
def fInt2 (f : Int → Int → Int) : ACl := fun ds M Q => match ds with
  | [.val (.int i), .val (.int j)] => Q (.int (f i j)) M
  | _ => False
theorem rcl_int2 {r : List V → Hp → VK → Prop} {f : Int → Int → Int} (hr : ∀ i j H Q, Q (.int (f i j)) H → r [.int i, .int j] H Q) : RCl r (fInt2 f) where
  run {G H O M vs ds Q AQ} w r q k := by
    match ds, q with
    | [.val (.int i), .val (.int j)], q =>
      obtain ⟨v, u, rfl, h1, h2⟩ := rep2 r
      have h1 : v = .int i := h1
      have h2 : u = .int j := h2
      subst h1 h2
      exact hr _ _ _ _ (k _ (.val _) G H M (Same.refl _) w rfl q)
instance rcl_max2 : RCl vMax2 (fInt2 fun i j => if j > i then j else i) := rcl_int2 fun i j _ _ q => ⟨i, j, rfl, q⟩
instance rcl_min2 : RCl vMin2 (fInt2 fun i j => if j < i then j else i) := rcl_int2 fun i j _ _ q => ⟨i, j, rfl, q⟩
def fInD : AOp := fun x y M Q => ∃ p ps, PyD M x p ∧ PyD M y (.list ps) ∧ SeqAt.shaped p = true ∧ SeqAt.shaped (.list ps) = true ∧ Q (.bl (ps.any fun z => PyData.eqv z p)) M
instance rop_inD {K : PySem.W.Frag} : ROp (rInD K) fInD where
  run {G H O M x y dx dy Q AQ} w rx ry h k := by
    obtain ⟨p, q, h1, h2, s1, s2, h⟩ := h
    exact ⟨p, q, h1.dp w rx, h2.dp w ry, s1, s2, k _ (.val _) G H M (Same.refl _) w rfl h⟩
end OA

/-! ### str.replace of written texts: a token is out behind a written text -/
namespace OA
open PySem PySem.Spec PyProof.Rows L2
section
variable {X : Cx} {e a b : Expr} {es : List Expr} {te ta tb : TE} {tas : TA}
def PE1 (X : Cx) (e : Expr) (t : TE) : Prop := ∀ (pins : List (Addr × Obj)) (s : Shared) (σ : L2.St) (H : Hp) (Q : VK), Inv X pins σ H s → t σ H Q → wpAny (model X.prog X.w) X.A (eval e X.env) (fun v s' => 1 ≤ s'.toks ∧ EP X pins σ Q v s') X.xe s
theorem PE1.str {x : Str} {j : Nat} {pos : Pos} : PE1 X (.Constant (.str x) j pos) (tC (.str x)) := fun pins s σ H Q I h => Calls.Constant_str ⟨Nat.le_add_left _ _, .str x, H, I.tok _, ⟨_, rfl⟩, h⟩
theorem PE1.opr {op : Operator} {r : R2} {pos : Pos} (ho : OpR X (binaryOp op) r) (ha : PE X a ta) (hb : PE1 X b tb) : PE1 X (.BinOp a op b pos) (tOp r ta tb) := by
  intro pins s σ H Q I h
  refine wpAny_BinOp (thn (ha.run pins s σ H _ I h) fun v s1 ⟨x, H1, I1, r1, q1⟩ => ?_)
  refine wpAny_mono (hb pins s1 σ H1 _ I1 q1) (fun u s2 ⟨hk, y, H2, I2, r2, q2⟩ => ?_) fun _ _ z => z
  exact wpAny_mono (PySem.wpAny_toks_of hk (ho pins s2 σ H2 x y v u Q I2 r1 r2 q2)) (fun v s3 q => q) fun _ _ z => z.2
theorem PE1.opl {op : Operator} {r : R2} {pos : Pos} (ho : OpR X (binaryOp op) r) (ha : PE1 X a ta) (hb : PE X b tb) : PE1 X (.BinOp a op b pos) (tOp r ta tb) := by
  intro pins s σ H Q I h
  refine wpAny_BinOp (wpAny_mono (ha pins s σ H _ I h) (fun v s1 ⟨hk, x, H1, I1, r1, q1⟩ => ?_) fun _ _ z => z)
  refine wpAny_mono (PySem.wpAny_toks_of hk (hb.run pins s1 σ H1 _ I1 q1)) (fun u s2 ⟨hk, y, H2, I2, r2, q2⟩ => ?_) fun _ _ z => z.2
  exact wpAny_mono (PySem.wpAny_toks_of hk (ho pins s2 σ H2 x y v u Q I2 r1 r2 q2)) (fun v s3 q => q) fun _ _ z => z.2
theorem pa_tok1 (ha : PE1 X e te) (hr : PAT X es tas) (hs : starEach (e :: es) X.env = (false, eval e X.env) :: starEach es X.env := by rfl) : PA X (e :: es) (tCons te tas) := by
  refine ⟨fun pos pins s σ H Q I h => ?_⟩
  rw [hs]
  show wpAny _ _ (spliced ((false, eval e X.env) :: backTo pos (starEach es X.env))) _ _ s
  refine Calls.spliced_cons (wpAny_mono (ha pins s σ H _ I h) (fun u s1 ⟨hk, x, H1, I1, r1, q1⟩ => ?_) fun _ _ z => z)
  exact thn (hr pos pins s1 σ H1 _ hk I1 q1) fun us s2 ⟨xs, H2, I2, r2, q2⟩ => ⟨x :: xs, H2, I2, .cons r1 r2, q2⟩
theorem pat_consP (ha : PE X e te) (hr : PAT X es tas) (hs : starEach (e :: es) X.env = (false, eval e X.env) :: starEach es X.env := by rfl) : PAT X (e :: es) (tCons te tas) := pat_cons (fun pins s σ H Q _ I q => ha.run pins s σ H Q I q) hr hs
theorem pat_of (h : PA X es tas) : PAT X es tas := fun pos pins s σ H Q _ I q => h.run pos pins s σ H Q I q
def vUpper : V → List V → Hp → VK → Prop := fun x xs H Q => ∃ a, x = .str a ∧ xs = [] ∧ a.length ≤ 5592405 ∧ Q (.str (Txt.upper a)) H
theorem e_upper {o : Expr} {to : TE} {apos pos : Pos} (ho : PE X o to) (hbase : attributeBase o "upper" X.env (eval o X.env) = eval o X.env := by rfl) (hline : (apos.endLine == pos.line) = true := by rfl) :
    PE X (.Call (.Attribute o "upper" apos) [] [] pos) (tM0 vUpper to) := pe_upper ho hbase hline
theorem g_lst (K : PySem.W.Frag) {k : Nat} {t : TGs} {n : Nat} {pos : Pos} (hc : X.calm = true) (hg : PGs X es t) (hn : (assignEach es X.env).length = n := by rfl) (hst : (assignEach es X.env).findIdx? (·.1) = none := by rfl) (h : X.K = K := by rfl) : PG X (.Tuple es k pos) (gLst K n t) := by
  subst h
  exact pg_lst hc hg hn hst
end
end OA

/-! ### plain readings: str.replace, str.upper, a written dict -/
namespace OA
open PySem PySem.Spec PyProof.Rows L2
section
variable {W : WX}
def aRepl (a : AE) (y z : Str) : AE := fun AW ρ M Q => a AW ρ M fun d M1 => match d with
  | .val (.str x) => x.length + (x.length + 1) * z.length ≤ 16777216 ∧ Q (.str (Txt.replace x y z)) M1
  | _ => False
instance re_repl {to : TE} {a : AE} {y z : Str} [i_to : RE W to a] : RE W (CwR.tReplC to y z) (aRepl a y z) where
  run c h k := i_to.run c h fun v d G1 H1 M1 s1 w1 r1 h1 => by
    match d, h1 with
    | .val (.str x), h1 =>
      have r1 : v = .str x := r1
      exact ⟨x, r1, h1.1, k _ (.val _) _ _ _ s1 w1 rfl h1.2⟩
def aUpper (a : AE) : AE := fun AW ρ M Q => a AW ρ M fun d M1 => match d with
  | .val (.str x) => x.length ≤ 5592405 ∧ Q (.str (Txt.upper x)) M1
  | _ => False
instance re_upper {to : TE} {a : AE} [i_to : RE W to a] : RE W (tM0 vUpper to) (aUpper a) where
  run c h k := i_to.run c h fun v d G1 H1 M1 s1 w1 r1 h1 => by
    match d, h1 with
    | .val (.str x), h1 =>
      have r1 : v = .str x := r1
      exact ⟨⟨x, r1⟩, x, r1, rfl, h1.1, k _ (.val _) _ _ _ s1 w1 rfl h1.2⟩
/-! a written dict -/
abbrev APs := AWX → AEnv → MH → (List (PD × PD) → MH → Prop) → Prop
def aPs0 : APs := fun _ _ M Q => Q [] M
def aPsC (a b : AE) (r : APs) : APs := fun AW ρ M Q => a AW ρ M fun x M1 => b AW ρ M1 fun y M2 => r AW ρ M2 fun ps M3 => Q ((x, y) :: ps) M3
def RepP (G : Hp) (kds : List (PD × PD)) (ps : List (V × V)) : Prop := Paired (fun p q => Rep G p.1 q.1 ∧ Rep G p.2 q.2) kds ps
class RPs (W : WX) (trs : List (TE × TE)) (ap : outParam APs) : Prop where
  run : ∀ {G H O : Hp} {M : MH} {σ : L2.St} {ρ : AEnv} {AW : AWX} {Q : List (V × V) → Hp → Prop} {AQ : List (PD × PD) → MH → Prop}, Cz W G H O M σ ρ AW → ap AW ρ M AQ →
    (∀ (ps : List (V × V)) (kds : List (PD × PD)) (G' H' : Hp) (M' : MH), Same G G' → Wo G' H' M' O → RepP G' kds ps → AQ kds M' → Q ps H') → tPairs trs σ H Q
instance rps_nil : RPs W [] aPs0 where
  run c h k := k [] [] _ _ _ (Same.refl _) c.wo .nil h
instance rps_cons {tk tv : TE} {r : List (TE × TE)} {a b : AE} {p : APs} [i_k : RE W tk a] [i_v : RE W tv b] [i_r : RPs W r p] : RPs W ((tk, tv) :: r) (aPsC a b p) where
  run c h k := i_k.run c h fun x dx G1 H1 M1 s1 w1 r1 h1 => i_v.run (c.next s1 w1) h1 fun y dy G2 H2 M2 s2 w2 r2 h2 => i_r.run ((c.next s1 w1).next s2 w2) h2 fun ps kds G3 H3 M3 s3 w3 r3 h3 =>
    k _ _ _ _ _ (s1.trans (s2.trans s3)) w3 (.cons ⟨Rep.mono (s2.trans s3) dx r1, Rep.mono s3 dy r2⟩ r3) h3
def kvOf : List (PD × PD) → Option (List (Key × PD))
  | [] => some []
  | p :: ps => match keyOf p.1, kvOf ps with
    | some k, some r => some ((k, p.2) :: r)
    | _, _ => none
theorem kv_at {G : Hp} : ∀ {kds : List (PD × PD)} {kvD : List (Key × PD)} {ps : List (V × V)}, kvOf kds = some kvD → RepP G kds ps → ∃ kvs : List (Key × V), ps = kvs.map (fun kv => (kV kv.1, kv.2)) ∧ RepK G kvD kvs ∧ kvs.length = kvD.length
  | [], kvD, ps, h, r => by cases h; cases r; exact ⟨[], rfl, .nil, rfl⟩
  | p :: kds, kvD, ps, h, r => by
    cases r with
    | @cons _ q _ qs h1 h2 =>
      unfold kvOf at h
      cases e1 : keyOf p.1 with
      | none => rw [e1] at h; cases h
      | some k =>
        cases e2 : kvOf kds with
        | none => rw [e1, e2] at h; cases h
        | some r =>
          rw [e1, e2] at h
          cases h
          obtain ⟨kvs, rfl, rk, l⟩ := kv_at e2 h2
          refine ⟨(k, q.2) :: kvs, ?_, .cons ⟨rfl, h1.2⟩ rk, by rw [List.length_cons, List.length_cons, l]⟩
          rw [List.map_cons, ← key_at h1.1 e1]
def mergeD (acc more : List (Key × PD)) : List (Key × PD) := more.foldl (fun a kv => putD a kv.1 kv.2) acc
theorem RepK.merge {G : Hp} {more : List (Key × PD)} {more' : List (Key × V)} (h : RepK G more more') : ∀ {a : List (Key × PD)} {b : List (Key × V)}, RepK G a b → RepK G (mergeD a more) (mergeK b more') := by
  induction h with
  | nil => intro a b r; exact r
  | @cons p q ps qs h1 h2 ih =>
    intro a b r
    show RepK G (mergeD (putD a p.1 p.2) ps) (mergeK (putK b q.1 q.2) qs)
    have := r.put (k := p.1) h1.2
    rw [h1.1] at this ⊢
    exact ih this
theorem Wo.unguard {G H O : Hp} {M : MH} {p : Addr} {o0 : HO} (w : Wo G H M (upd O p o0)) (np : O p = none) (o : HO) : Wo (upd G p o) (upd H p o) M O ∧ Same G (upd G p o) := by
  have gp : G p = none := w.og p _ upd_same
  have s : Same G (upd G p o) := Same.lay gp o
  refine ⟨⟨fun b u e => ?_, fun b u e => ?_, fun b u e => ?_, fun b n e => ?_⟩, s⟩
  · by_cases hb : b = p
    · subst hb; rw [upd_same] at e ⊢; exact e
    · rw [upd_ne hb] at e ⊢; exact w.gh b u e
  · have hb : b ≠ p := fun z => by rw [z, np] at e; cases e
    rw [upd_ne hb]
    exact w.oh b u (by rw [upd_ne hb]; exact e)
  · have hb : b ≠ p := fun z => by rw [z, np] at e; cases e
    rw [upd_ne hb]
    exact w.og b u (by rw [upd_ne hb]; exact e)
  · obtain ⟨u, k1, k2, k3, k4⟩ := w.mu b n e
    have hb : b ≠ p := fun z => by rw [z, upd_same] at k3; cases k3
    rw [upd_ne hb] at k3
    exact ⟨u, by rw [upd_ne hb]; exact k1, by rw [upd_ne hb]; exact k2, k3, k4.mono s⟩
def aDisp (p : APs) : AE := fun AW ρ M Q => p AW ρ M fun kds M1 => ∃ kvs, kvOf kds = some kvs ∧ kvs.length ≤ 15 ∧ Q (.dK ((mergeD [] kvs).map (·.1)) ((mergeD [] kvs).map (·.2))) M1
instance re_disp {trs : List (TE × TE)} {ap : APs} [i : RPs W trs ap] : RE W (tDisp trs) (aDisp ap) where
  run {G H O M σ ρ AW Q AQ} c h k := fun p np => by
    have w0 := c.wo
    have nO := w0.oh.free np
    have w1 : Wo G (upd H p (.dK [])) M (upd O p (.dK [])) := (w0.same (same_loc (Same.refl H) np (.dK []))).guard upd_same (w0.gh.free np) (w0.fresh np) nO
    have sO : Same O (upd O p (.dK [])) := Same.lay nO _
    have wx : WXr G (upd O p (.dK [])) W AW := fun C fds od fs G' H' M' ρ σ s w r xd rk aw => c.wx C fds od fs G' H' M' ρ σ s (w.less sO) r (xd.imp id fun ⟨d, e1, e2, e3, e4, e5⟩ => ⟨d, e1, e2, e3, sO.free e4, e5⟩) rk aw
    exact i.run ⟨w1, c.rs, wx⟩ h fun ps kds G' H' M' s w r ⟨kvs, e, l, q⟩ => by
      obtain ⟨kvV, rfl, rk, ln⟩ := kv_at e r
      refine ⟨w.oh p _ upd_same, kvV, rfl, by rw [ln]; exact l, ?_⟩
      obtain ⟨w2, s2⟩ := w.unguard nO (.dK (mergeK [] kvV))
      have rm := (RepK.merge rk (a := []) (b := []) .nil).mono s2
      obtain ⟨vs, e2, r2⟩ := RepK.unzip rm
      exact k _ _ _ _ _ (s.trans s2) w2 (show Rep _ (.dK _ _) _ from ⟨p, vs, rfl, by rw [List.length_map, List.length_map], by rw [upd_same, e2], r2⟩) q
def aDGet2 (a b d : AE) : AE := fun AW ρ M Q => a AW ρ M fun x M1 => ((∃ kvs, dkOf M1 x = some kvs) ∨ ∃ kvs, dtOf M1 x = some kvs) ∧ b AW ρ M1 fun y M2 => d AW ρ M2 fun z M3 => ∃ o, dGet M3 x y o ∧ Q (o.getD z) M3
instance re_dget2 {td ty tx : TE} {a b d : AE} [i_td : RE W td a] [i_ty : RE W ty b] [i_tx : RE W tx d] : RE W (tDGet2 td ty tx) (aDGet2 a b d) where
  run c h k := i_td.run c h fun x dx _ _ _ s1 w1 r1 h1 => by
    obtain ⟨hd, h1⟩ := h1
    obtain ⟨p, rfl, hI⟩ : ∃ p, x = .ref p ∧ IsD _ p := by
      rcases hd with ⟨kvs, e⟩ | ⟨kvs, e⟩
      · obtain ⟨p, us, e1, g1, _⟩ := dk_at w1 r1 e; exact ⟨p, e1, .inl ⟨us, .inl g1⟩⟩
      · obtain ⟨p, us, e1, g1, _⟩ := dt_at w1 r1 e; exact ⟨p, e1, .inr ⟨us, .inl g1⟩⟩
    refine ⟨p, rfl, hI, i_ty.run (c.next s1 w1) h1 fun y dy _ _ _ s2 w2 r2 h2 => i_tx.run ((c.next s1 w1).next s2 w2) h2 fun z dz _ _ _ s3 w3 r3 h3 => ?_⟩
    obtain ⟨o, h3, q⟩ := h3
    obtain ⟨p', o', e1, _, e2, e3⟩ := dget_at w3 (Rep.mono (s2.trans s3) dx r1) (Rep.mono s3 dy r2) h3
    cases e1
    refine ⟨o', e2, ?_⟩
    rcases e3 with ⟨rfl, rfl⟩ | ⟨d', z', rfl, rfl, z3⟩
    · exact k _ _ _ _ _ (s1.trans (s2.trans s3)) w3 r3 q
    · exact k _ _ _ _ _ (s1.trans (s2.trans s3)) w3 z3 q
def aGLst (n : Nat) (gs : AGs) : AG := fun AW d ρ M Q => match d with
  | .lst ds => ds.length = n ∧ gs AW ds ρ M Q
  | _ => False
instance rg_lst {K : PySem.W.Frag} {n : Nat} {gs : TGs} {ags : AGs} {js : List Nat} [i_gs : RGs W gs ags js] : RG W (gLst K n gs) (aGLst n ags) js where
  run {G H O M σ ρ AW Q AQ d v} c r h k := by
    cases d with
    | lst ds =>
      obtain ⟨a, vs, rfl, g1, g2⟩ := r
      exact ⟨a, vs, rfl, SqL.of (c.wo.gh _ _ g1), g2.len.trans h.1, i_gs.run c g2 h.2 k⟩
    | _ => exact h.elim
end
end OA

namespace OA
open PySem L2
def topS (i : Nat) : Stmt := PySem.Challenge.pw_ownersagree_k04_schema_lines_refused.main.body.getD i (.Pass ⟨0, 0, 0, 0⟩)
/-- what the top has left of the built-in names and the constants -/
structure Txt (K : PySem.W.Frag) (mg : Str → Option Value) : Prop where
  n_len : mg "len" = none
  n_abs : mg "abs" = none
  n_int : mg "int" = none
  n_str : mg "str" = none
  n_list : mg "list" = none
  n_tuple : mg "tuple" = none
  n_range : mg "range" = none
  n_isinstance : mg "isinstance" = none
  n_any : mg "any" = none
  n_all : mg "all" = none
  n_sorted : mg "sorted" = none
  n_bool : mg "bool" = none
  n_enumerate : mg "enumerate" = none
  n_max : mg "max" = none
  n_min : mg "min" = none
  n_sum : mg "sum" = none
  n_zip : mg "zip" = none
  n_dict : mg "dict" = none
  c_LETTERS : ∃ t, mg "LETTERS" = some (.str "abcdefghijklmnopqrstuvwxyz" t)
  c_SIGNS : ∃ t, mg "SIGNS" = some (.str "abcdefghijklmnopqrstuvwxyz0123456789" t)
  c_LONGEST_NAME : ∃ t, mg "LONGEST_NAME" = some (.int 12 t)
end OA

/-! ### the errors of the package -/
namespace OA
open PySem PySem.Spec PyProof.Rows L2
structure EA where
  AgreeError : Addr
  BadLine : Addr
  DuplicateName : Addr
  UnknownName : Addr
  WrongTable : Addr
  WrongCount : Addr
  TooMany : Addr
  BadPattern : Addr
  ConstantsMeet : Addr
  OtherPlaces : Addr
  OtherSchema : Addr
  BadValue : Addr
  NoRow : Addr
  Refused : Addr
  Broken : Addr
  BadCase : Addr
  TooManyPatterns : Addr
  BadDerivation : Addr
  NotReachable : Addr
  TooLong : Addr
  NotComparable : Addr
  BadOffer : Addr
structure ErT (K : PySem.W.Frag) (mg : Str → Option Value) (ea : EA) : Prop where
  g_AgreeError : mg "AgreeError" = some (.ref ea.AgreeError)
  g_BadLine : mg "BadLine" = some (.ref ea.BadLine)
  x_BadLine : ExcC K ea.BadLine
  k_BadLine : PySem.W.kitOne K (.ref ea.BadLine) (.ref ea.AgreeError) = some true
  f_BadLine : XfC K ea.BadLine
  n_BadLine_line : PySem.W.findIn K (.ref ea.BadLine) "line" = some none
  g_DuplicateName : mg "DuplicateName" = some (.ref ea.DuplicateName)
  x_DuplicateName : ExcC K ea.DuplicateName
  k_DuplicateName : PySem.W.kitOne K (.ref ea.DuplicateName) (.ref ea.AgreeError) = some true
  f_DuplicateName : XfC K ea.DuplicateName
  n_DuplicateName_line : PySem.W.findIn K (.ref ea.DuplicateName) "line" = some none
  n_DuplicateName_name : PySem.W.findIn K (.ref ea.DuplicateName) "name" = some none
  g_UnknownName : mg "UnknownName" = some (.ref ea.UnknownName)
  x_UnknownName : ExcC K ea.UnknownName
  k_UnknownName : PySem.W.kitOne K (.ref ea.UnknownName) (.ref ea.AgreeError) = some true
  f_UnknownName : XfC K ea.UnknownName
  n_UnknownName_line : PySem.W.findIn K (.ref ea.UnknownName) "line" = some none
  n_UnknownName_name : PySem.W.findIn K (.ref ea.UnknownName) "name" = some none
  g_TooMany : mg "TooMany" = some (.ref ea.TooMany)
  x_TooMany : ExcC K ea.TooMany
  k_TooMany : PySem.W.kitOne K (.ref ea.TooMany) (.ref ea.AgreeError) = some true
  f_TooMany : XfC K ea.TooMany
  n_TooMany_line : PySem.W.findIn K (.ref ea.TooMany) "line" = some none
  e_BadLine_BadLine : PySem.W.exmOne K (.ref ea.BadLine) (.ref ea.BadLine) = some true
  e_BadLine_DuplicateName : PySem.W.exmOne K (.ref ea.BadLine) (.ref ea.DuplicateName) = some false
  e_BadLine_UnknownName : PySem.W.exmOne K (.ref ea.BadLine) (.ref ea.UnknownName) = some false
  e_BadLine_TooMany : PySem.W.exmOne K (.ref ea.BadLine) (.ref ea.TooMany) = some false
  e_DuplicateName_BadLine : PySem.W.exmOne K (.ref ea.DuplicateName) (.ref ea.BadLine) = some false
  e_DuplicateName_DuplicateName : PySem.W.exmOne K (.ref ea.DuplicateName) (.ref ea.DuplicateName) = some true
  e_DuplicateName_UnknownName : PySem.W.exmOne K (.ref ea.DuplicateName) (.ref ea.UnknownName) = some false
  e_DuplicateName_TooMany : PySem.W.exmOne K (.ref ea.DuplicateName) (.ref ea.TooMany) = some false
  e_UnknownName_BadLine : PySem.W.exmOne K (.ref ea.UnknownName) (.ref ea.BadLine) = some false
  e_UnknownName_DuplicateName : PySem.W.exmOne K (.ref ea.UnknownName) (.ref ea.DuplicateName) = some false
  e_UnknownName_UnknownName : PySem.W.exmOne K (.ref ea.UnknownName) (.ref ea.UnknownName) = some true
  e_UnknownName_TooMany : PySem.W.exmOne K (.ref ea.UnknownName) (.ref ea.TooMany) = some false
  e_TooMany_BadLine : PySem.W.exmOne K (.ref ea.TooMany) (.ref ea.BadLine) = some false
  e_TooMany_DuplicateName : PySem.W.exmOne K (.ref ea.TooMany) (.ref ea.DuplicateName) = some false
  e_TooMany_UnknownName : PySem.W.exmOne K (.ref ea.TooMany) (.ref ea.UnknownName) = some false
  e_TooMany_TooMany : PySem.W.exmOne K (.ref ea.TooMany) (.ref ea.TooMany) = some true
structure ErF (K : PySem.W.Frag) (ea : EA) (C : Addr) : Prop where
  x : ExcC K C
  f : XfC K C
  k : PySem.W.kitOne K (.ref C) (.ref ea.AgreeError) = some true
  nl : PySem.W.findIn K (.ref C) "line" = some none
def errD (C : Addr) (i : Int) : Option Str → PD
  | none => .err C ["line"] [.int i]
  | some n => .err C ["name", "line"] [.str n, .int i]
def namedD (wd : Str) (i : Int) : Option Str → PD
  | none => .tup [.str wd, .int i]
  | some n => .tup [.str wd, .int i, .str n]
def isLW (wd : Str) : Bool := decide (wd = Str.ofString "BadLine" ∨ wd = Str.ofString "WrongCount" ∨ wd = Str.ofString "TooMany")
def aNamed (K : PySem.W.Frag) (ea : EA) : ASp := fun ds M Q _ => ∃ (C : Addr) (i : Int) (wd : Str) (o : Option Str), ds = [errD C i o, .str wd] ∧ ErF K ea C ∧ (o.isSome = true → PySem.W.findIn K (.ref C) "name" = some none) ∧ isLW wd = o.isNone ∧ Q (namedD wd i o) M
section
variable {P : Program} {w : World} {K : PySem.W.Frag} {mg : Str → Option Value} {base : Heap}
theorem sc_get_named : FnScope ["_law_error", "_law_word"] ["_law_error", "_law_word"] (defScope (topS 26)) := ⟨rfl, rfl, rfl, by decide +kernel, rfl, by decide +kernel, by decide +kernel⟩
theorem ok_get_named {f : Addr} {fd : FuncData} {ea : EA} (F : Fun K "_law_get_named" "_law_get_named" (topS 26) f fd) (T : Txt K mg) (TE : ErT K mg ea) : FnW P w K mg base 1 f fd ["_law_error", "_law_word"] (conc (aNamed K ea)) := by
  refine fun_okW F sc_get_named (conc_len fun ds M AQ AX h => ?_) (fun cdv A outer s H vs Q h => ⟨_, (pss_cons (ps_if (PW.pt (pw_or (pt_not (pt_val (pe_callB (call_isR K) (by rfl) T.n_isinstance (by decide +kernel) (pa_cons (pv 0) (pa_cons (pe_glob (v := .ref ea.AgreeError) rfl TE.g_AgreeError rfl) pa_nil))))) (pw_or (pt_not (pt_val (pe_callB (call_isR K) (by rfl) T.n_isinstance (by decide +kernel) (pa_cons (pe_xfR K (pv 0)) (pa_cons (pe_bltn (v := .ty "int") rfl T.n_int (by decide +kernel) rfl) pa_nil))))) (pw_or1 (pt_val (pe_callB (call_isR K) (by rfl) T.n_isinstance (by decide +kernel) (pa_cons (pe_xfR K (pv 0)) (pa_cons (pe_bltn (v := .ty "bool") rfl T.n_bool (by decide +kernel) rfl) pa_nil)))))))) (pss_one (ps_ret (pe_tup (pa_cons (pv 1) (pa_cons pe_str pa_nil))))) pss_nil)
      (pss_cons (ps_if (pt_cmpR (o_in K) (pv 1) (pe_tup (pa_cons pe_str (pa_cons pe_str (pa_cons pe_str pa_nil)))) (by rfl)) (pss_one (ps_ret (pe_tup (pa_cons (pv 1) (pa_cons (pe_xfR K (pv 0)) pa_nil))))) pss_nil)
      (pss_one (ps_ret (pe_tup (pa_cons (pv 1) (pa_cons (pe_xfR K (pv 0)) (pa_cons (pe_xfR K (pv 0)) pa_nil)))))))), body_ofW inferInstance h fun ds M AQ AX h => ?_⟩)
  · obtain ⟨C, i, wd, o, rfl, _⟩ := h
    rfl
  · obtain ⟨C, i, wd, o, rfl, EF, hn, hw, q⟩ := h
    have em : decide (wd ∈ [Str.ofString "BadLine", Str.ofString "WrongCount", Str.ofString "TooMany"]) = o.isNone := by
      rw [← hw]
      unfold isLW
      exact decide_eq_decide.mpr (by simp)
    cases o with
    | none =>
      refine ⟨_, _, true, .own _, .err EF.x, EF.k, EF.f, EF.nl, PD.int i, by kernel_rfl, _, _, true, .ty "int", .int, kit_ty (by decide +kernel), EF.f, EF.nl, PD.int i, by kernel_rfl, _, _, false, .ty "bool", .int, kit_ty (by decide +kernel), ?_⟩
      refine ⟨by decide, _, .inr rfl, _, rfl, ifB_T em ?_⟩
      exact ⟨EF.f, EF.nl, PD.int i, by kernel_rfl, sz_le (by simp), q⟩
    | some n =>
      refine ⟨_, _, true, .own _, .err EF.x, EF.k, EF.f, EF.nl, PD.int i, by kernel_rfl, _, _, true, .ty "int", .int, kit_ty (by decide +kernel), EF.f, EF.nl, PD.int i, by kernel_rfl, _, _, false, .ty "bool", .int, kit_ty (by decide +kernel), ?_⟩
      refine ⟨by decide, _, .inr rfl, _, rfl, ifB_F em ?_⟩
      exact ⟨EF.f, EF.nl, PD.int i, by kernel_rfl, EF.f, hn rfl, PD.str n, by kernel_rfl, sz_le (by simp), q⟩
end
end OA

/-! ### the drawing of a law: get_state, draw -/
namespace OA
open PySem PySem.Spec PyProof.Rows L2
/-- draw(st, limit): some number below the limit; only the state changes -/
def spDraw : Sp := fun vs H Q _ => ∃ (G : Hp) (st inn : Addr) (n : Int), vs = [.ref st, .int n] ∧ Same G H ∧ StAt G H st inn ∧ 0 < n ∧ n < 1073741824 ∧
  ∀ (r : Int) (H' : Hp), Stp (F2 st inn) G H G H' → StAt G H' st inn → 0 ≤ r → r < n → Q (.int r) H'
/-- get_state(script) -/
def spState (K : PySem.W.Frag) : Sp := fun vs H Q _ => ∃ (a : Addr) (ns : List Int), vs = [.ref a] ∧ SqL K H a (ns.map V.int) ∧ ns.length ≤ 1000 ∧
  ∀ (st inn : Addr) (H' : Hp), Same H H' → StAt H H' st inn → Q (.ref st) H'
theorem St4.ne {G H : Hp} {st inn : Addr} {cs : List Int} {a b c : Int} (h1 : Cell G H st (.lst [.ref inn, .int a, .int b, .int c])) (h2 : Cell G H inn (.lst (cs.map V.int))) : st ≠ inn := by
  refine ne_of h1.at_ h2.at_ fun z => ?_
  cases cs with
  | nil => cases z
  | cons x xs => cases z
theorem seq0 {α : Type} {x : α} (xs : List α) : seqIndex? 0 (x :: xs).length = some 0 := by
  unfold seqIndex?
  simp
section
variable {P : Program} {w : World} {K : PySem.W.Frag} {mg : Str → Option Value} {base : Heap}
theorem sc_draw : FnScope ["_law_st", "_law_limit", "_law_cell", "_law_digit"] ["_law_st", "_law_limit"] (defScope (topS 32)) := ⟨rfl, rfl, rfl, by decide +kernel, rfl, by decide +kernel, by decide +kernel⟩
set_option maxHeartbeats 8000000 in
theorem ok_draw {f : Addr} {fd : FuncData} (F : Fun K "_law_draw" "_law_draw" (topS 32) f fd) (T : Txt K mg) : FnOk P w K mg base CX0 1 f fd ["_law_st", "_law_limit"] spDraw := by
  refine F.ok sc_draw (fun vs H Q E h => ?_) (fun cdv A outer s H vs Q E hr h => ?_)
  · obtain ⟨G, st, inn, n, rfl, _⟩ := h
    rfl
  · obtain ⟨G, st, inn, n, rfl, gh, S, n0, n1, k⟩ := h
    refine ⟨_, (C8.pss_cut (ps_if (PW.pt (pw_and (pt_cmpR op_eq (pe_ix (ix_lst K) (pv 0) pe_int (fun _ _ => rfl)) pe_int (nomark _)) (pw_and1 (pt_cmpR (o_neD K hr.units) (pe_ix (ix_lst K) (pv 0) pe_int (fun _ _ => rfl)) (pe_lst pa_nil) (nomark _))))) (pss_cons (ps_set (i := 2) sc_draw.nd rfl (Or.inl rfl) (pe_op o_mod (pe_callTy c_int (by rfl) T.n_int (by decide +kernel) (pa_cons (e_bm K PySem.F.plainAttrs_list PySem.F.slot_list_pop PySem.F.type_list_pop mt_popAt (pe_ix (ix_lst K) (pv 0) pe_int (fun _ _ => rfl)) (pa_cons pe_int pa_nil)) pa_nil)) (pe_op op_powW (pe_op o_pow pe_int pe_int) pe_int)))
      (pss_one (ps_if (pt_cmpR o_ge (pv 2) (pe_op o_pow pe_int pe_int) (nomark _)) (pss_one (ps_asg (pv 2) (pg_sub (pv 0) pe_int set_list))) (pss_one (ps_asg (pe_op o_mod (pe_callTy c_int (by rfl) T.n_int (by decide +kernel) (pa_cons (pe_op o_add (pe_op o_add (pe_op o_mul (pe_ix (ix_lst K) (pv 0) pe_int (fun _ _ => rfl)) pe_int) (pe_op o_mul (pv 2) pe_int)) pe_int) pa_nil)) pe_int) (pg_sub (pv 0) pe_int set_list)))))) pss_nil)
      (pss_cons (ps_if (pt_cmpR o_gt (pe_ix (ix_lst K) (pv 0) pe_int (fun _ _ => rfl)) pe_int (nomark _)) (pss_cons (ps_set (i := 3) sc_draw.nd rfl (Or.inl rfl) (pe_op o_mod (pe_callTy c_int (by rfl) T.n_int (by decide +kernel) (pa_cons (pe_ix (ix_lst K) (pv 0) pe_int (fun _ _ => rfl)) pa_nil)) (pv 1)))
      (pss_cons (ps_asg (pe_op o_fdiv (pe_ix (ix_lst K) (pv 0) pe_int (fun _ _ => rfl)) (pv 1)) (pg_sub (pv 0) pe_int set_list))
      (pss_one (ps_ret (pv 3))))) pss_nil)
      (pss_cons (ps_asg (pe_op o_add (pe_ix (ix_lst K) (pv 0) pe_int (fun _ _ => rfl)) pe_int) (pg_sub (pv 0) pe_int set_list))
      (pss_cons (ps_asg (pe_op o_mod (pe_callTy c_int (by rfl) T.n_int (by decide +kernel) (pa_cons (pe_op o_add (pe_op o_mul (pe_ix (ix_lst K) (pv 0) pe_int (fun _ _ => rfl)) pe_int) (pe_op o_mul (pe_ix (ix_lst K) (pv 0) pe_int (fun _ _ => rfl)) pe_int)) pa_nil)) pe_int) (pg_sub (pv 0) pe_int set_list))
      (pss_one (ps_ret (pe_op o_mod (pe_op o_mod (pe_callTy c_int (by rfl) T.n_int (by decide +kernel) (pa_cons (pe_op o_add (pe_op o_mul (pe_ix (ix_lst K) (pv 0) pe_int (fun _ _ => rfl)) pe_int) (pe_ix (ix_lst K) (pv 0) pe_int (fun _ _ => rfl))) pa_nil)) pe_int) (pv 1)))))))), ?_⟩
    refine ⟨fun σ H1 => ∃ x, σ = [some (.ref st), some (.int n), x, none] ∧ Stp (F2 st inn) G H G H1 ∧ StAt G H1 st inn, ?_, ?_⟩
    · obtain ⟨cs, a, b, c, h1, h2, hc, ha, hb, hd⟩ := S
      have ne := St4.ne h1 h2
      refine ⟨_, rfl, _, _, _, _, rfl, rfl, SqL.of h1.at_, rfl, rfl, _, rfl, ?_⟩
      refine ite2 (fun _ => ?_) (fun _ => ⟨none, rfl, Stp.refl gh, ⟨cs, a, b, c, h1, h2, hc, ha, hb, hd⟩⟩)
      refine ⟨_, rfl, _, _, _, _, rfl, rfl, SqL.of h1.at_, rfl, (by decide), fun p hp => ?_⟩
      have sp : Stp (F2 st inn) G H G (upd H p (.lst [])) := Stp.put gh hp _
      have off := StAt.off ⟨cs, a, b, c, h1, h2, hc, ha, hb, hd⟩ hp
      have k1 := h1.off (q := p) (fun e => off (.inl e.symm)) (.lst [])
      have k2 := h2.off (q := p) (fun e => off (.inr e.symm)) (.lst [])
      refine ⟨dI cs, .list [], .lst (SqL.of k2.at_) (dp_ints cs), .lst (SqL.of upd_same) .nil, sh_ints, rfl, _, rfl, ?_⟩
      rw [eqv_ints0]
      cases cs with
      | nil => exact iteF ⟨none, rfl, sp, ⟨[], a, b, c, k1, k2, hc, ha, hb, hd⟩⟩
      | cons x cs =>
        refine iteT ?_
        have hx : 0 ≤ x := hc x List.mem_cons_self
        have hc' : ∀ y ∈ cs, 0 ≤ y := fun y hy => hc y (List.mem_cons_of_mem _ hy)
        refine ⟨_, rfl, _, _, _, _, rfl, rfl, SqL.of k1.at_, rfl, Or.inl ⟨rfl, _, SqL.of k2.at_⟩, inn, _, 0, 0, .int x, rfl, rfl, k2.at_, (by decide), (by decide), seq0 _, rfl, .inl ⟨_, rfl, _, _, rfl, rfl, ⟨by decide, by decide, by decide⟩, _, _, rfl, rfl, ⟨by decide, by decide +kernel, by decide +kernel⟩, _, _, rfl, rfl, (by show (0 : Int) < ((10 : Int) ^ (50 : Int).toNat) ^ (8 : Int).toNat; decide +kernel), ?_⟩⟩
        have hm : 0 ≤ x % ((10 : Int) ^ (50 : Int).toNat) ^ (8 : Int).toNat := Int.emod_nonneg _ (by decide +kernel)
        generalize x % ((10 : Int) ^ (50 : Int).toNat) ^ (8 : Int).toNat = y at hm
        generalize eH2 : upd (upd H p (.lst [])) inn (.lst (((x :: cs).map V.int).eraseIdx 0)) = H2
        have s2 : Stp (F2 st inn) G H G H2 := by rw [← eH2]; exact sp.trans (Stp.write sp.gh k2 (.inr rfl) _)
        have j1 : Cell G H2 st (.lst [.ref inn, .int a, .int b, .int c]) := by rw [← eH2]; exact k1.off ne _
        have j2 : Cell G H2 inn (.lst (cs.map V.int)) := by rw [← eH2]; exact k2.set _
        refine ⟨_, rfl, _, _, rfl, rfl, ⟨by decide, by decide, by decide⟩, _, _, rfl, rfl, _, rfl, ?_⟩
        refine ite2 (fun _ => ?_) (fun _ => ?_)
        · refine ⟨_, rfl, _, rfl, st, _, 1, 1, rfl, rfl, j1.at_, rfl, ?_⟩
          exact ⟨_, rfl, s2.trans (Stp.write s2.gh j1 (.inl rfl) _), ⟨cs, y, b, c, j1.set _, j2.off ne.symm _, hc', hm, hb, hd⟩⟩
        · refine ⟨_, rfl, _, _, _, _, rfl, rfl, SqL.of j1.at_, rfl, _, _, rfl, rfl, .inr ⟨by decide, by decide⟩, _, rfl, _, _, rfl, rfl, .inr ⟨by decide, by decide⟩, _, _, rfl, rfl, _, _, rfl, rfl, .inl ⟨_, rfl, _, _, rfl, rfl, (by show (0 : Int) < 2147483647; decide), ?_⟩⟩
          refine ⟨_, rfl, st, _, 2, 2, rfl, rfl, j1.at_, rfl, ?_⟩
          exact ⟨_, rfl, s2.trans (Stp.write s2.gh j1 (.inl rfl) _), ⟨cs, a, _, c, j1.set _, j2.off ne.symm _, hc', ha, Int.emod_nonneg _ (by decide), hd⟩⟩
    · rintro σ H1 ⟨x, rfl, s1, cs, a, b, c, h1, h2, hc, ha, hb, hd⟩
      have ne := St4.ne h1 h2
      refine ⟨_, rfl, _, _, _, _, rfl, rfl, SqL.of h1.at_, rfl, _, _, rfl, rfl, _, rfl, ?_⟩
      refine ite2 (fun _ => ?_) (fun _ => ?_)
      · refine ⟨_, rfl, _, _, _, _, rfl, rfl, SqL.of h1.at_, rfl, .inl ⟨_, rfl, _, rfl, _, _, rfl, rfl, n0, ?_⟩⟩
        refine ⟨_, rfl, _, _, _, _, rfl, rfl, SqL.of h1.at_, rfl, _, rfl, _, _, rfl, rfl, ⟨n0, n1⟩, _, rfl, st, _, 1, 1, rfl, rfl, h1.at_, rfl, ?_⟩
        refine ⟨_, rfl, ?_⟩
        exact k _ _ (s1.trans (Stp.write s1.gh h1 (.inl rfl) _)) ⟨cs, _, b, c, h1.set _, h2.off ne.symm _, hc, Int.ediv_nonneg ha (Int.le_of_lt n0), hb, hd⟩ (Int.emod_nonneg _ (by omega)) (Int.emod_lt_of_pos _ n0)
      · refine ⟨_, rfl, _, _, _, _, rfl, rfl, SqL.of h1.at_, rfl, _, _, rfl, rfl, _, rfl, st, _, 3, 3, rfl, rfl, h1.at_, rfl, ?_⟩
        generalize eH2 : upd H1 st (.lst (([.ref inn, .int a, .int b, .int c] : List V).set 3 (.int (c + 1)))) = H2
        have s2 : Stp (F2 st inn) G H G H2 := by rw [← eH2]; exact s1.trans (Stp.write s1.gh h1 (.inl rfl) _)
        have j1 : Cell G H2 st (.lst [.ref inn, .int a, .int b, .int (c + 1)]) := by rw [← eH2]; exact h1.set _
        have j2 : Cell G H2 inn (.lst (cs.map V.int)) := by rw [← eH2]; exact h2.off ne.symm _
        refine ⟨_, rfl, _, _, _, _, rfl, rfl, SqL.of j1.at_, rfl, _, _, rfl, rfl, .inr ⟨by decide, by decide⟩, _, rfl, _, _, _, _, rfl, rfl, SqL.of j1.at_, rfl, _, _, rfl, rfl, .inr ⟨by decide, by decide⟩, _, _, rfl, rfl, .inl ⟨_, rfl, _, _, rfl, rfl, (by show (0 : Int) < 2147483647; decide), ?_⟩⟩
        refine ⟨_, rfl, st, _, 2, 2, rfl, rfl, j1.at_, rfl, ?_⟩
        generalize hz : (b * 48271 + (c + 1) * 69621) % 2147483647 = z
        have z0 : 0 ≤ z := by rw [← hz]; exact Int.emod_nonneg _ (by decide)
        generalize eH3 : upd H2 st (.lst (([.ref inn, .int a, .int b, .int (c + 1)] : List V).set 2 (.int z))) = H3
        have s3 : Stp (F2 st inn) G H G H3 := by rw [← eH3]; exact s2.trans (Stp.write s2.gh j1 (.inl rfl) _)
        have l1 : Cell G H3 st (.lst [.ref inn, .int a, .int z, .int (c + 1)]) := by rw [← eH3]; exact j1.set _
        have l2 : Cell G H3 inn (.lst (cs.map V.int)) := by rw [← eH3]; exact j2.off ne.symm _
        refine ⟨_, rfl, _, _, _, _, rfl, rfl, SqL.of l1.at_, rfl, _, _, rfl, rfl, .inr ⟨by decide, by decide⟩, _, rfl, _, _, _, _, rfl, rfl, SqL.of l1.at_, rfl, _, _, rfl, rfl, .inl ⟨_, rfl, _, _, rfl, rfl, (by show (0 : Int) < 2147483629; decide), _, rfl, _, _, rfl, rfl, n0, ?_⟩⟩
        exact k _ _ s3 ⟨cs, a, z, c + 1, l1, l2, hc, ha, z0, by omega⟩ (Int.emod_nonneg _ (by omega)) (Int.emod_lt_of_pos _ n0)
end
end OA

namespace OA
open PySem PySem.Spec PyProof.Rows L2
section
variable {P : Program} {w : World} {K : PySem.W.Frag} {mg : Str → Option Value} {base : Heap}
theorem sc_get_state : FnScope ["_law_script", "_law_cell"] ["_law_script"] (defScope (topS 31)) := ⟨rfl, rfl, rfl, by decide +kernel, rfl, by decide +kernel, by decide +kernel⟩
theorem cutV_mem {xs : List V} {lo hi : Option Int} {x : V} (h : x ∈ cutV xs lo hi) : x ∈ xs := List.mem_of_mem_drop (List.mem_of_mem_take h)
theorem cutV_len {xs : List V} {lo hi : Option Int} : (cutV xs lo hi).length ≤ xs.length := by
  unfold cutV
  rw [List.length_take, List.length_drop]
  omega
set_option maxHeartbeats 8000000 in
theorem ok_get_state {f : Addr} {fd : FuncData} (F : Fun K "_law_get_state" "_law_get_state" (topS 31) f fd) (T : Txt K mg) : FnOk P w K mg base CX0 1 f fd ["_law_script"] (spState K) := by
  refine F.ok sc_get_state (fun vs H Q E h => ?_) (fun cdv A outer s H vs Q E hr h => ?_)
  · obtain ⟨a, ns, rfl, _⟩ := h
    rfl
  · obtain ⟨a, ns, rfl, hS, hlen, k⟩ := h
    refine ⟨_, (pss_one (ps_ret (pe_lst (pa_cons (pe_lc (own := [("_law_cell", 1)]) (by rfl) sc_get_state.nd (i_list K (pe_slice (sl_lst K) (pv 0) po_none (po_some pe_int))) (blkOk_by (own := [("_law_cell", 1)]) (N := ["_law_script", "_law_cell"]) (sc := defScope (topS 31)) (by decide +kernel)) (fun _ _ _ _ _ => (pg_name (i := 1) sc_get_state.nd rfl (Or.inl rfl))) (fun _ _ _ _ _ => pts_nil) (fun _ _ _ _ _ => (pe_op o_add (pe_op o_mul pe_int (pe_callB c_abs (by rfl) T.n_abs (by decide +kernel) (pa_cons (pv 1) pa_nil))) (pe_callTy c_int (by rfl) T.n_int (by decide +kernel) (pa_cons (pe_cmpR o_lt (pv 1) pe_int (nomark _)) pa_nil))))) (pa_cons pe_int (pa_cons pe_int (pa_cons pe_int pa_nil))))))), ?_⟩
    refine ⟨_, rfl, _, rfl, a, _, rfl, hS, fun p hp => ⟨p, rfl, ⟨_, SqL.of upd_same⟩, fun D hD => ?_⟩⟩
    generalize exs : cutV (ns.map V.int) none (some 63) = xs at hD
    have hl : xs.length ≤ 1000 := by
      rw [← exs]
      have := cutV_len (xs := ns.map V.int) (lo := none) (hi := some 63)
      rw [List.length_map] at this
      omega
    have hpD : p ≠ D := ne_of_none upd_same hD
    have nD : H D = none := by rw [upd_ne hpD.symm] at hD; exact hD
    refine lc_list (K := K) (a := p) (xs := xs) (fun i H' => ∃ cs : List Int, Same H H' ∧ H' p = some (.lst xs) ∧ H' D = some (.lst (cs.map V.int)) ∧ (∀ c ∈ cs, 0 ≤ c) ∧ cs.length = i) ?_ ?_ ?_ ?_
    · refine ⟨[], fun b o e => ?_, ?_, upd_same, fun c hc => (by cases hc), rfl⟩
      · rw [upd_ne (ne_of_none e nD), upd_ne (ne_of_none e hp)]; exact e
      · rw [upd_ne hpD]; exact upd_same
    · rintro i H' _ ⟨cs, _, h, _⟩
      exact SqL.of h
    · rintro i x H' hx ⟨cs, s1, h1, h2, h3, h4⟩
      obtain ⟨z, rfl⟩ : ∃ z, x = V.int z := by
        have hm := cutV_mem (xs := ns.map V.int) (lo := none) (hi := some 63) (x := x) (by rw [exs]; exact List.mem_of_getElem? hx)
        obtain ⟨z, _, e⟩ := List.mem_map.mp hm
        exact ⟨z, e.symm⟩
      refine ⟨rfl, yes_of ?_⟩
      refine ⟨_, rfl, _, rfl, _, _, rfl, rfl, .inl ⟨by decide, by decide⟩, _, rfl, _, _, rfl, rfl, .inr ⟨_, rfl, _, _, rfl, rfl, _, h2, ?_, ?_⟩⟩
      · rw [List.length_map]; exact sz_lt (by have := get_lt hx; omega)
      · have hv : 0 ≤ 2 * (if z < 0 then -z else z) + (if decide (z < 0) = true then 1 else 0) := by
          split <;> split <;> omega
        refine ⟨cs ++ [2 * (if z < 0 then -z else z) + (if decide (z < 0) = true then 1 else 0)], fun b o e => ?_, ?_, ?_, ?_, ?_⟩
        · rw [upd_ne (ne_of_none e nD)]; exact s1 b o e
        · rw [upd_ne hpD]; exact h1
        · rw [upd_same, List.map_append]; rfl
        · intro c hc
          rcases List.mem_append.mp hc with h | h
          · exact h3 c h
          · rw [List.mem_singleton.mp h]; exact hv
        · rw [List.length_append, h4]; rfl
    · rintro H' ⟨cs, s1, h1, h2, h3, h4⟩
      refine ⟨by show 4 ≤ sizeLine; decide, fun st hst => ?_⟩
      have n1 : H st = none := s1.free hst
      refine k st D _ (fun b o e => ?_) ⟨cs, 0, 1, 0, ⟨upd_same, n1⟩, ⟨?_, nD⟩, h3, by decide, by decide, by decide⟩
      · rw [upd_ne (ne_of_none e n1)]; exact s1 b o e
      · rw [upd_ne (ne_of_none h2 hst)]; exact h2
end
end OA

/-! ### words that a law draws -/
namespace OA
open PySem PySem.Spec PyProof.Rows L2
def spWords : Sp := fun vs H Q _ => ∃ (G : Hp) (st inn : Addr) (m n : Nat), vs = [.ref st, .int m, .int n] ∧ Same G H ∧ StAt G H st inn ∧ 1 ≤ m ∧ m ≤ 1000 ∧ n ≤ 26 ∧
  ∀ (v : V) (ws : List Str) (G' H' : Hp), Stp (F2 st inn) G H G' H' → StAt G' H' st inn → Ss G' v ws → Words m n ws → Q v H'
section
variable {P : Program} {w : World} {K : PySem.W.Frag} {mg : Str → Option Value} {base : Heap}
theorem sc_get_words : FnScope ["_law_st", "_law_most", "_law_count", "_law_signs", "_law_size", "_law_place", "_law_fill", "_law_some", "_law_first", "_law_tail", "_law_k"] ["_law_st", "_law_most", "_law_count"] (defScope (topS 33)) := ⟨rfl, rfl, rfl, by decide +kernel, rfl, by decide +kernel, by decide +kernel⟩
set_option maxHeartbeats 8000000 in
theorem ok_get_words {f : Addr} {fd : FuncData} (F : Fun K "_law_get_words" "_law_get_words" (topS 33) f fd) (T : Txt K mg) (c_draw : Callee P w K mg base "_law_draw" ["_law_st", "_law_limit"] spDraw 1) : FnOk P w K mg base CX0 2 f fd ["_law_st", "_law_most", "_law_count"] spWords := by
  refine F.ok sc_get_words (fun vs H Q E h => ?_) (fun cdv A outer s H vs Q E hr h => ?_)
  · obtain ⟨G, st, inn, m, n, rfl, _⟩ := h
    rfl
  · obtain ⟨G, st, inn, m, n, rfl, gh, S, m0, m1, hn, k⟩ := h
    refine ⟨_, (pss_cons (ps_set (i := 3) sc_get_words.nd rfl (Or.inr rfl) pe_str)
      (pss_cons (ps_set (i := 4) sc_get_words.nd rfl (Or.inl rfl) (pe_op o_add pe_int (pe_co c_draw hr (by decide) (by rfl) (pa_cons (pv 0) (pa_cons (pv 1) pa_nil)))))
      (pss_cons (ps_set (i := 5) sc_get_words.nd rfl (Or.inr rfl) (pe_co c_draw hr (by decide) (by rfl) (pa_cons (pv 0) (pa_cons (pv 4) pa_nil))))
      (pss_cons (ps_set (i := 6) sc_get_words.nd rfl (Or.inr rfl) (pe_ix ix_str (pv 3) (pe_co c_draw hr (by decide) (by rfl) (pa_cons (pv 0) (pa_cons pe_int pa_nil))) (fun _ _ => rfl)))
      (C8.pss_cut (ps_if (PW.pt (pw_and (pt_cmpR op_eq (pv 4) pe_int (nomark _)) (pw_and1 (pt_cmpR o_ins (pv 6) pe_str (by rfl))))) (pss_one (ps_set (i := 6) sc_get_words.nd rfl (Or.inr rfl) pe_str)) pss_nil)
      (C8.pss_cut (ps_set (i := 7) sc_get_words.nd rfl (Or.inr rfl) (pe_ifExp (pt_cmpR op_eq (pv 5) pe_int (nomark _)) pe_int pe_int))
      (pss_cons (ps_set (i := 8) sc_get_words.nd rfl (Or.inr rfl) (pe_co c_draw hr (by decide) (by rfl) (pa_cons (pv 0) (pa_cons (pv 7) pa_nil))))
      (pss_cons (ps_set (i := 9) sc_get_words.nd rfl (Or.inr rfl) (pe_op op_rep_str (pv 6) (pe_op o_sub (pe_op o_sub (pv 4) (pv 5)) pe_int)))
      (pss_one (ps_ret (pe_lc (own := [("_law_k", 10)]) (by rfl) sc_get_words.nd (pi_range1 (by rfl) T.n_range (pa_cons (pv 2) pa_nil)) (blkOk_by (own := [("_law_k", 10)]) (N := ["_law_st", "_law_most", "_law_count", "_law_signs", "_law_size", "_law_place", "_law_fill", "_law_some", "_law_first", "_law_tail", "_law_k"]) (sc := defScope (topS 33)) (by decide +kernel)) (fun _ _ _ _ _ => (pg_name (i := 10) sc_get_words.nd rfl (Or.inl rfl))) (fun _ _ _ _ _ => pts_nil) (fun _ _ _ _ _ => (pe_op o_adds (pe_op o_adds (pe_op op_rep_str (pv 6) (pv 5)) (pe_ix ix_str (pv 3) (pe_op o_mod (pe_callTy c_int (by rfl) T.n_int (by decide +kernel) (pa_cons (pe_op o_add (pv 8) (pv 10)) pa_nil)) (pv 7)) (fun _ _ => rfl))) (pv 9)))))))))))))), ?_⟩
    -- size, place, fill
    refine ⟨_, rfl, _, rfl, G, st, inn, _, rfl, gh, S, by omega, by omega, fun r1 H1 s1 S1 a0 a1 => ⟨_, _, rfl, rfl, ?_⟩⟩
    obtain ⟨z, rfl⟩ := Int.eq_ofNat_of_zero_le a0
    refine ⟨_, rfl, _, rfl, G, st, inn, _, rfl, s1.gh, S1, by omega, by omega, fun r2 H2 s2 S2 b0 b1 => ?_⟩
    obtain ⟨p, rfl⟩ := Int.eq_ofNat_of_zero_le b0
    refine ⟨_, rfl, _, rfl, G, st, inn, _, rfl, s2.gh, S2, by decide, by decide, fun r3 H3 s3 S3 c0 c1 => ⟨_, _, _, rfl, rfl, signs_len, sign_at c0 (by omega), ?_⟩⟩
    have s3' := (s1.trans s2).trans s3
    have hf0 : Low (sg r3.toNat) := sg_low (by omega)
    generalize sg r3.toNat = f0 at hf0
    -- if size == 2 and fill in 'me': fill = 'z'
    refine ⟨fun σ Hx => ∃ f : Nat, Low f ∧ Hx = H3 ∧ σ = [some (.ref st), some (.int m), some (.int n), some (.str (Str.ofString "abcdefghijklmnopqrstuvwxyz0123456789")), some (.int (1 + z)), some (.int p), some (.str ⟨#[f]⟩), none, none, none, none], ?_, ?_⟩
    · refine ⟨_, rfl, rfl, _, rfl, ?_⟩
      refine ite2 (fun _ => ?_) (fun _ => ⟨f0, hf0, rfl, rfl⟩)
      refine ⟨_, rfl, _, _, rfl, rfl, _, rfl, ?_⟩
      refine ite2 (fun _ => ?_) (fun _ => ⟨f0, hf0, rfl, rfl⟩)
      exact ⟨122, ⟨by decide, by decide⟩, rfl, rfl⟩
    rintro σ Hx ⟨f, hf, rfl, rfl⟩
    -- some = 26 if place == 0 else 36
    refine ⟨fun σ Hy => ∃ m' : Nat, ((p = 0 ∧ m' = 26) ∨ (p ≠ 0 ∧ m' = 36)) ∧ Hy = Hx ∧ σ = [some (.ref st), some (.int m), some (.int n), some (.str (Str.ofString "abcdefghijklmnopqrstuvwxyz0123456789")), some (.int (1 + z)), some (.int p), some (.str ⟨#[f]⟩), some (.int m'), none, none, none], ?_, ?_⟩
    · refine ⟨_, rfl, rfl, _, rfl, ?_⟩
      refine ite2 (fun e => ⟨26, .inl ⟨?_, rfl⟩, rfl, rfl⟩) (fun e => ⟨36, .inr ⟨?_, rfl⟩, rfl, rfl⟩)
      · have := of_decide_eq_true e
        injection this with this
        omega
      · intro h
        subst h
        exact e (decide_eq_true rfl)
    rintro σ Hy ⟨m', hm', rfl, rfl⟩
    -- first, tail
    refine ⟨_, rfl, _, rfl, G, st, inn, _, rfl, s3.gh, S3, by omega, by omega, fun r4 H4 s4 S4 d0 d1 => ?_⟩
    obtain ⟨q, rfl⟩ := Int.eq_ofNat_of_zero_le d0
    have s4' := s3'.trans s4
    refine ⟨_, rfl, _, rfl, _, rfl, _, _, rfl, rfl, _, _, rfl, rfl, _, _, rfl, rfl, by omega, by omega, by show 1 ≤ 1000; decide, ?_⟩
    -- the words
    refine ⟨_, rfl, _, rfl, by omega, by omega, fun D hD => ?_⟩
    have hD0 : H D = none := s4'.new hD
    have off : ¬ F2 st inn D := S.off hD0
    refine lc_range (lo := 0) (n := n) (fun i H' => Stp (F2 st inn) G H G H' ∧ StAt G H' st inn ∧ Cell G H' D (.lst ((wordsOf f p (1 + z) m' q i).map V.str))) ?_ ?_ ?_
    · exact ⟨s4'.trans (Stp.put s4.gh hD _), S4.new hD s4.gh _, Cell.new s4.gh hD _⟩
    · rintro i H' hi ⟨s5, S5, c5⟩
      refine ⟨rfl, yes_of ?_⟩
      have hmod : (↑q + (0 + (i : Int))) % (m' : Int) = (((q + i) % m' : Nat) : Int) := by
        rw [Int.zero_add]
        exact (Int.natCast_emod (q + i) m').symm
      have hlt : (q + i) % m' < 36 := Nat.lt_of_lt_of_le (Nat.mod_lt _ (by omega)) (by omega)
      refine ⟨_, rfl, _, rfl, _, _, rfl, rfl, by omega, by omega, (by show 1 ≤ 1000; decide), _, rfl, _, rfl, _, rfl, _, _, rfl, rfl, .inl ⟨_, rfl, _, rfl, _, _, rfl, rfl, by omega, _, _, sg ((q + i) % m'), rfl, rfl, signs_len, ?_, _, _, rfl, rfl, ?_, _, rfl, _, _, rfl, rfl, ?_, _, c5.at_, ?_, ?_⟩⟩
      · rw [hmod]
        exact sign_at (by omega) (by omega)
      · refine sz_le ?_
        rw [len_list, repS_one, List.length_replicate]
        show _ + 1 ≤ _
        omega
      · refine sz_le ?_
        rw [app_len, len_list, len_list (repS _ _), repS_one, repS_one, List.length_replicate, List.length_replicate]
        show _ + 1 + _ ≤ _
        omega
      · rw [List.length_map]
        refine sz_lt ?_
        simp [wordsOf]
        omega
      · refine ⟨s5.loc c5 hD0 _, S5.write off _, ?_⟩
        have e : ((wordsOf f p (1 + z) m' q i).map V.str) ++ [V.str (repS ⟨#[f]⟩ (p : Int).toNat ++ (⟨#[sg ((q + i) % m')]⟩ : Str) ++ repS ⟨#[f]⟩ (1 + (z : Int) - p - 1).toNat)] = ((wordsOf f p (1 + z) m' q (i + 1)).map V.str) := by
          unfold wordsOf
          rw [List.range_succ, List.map_append, List.map_append]
          congr 2
          simp only [List.map_cons, List.map_nil]
          congr 2
          refine str_ext ?_
          rw [app_list, app_list, repS_one, repS_one]
          show _ = wordL f p (1 + z) (sg ((q + i) % m'))
          unfold wordL
          have e1 : (1 + (z : Int) - p - 1).toNat = 1 + z - p - 1 := by omega
          rw [e1, List.append_assoc]
          rfl
        rw [e]
        exact c5.set _
    · rintro H' ⟨s5, S5, c5⟩
      exact k (.ref D) _ (upd G D (.lst ((wordsOf f p (1 + z) m' q n).map V.str))) H' (s5.freeze c5 hD0) (S5.frz off _) ⟨D, rfl, upd_same⟩ (words_ok hf (by omega) (by omega) hm' hn)
end
end OA

/-! ### is_name, split_words, all_names, is_path: the code -/
namespace OA
open PySem PySem.Spec PyProof.Rows L2
def letL : List Nat := (List.range 26).map fun i => 97 + i
def sgnL : List Nat := (List.range 36).map sg
def isNameB (z : Str) : Bool := decide (1 ≤ z.length) && decide (z.length ≤ 12) && (match z.cps.toList with | c :: _ => decide (c ∈ letL) | [] => false) && z.cps.toList.all fun c => decide (c ∈ sgnL)
def spc : Str := Str.ofString " "
def dotS : Str := Str.ofString "."
def nlS : Str := Str.ofString "\n"
def splitW (z : Str) : List Str := if Str.ofString "" ∈ Txt.split z spc then [] else Txt.split z spc
theorem let_list : (Str.ofString "abcdefghijklmnopqrstuvwxyz").cps.toList = letL := by decide +kernel
theorem sgn_list : (Str.ofString "abcdefghijklmnopqrstuvwxyz0123456789").cps.toList = sgnL := by decide +kernel
def spIsName : Sp := fun vs H Q _ => ∃ z : Str, vs = [.str z] ∧ z.length ≤ 1000 ∧ ∀ H', Same H H' → Q (.bl (isNameB z)) H'
def spSplitW : Sp := fun vs H Q _ => ∃ z : Str, vs = [.str z] ∧ z.length ≤ 100000 ∧ ∀ (p : Addr) (H' : Hp), Same H H' → H p = none → H' p = some (.lst ((splitW z).map V.str)) → Q (.ref p) H'
def spAllN : Sp := fun vs H Q _ => ∃ (a : Addr) (ws : List Str), vs = [.ref a] ∧ H a = some (.lst (ws.map V.str)) ∧ ws.length ≤ 10000 ∧ (∀ x ∈ ws, x.length ≤ 1000) ∧ ∀ H', Same H H' → Q (.bl (ws.all isNameB)) H'
def spIsPath : Sp := fun vs H Q _ => ∃ (z : Str) (n : Nat), vs = [.str z, .int n] ∧ z.length ≤ 1000 ∧ (Txt.split z dotS).length ≤ 10000 ∧ (∀ x ∈ Txt.split z dotS, x.length ≤ 1000) ∧ ∀ H', Same H H' → Q (.bl (decide (n ≤ (Txt.split z dotS).length) && (Txt.split z dotS).all isNameB)) H'
theorem in_eqS (c : Str) (xs : List Str) : (if false = true then !inV (.str c) (xs.map V.str) else inV (.str c) (xs.map V.str)) = decide (c ∈ xs) := by
  rw [if_neg Bool.false_ne_true, inV_str]
theorem notin_eqS (c : Str) (xs : List Str) : (if true = true then !inV (.str c) (xs.map V.str) else inV (.str c) (xs.map V.str)) = !decide (c ∈ xs) := by
  rw [if_pos rfl, inV_str]
def nmV : V → V
  | .str x => .bl (isNameB x)
  | v => v
theorem map_nmV : ∀ xs : List Str, (xs.map V.str).map nmV = (xs.map isNameB).map V.bl
  | [] => rfl
  | x :: xs => by rw [List.map_cons, List.map_cons, List.map_cons, List.map_cons, map_nmV xs]; rfl
section
variable {P : Program} {w : World} {K : PySem.W.Frag} {mg : Str → Option Value} {base : Heap}
theorem sc_is_name : FnScope ["word", "sign"] ["word"] (defScope (topS 11)) := ⟨rfl, rfl, rfl, by decide +kernel, rfl, by decide +kernel, by decide +kernel⟩
set_option maxHeartbeats 8000000 in
theorem ok_is_name {f : Addr} {fd : FuncData} (F : Fun K "is_name" "is_name" (topS 11) f fd) (T : Txt K mg) : FnOk P w K mg base CX0 1 f fd ["word"] spIsName := by
  refine F.ok sc_is_name (fun vs H Q E h => ?_) (fun cdv A outer s H vs Q E hr h => ?_)
  · obtain ⟨z, rfl, _⟩ := h
    rfl
  · obtain ⟨z, rfl, hz, k⟩ := h
    refine ⟨_, (pss_cons (ps_if (PW.pt (pw_or (pt_not (pt_chain o_le o_le pe_int (pe_callB c_lenS (by rfl) T.n_len (by decide +kernel) (pa_cons (pv 0) pa_nil)) (pe_gint T.c_LONGEST_NAME))) (pw_or1 (pt_cmpR o_notinsign (pe_ix ix_str (pv 0) pe_int (fun _ _ => rfl)) (pe_gstr T.c_LETTERS) (by rfl))))) (pss_one (ps_ret pe_bl)) pss_nil)
      (pss_one (ps_ret (pe_callB (c_all K) (by rfl) T.n_all (by decide +kernel) (pa_cons (pe_lc (own := [("sign", 1)]) (by rfl) sc_is_name.nd (pi_str (pv 0)) (blkOk_by (own := [("sign", 1)]) (N := ["word", "sign"]) (sc := defScope (topS 11)) (by decide +kernel)) (fun _ _ _ _ _ => (pg_name (i := 1) sc_is_name.nd rfl (Or.inl rfl))) (fun _ _ _ _ _ => pts_nil) (fun _ _ _ _ _ => (pe_cmpR o_insign (pv 1) (pe_gstr T.c_SIGNS) (by rfl)))) pa_nil))))), ?_⟩
    have hs : z.length ≤ sizeLine := sz_le (by omega)
    have no : isNameB z = false → Q (.bl false) H := fun e => by
      have := k H (Same.refl H)
      rw [e] at this
      exact this
    refine ⟨_, rfl, z, rfl, hs, _, _, rfl, rfl, _, rfl, ?_⟩
    refine ite2 (fun h1 => ?_) (fun h1 => ?_)
    · have h1' : 1 ≤ z.length := by have := of_decide_eq_true h1; omega
      refine ⟨_, _, rfl, rfl, _, rfl, ?_⟩
      by_cases h2 : z.length ≤ 12
      · have e2 : decide ((z.length : Int) ≤ 12) = true := decide_eq_true (by omega)
        rw [e2]
        refine iteF ?_
        obtain ⟨c, r, e1⟩ : ∃ c r, z.cps.toList = c :: r := by
          cases e : z.cps.toList with
          | nil => rw [len_list, e] at h1'; simp at h1'
          | cons c r => exact ⟨c, r, rfl⟩
        refine ⟨_, rfl, z, 0, c, rfl, rfl, hs, (by rw [e1]; exact atI_nat (j := 0) rfl), c, _, rfl, rfl, _, rfl, ?_⟩
        rw [let_list]
        refine ite2 (fun h3 => ?_) (fun h3 => ?_)
        · refine no ?_
          have h3' : decide (c ∈ letL) = false := by simpa using h3
          unfold isNameB
          rw [e1]
          show (_ && _ && decide (c ∈ letL) && _) = false
          rw [h3']
          simp
        · have h3' : decide (c ∈ letL) = true := by simpa using h3
          refine ⟨_, rfl, z, rfl, fun D hD => ?_⟩
          refine lc_it walk_str (fun i H' => Same H H' ∧ H' D = some (.lst (((z.cps.toList.take i).map fun c => decide (c ∈ sgnL)).map V.bl))) ?_ ?_ ?_ ?_
          · exact ⟨same_loc (Same.refl H) hD _, upd_same⟩
          · intro _ _ _ _
            trivial
          · rintro i x H1 H2 hi ⟨s1, g1⟩ ⟨rfl, c, hc, rfl⟩
            have hc' : z.cps.toList[i]? = some c := by rw [Array.getElem?_toList]; exact hc
            refine ⟨rfl, yes_of ?_⟩
            refine ⟨_, rfl, c, _, rfl, rfl, _, g1, sz_lt ?_, same_loc s1 hD _, ?_⟩
            · rw [List.length_map, List.length_map, List.length_take]
              rw [len_list] at hz
              omega
            · rw [take_more hc', List.map_append, List.map_append, sgn_list]
              exact upd_same
          · rintro H1 ⟨s1, g1⟩
            refine ⟨D, (z.cps.toList.map fun c => decide (c ∈ sgnL)), rfl, SqL.of ?_, ?_⟩
            · rw [g1]
              have e : z.cps.toList.take z.cps.size = z.cps.toList := by
                rw [List.take_of_length_le]
                simp
              rw [e]
            · have e : isNameB z = (z.cps.toList.map fun c => decide (c ∈ sgnL)).all id := by
                unfold isNameB
                rw [decide_eq_true h1', decide_eq_true h2, List.all_map]
                rw [e1]
                show (true && true && decide (c ∈ letL) && _) = _
                rw [h3']
                rfl
              rw [← e]
              exact k H1 s1
      · have e2 : decide ((z.length : Int) ≤ 12) = false := decide_eq_false (by omega)
        rw [e2]
        refine iteT ?_
        refine no ?_
        unfold isNameB
        rw [decide_eq_false h2]
        simp
    · have h1' : ¬ 1 ≤ z.length := fun q => h1 (decide_eq_true (by omega))
      refine ⟨_, rfl, ?_⟩
      refine iteT ?_
      refine no ?_
      unfold isNameB
      rw [decide_eq_false h1']
      rfl
theorem sc_split_words : FnScope ["line", "words"] ["line"] (defScope (topS 12)) := ⟨rfl, rfl, rfl, by decide +kernel, rfl, by decide +kernel, by decide +kernel⟩
theorem ok_split_words {f : Addr} {fd : FuncData} (F : Fun K "split_words" "split_words" (topS 12) f fd) (T : Txt K mg) : FnOk P w K mg base CX0 1 f fd ["line"] spSplitW := by
  refine F.ok sc_split_words (fun vs H Q E h => ?_) (fun cdv A outer s H vs Q E hr h => ?_)
  · obtain ⟨z, rfl, _⟩ := h
    rfl
  · obtain ⟨z, rfl, hz, k⟩ := h
    refine ⟨_, (pss_cons (ps_set (i := 1) sc_split_words.nd rfl (Or.inl rfl) (pe_split (pv 0) pe_str))
      (pss_cons (ps_if (pt_cmpR (o_in K) pe_str (pv 1) (by rfl)) (pss_one (ps_ret (pe_lst pa_nil))) pss_nil)
      (pss_one (ps_ret (pv 1))))), ?_⟩
    refine ⟨_, rfl, ⟨_, rfl⟩, _, _, rfl, rfl, by decide +kernel, sz_le (by omega), fun p np => ?_⟩
    have t1 : Same H (upd H p (.lst ((Txt.split z spc).map V.str))) := same_loc (Same.refl H) np _
    have hp : (upd H p (.lst ((Txt.split z spc).map V.str))) p = some (.lst ((Txt.split z spc).map V.str)) := upd_same
    have eH : upd H p (.lst ((Txt.split z (Str.ofString " ")).map V.str)) = upd H p (.lst ((Txt.split z spc).map V.str)) := rfl
    rw [eH]
    generalize upd H p (.lst ((Txt.split z spc).map V.str)) = H1 at t1 hp
    refine ⟨_, rfl, p, _, rfl, .inl (SqL.of hp), rfl, flat_strs _, _, rfl, ?_⟩
    rw [in_eqS]
    refine ite2 (fun h1 => ?_) (fun h1 => ?_)
    · refine ⟨by decide, fun q nq => ?_⟩
      refine k q _ (t1.trans (same_loc (Same.refl H1) nq _)) (t1.free nq) ?_
      unfold splitW
      rw [if_pos (of_decide_eq_true h1)]
      exact upd_same
    · refine ⟨_, rfl, ?_⟩
      refine k p H1 t1 np ?_
      unfold splitW
      rw [if_neg (fun z => h1 (decide_eq_true z))]
      exact hp
theorem sc_all_names : FnScope ["words", "word"] ["words"] (defScope (topS 13)) := ⟨rfl, rfl, rfl, by decide +kernel, rfl, by decide +kernel, by decide +kernel⟩
theorem ok_all_names {f : Addr} {fd : FuncData} (F : Fun K "all_names" "all_names" (topS 13) f fd) (T : Txt K mg) (c_is_name : Callee P w K mg base "is_name" ["word"] spIsName 1) : FnOk P w K mg base CX0 2 f fd ["words"] spAllN := by
  refine F.ok sc_all_names (fun vs H Q E h => ?_) (fun cdv A outer s H vs Q E hr h => ?_)
  · obtain ⟨a, ws, rfl, _⟩ := h
    rfl
  · obtain ⟨a, ws, rfl, ha, n1, n2, k⟩ := h
    refine ⟨_, (pss_one (ps_ret (pe_callB (c_all K) (by rfl) T.n_all (by decide +kernel) (pa_cons (pe_lc (own := [("word", 1)]) (by rfl) sc_all_names.nd (i_list K (pv 0)) (blkOk_by (own := [("word", 1)]) (N := ["words", "word"]) (sc := defScope (topS 13)) (by decide +kernel)) (fun _ _ _ _ _ => (pg_name (i := 1) sc_all_names.nd rfl (Or.inl rfl))) (fun _ _ _ _ _ => pts_nil) (fun _ _ _ _ _ => (pe_co c_is_name hr (by decide) (by rfl) (pa_cons (pv 1) pa_nil)))) pa_nil)))), ?_⟩
    refine at_ret (at_cb (at_cons (lc_mp (a := a) (xs := ws.map V.str) nmV (fun R r => ⟨_, rfl, r⟩) ha (by rw [List.length_map]; omega) (fun z hz H1 t1 R r => ?_) fun D H1 t1 nD hD => ?_)))
    · obtain ⟨z', hz', rfl⟩ := List.mem_map.mp hz
      exact ⟨_, rfl, z', rfl, n2 z' hz', fun H2 t2 => r H2 t2⟩
    · rw [map_nmV] at hD
      refine ⟨D, _, rfl, SqL.of hD, ?_⟩
      have e : ws.all isNameB = (ws.map isNameB).all id := by rw [List.all_map]; rfl
      rw [← e]
      exact k H1 t1
theorem sc_is_path : FnScope ["word", "least", "names"] ["word", "least"] (defScope (topS 14)) := ⟨rfl, rfl, rfl, by decide +kernel, rfl, by decide +kernel, by decide +kernel⟩
theorem ok_is_path {f : Addr} {fd : FuncData} (F : Fun K "is_path" "is_path" (topS 14) f fd) (T : Txt K mg) (c_all_names : Callee P w K mg base "all_names" ["words"] spAllN 2) : FnOk P w K mg base CX0 3 f fd ["word", "least"] spIsPath := by
  refine F.ok sc_is_path (fun vs H Q E h => ?_) (fun cdv A outer s H vs Q E hr h => ?_)
  · obtain ⟨z, n, rfl, _⟩ := h
    rfl
  · obtain ⟨z, n, rfl, hz, n1, n2, k⟩ := h
    refine ⟨_, (pss_cons (ps_set (i := 2) sc_is_path.nd rfl (Or.inl rfl) (pe_split (pv 0) pe_str))
      (pss_one (ps_ret (pe_and (pe_cmpR o_ge (pe_callB (c_len K) (by rfl) T.n_len (by decide +kernel) (pa_cons (pv 2) pa_nil)) (pv 1) (nomark _)) (pe_one (pe_co c_all_names hr (by decide) (by rfl) (pa_cons (pv 2) pa_nil))))))), ?_⟩
    refine ⟨_, rfl, ⟨_, rfl⟩, _, _, rfl, rfl, by decide +kernel, sz_le (by omega), fun p np => ?_⟩
    have t1 : Same H (upd H p (.lst ((Txt.split z dotS).map V.str))) := same_loc (Same.refl H) np _
    have hp : (upd H p (.lst ((Txt.split z dotS).map V.str))) p = some (.lst ((Txt.split z dotS).map V.str)) := upd_same
    have eH : upd H p (.lst ((Txt.split z (Str.ofString ".")).map V.str)) = upd H p (.lst ((Txt.split z dotS).map V.str)) := rfl
    rw [eH]
    generalize upd H p (.lst ((Txt.split z dotS).map V.str)) = H1 at t1 hp
    refine ⟨_, rfl, p, _, rfl, .inl (SqL.of hp), _, rfl, _, _, rfl, rfl, _, rfl, ?_⟩
    have e : decide ((n : Int) ≤ (((Txt.split z dotS).map V.str).length : Int)) = decide (n ≤ (Txt.split z dotS).length) := by
      rw [List.length_map]
      exact decide_eq_decide.mpr (by omega)
    rw [e]
    refine ite2 (fun h1 => ?_) (fun h1 => ?_)
    · refine ⟨_, rfl, p, _, rfl, hp, n1, n2, fun H2 t2 => ?_⟩
      have := k H2 (t1.trans t2)
      rw [h1, Bool.true_and] at this
      exact this
    · have h1' : decide (n ≤ (Txt.split z dotS).length) = false := by simpa using h1
      have := k H1 t1
      rw [h1', Bool.false_and] at this
      exact this
end
end OA

/-! ### schemas: plain data and how they stand in the heap -/
namespace OA
open PySem PySem.Spec PyProof.Rows L2
structure Tab where
  name : Str
  par : Option Str
  cols : List Str
structure Sch where
  tabs : List Tab
  owns : List (Str × Str)
  fols : List ((Str × Str) × Str)
def tabOf (ts : List Tab) (n : Str) : Option Tab := ts.find? fun t => decide (t.name = n)
inductive ChainOf (ts : List Tab) : Str → List Str → Prop
  | root {n : Str} {t : Tab} : tabOf ts n = some t → t.par = none → ChainOf ts n [n]
  | up {n p : Str} {t : Tab} {cs : List Str} : tabOf ts n = some t → t.par = some p → ChainOf ts p cs → ChainOf ts n (n :: cs)
/-- a position, name by name -/
inductive PosOk (ts : List Tab) : Str → List Str → Prop
  | last {n c : Str} {t : Tab} : tabOf ts n = some t → c ∈ t.cols → PosOk ts n [c]
  | up {n p : Str} {t : Tab} {r : List Str} : tabOf ts n = some t → t.par = some p → r ≠ [] → PosOk ts p r → PosOk ts n (p :: r)
def optV : Option Str → V
  | none => .non
  | some x => .str x
abbrev kn (n : Str) : Key := Sum.inr n
def parKV (ts : List Tab) : List (Key × V) := ts.map fun t => (kn t.name, optV t.par)
def colKV : List Tab → List Addr → List (Key × V)
  | t :: ts, a :: as => (kn t.name, .ref a) :: colKV ts as
  | _, _ => []
def ownKV (os : List (Str × Str)) : List (Key × V) := os.map fun o => (kn o.1, V.str o.2)
def folKV (fs : List ((Str × Str) × Str)) : List (List Key × V) := fs.map fun f => ([kn f.1.1, kn f.1.2], V.str f.2)
abbrev LC (H : Hp) (as : List Addr) (ts : List Tab) : Prop := Paired (fun a t => H a = some (.lst (t.cols.map V.str))) as ts
theorem kn_inj {a b : Str} : kn a = kn b ↔ a = b := ⟨fun h => Sum.inr.inj h, fun h => by rw [h]⟩
theorem valV_par (n : Str) : ∀ ts : List Tab, valV (parKV ts) (kn n) = (tabOf ts n).map fun t => optV t.par
  | [] => rfl
  | t :: ts => by
    unfold parKV tabOf
    rw [List.map_cons, List.find?_cons]
    by_cases h : t.name = n
    · rw [valV_pos (p := (kn t.name, optV t.par)) (by rw [h]), decide_eq_true h]
      rfl
    · rw [valV_neg (p := (kn t.name, optV t.par)) (fun z => h (kn_inj.mp z)), decide_eq_false h]
      exact valV_par n ts
theorem valV_col {H : Hp} (n : Str) : ∀ {as : List Addr} {ts : List Tab}, LC H as ts → (tabOf ts n = none ∧ valV (colKV ts as) (kn n) = none) ∨ ∃ t a, tabOf ts n = some t ∧ valV (colKV ts as) (kn n) = some (.ref a) ∧ H a = some (.lst (t.cols.map V.str))
  | _, _, .nil => .inl ⟨rfl, rfl⟩
  | a :: as, t :: ts, .cons h r => by
    unfold colKV tabOf
    rw [List.find?_cons]
    by_cases e : t.name = n
    · right
      refine ⟨t, a, ?_, valV_pos (p := (kn t.name, V.ref a)) (by rw [e]), h⟩
      rw [decide_eq_true e]
    · rw [valV_neg (p := (kn t.name, V.ref a)) (fun z => e (kn_inj.mp z)), decide_eq_false e]
      exact valV_col n r
theorem valV_own (n : Str) : ∀ os : List (Str × Str), valV (ownKV os) (kn n) = (os.find? fun o => decide (o.1 = n)).map fun o => V.str o.2
  | [] => rfl
  | o :: os => by
    unfold ownKV
    rw [List.map_cons, List.find?_cons]
    by_cases h : o.1 = n
    · rw [valV_pos (p := (kn o.1, V.str o.2)) (by rw [h]), decide_eq_true h]
      rfl
    · rw [valV_neg (p := (kn o.1, V.str o.2)) (fun z => h (kn_inj.mp z)), decide_eq_false h]
      exact valV_own n os
theorem valV_fol (t c : Str) : ∀ fs : List ((Str × Str) × Str), valV (folKV fs) [kn t, kn c] = (fs.find? fun f => decide (f.1 = (t, c))).map fun f => V.str f.2
  | [] => rfl
  | f :: fs => by
    unfold folKV
    rw [List.map_cons, List.find?_cons]
    by_cases h : f.1 = (t, c)
    · rw [valV_pos (p := ([kn f.1.1, kn f.1.2], V.str f.2)) (by rw [h]), decide_eq_true h]
      rfl
    · rw [valV_neg (p := ([kn f.1.1, kn f.1.2], V.str f.2)) (fun z => h ?_), decide_eq_false h]
      · exact valV_fol t c fs
      · obtain ⟨⟨a, b⟩, u⟩ := f
        have z : [kn a, kn b] = [kn t, kn c] := z
        injection z with z1 z2
        injection z2 with z2 _
        rw [kn_inj.mp z1, kn_inj.mp z2]
theorem colKV_snoc {t : Tab} {a : Addr} : ∀ {ts : List Tab} {as : List Addr}, ts.length = as.length → colKV (ts ++ [t]) (as ++ [a]) = colKV ts as ++ [(kn t.name, V.ref a)]
  | [], [], _ => rfl
  | [], _ :: _, h => by cases h
  | _ :: _, [], h => by cases h
  | x :: ts, y :: as, h => by
    show (kn x.name, V.ref y) :: colKV (ts ++ [t]) (as ++ [a]) = (kn x.name, V.ref y) :: (colKV ts as ++ _)
    rw [colKV_snoc (by simpa using h)]
theorem colKV_len : ∀ {ts : List Tab} {as : List Addr}, ts.length = as.length → (colKV ts as).length = ts.length
  | [], [], _ => rfl
  | [], _ :: _, h => by cases h
  | _ :: _, [], h => by cases h
  | _ :: ts, _ :: as, h => by
    show (colKV ts as).length + 1 = ts.length + 1
    rw [colKV_len (by simpa using h)]
theorem putN {κ : Type} [DecidableEq κ] {kvs : List (κ × V)} {k : κ} {v : V} (h : valV kvs k = none) : putK kvs k v = kvs ++ [(k, v)] := by
  unfold putK
  rw [valV_any, h]
  rfl
/-- the fields of a schema -/
def sflds (txt : Str) (cl pr ow fo : Addr) : List (Str × V) := putF "following" (.ref fo) (putF "owners" (.ref ow) (putF "parents" (.ref pr) (putF "column_lists" (.ref cl) (putF "text" (.str txt) []))))
section
variable (txt : Str) (cl pr ow fo : Addr)
theorem sf_col : (sflds txt cl pr ow fo).lookup ("column_lists" : Str) = some (.ref cl) := by
  unfold sflds
  rw [lookup_putF, if_neg (by decide +kernel), lookup_putF, if_neg (by decide +kernel), lookup_putF, if_neg (by decide +kernel), lookup_putF, if_pos rfl]
theorem sf_par : (sflds txt cl pr ow fo).lookup ("parents" : Str) = some (.ref pr) := by
  unfold sflds
  rw [lookup_putF, if_neg (by decide +kernel), lookup_putF, if_neg (by decide +kernel), lookup_putF, if_pos rfl]
theorem sf_own : (sflds txt cl pr ow fo).lookup ("owners" : Str) = some (.ref ow) := by
  unfold sflds
  rw [lookup_putF, if_neg (by decide +kernel), lookup_putF, if_pos rfl]
theorem sf_fol : (sflds txt cl pr ow fo).lookup ("following" : Str) = some (.ref fo) := by
  unfold sflds
  rw [lookup_putF, if_pos rfl]
theorem sf_txt : (sflds txt cl pr ow fo).lookup ("text" : Str) = some (.str txt) := by
  unfold sflds
  rw [lookup_putF, if_neg (by decide +kernel), lookup_putF, if_neg (by decide +kernel), lookup_putF, if_neg (by decide +kernel), lookup_putF, if_neg (by decide +kernel), lookup_putF, if_pos rfl]
theorem sf_no {m : Str} (h1 : ¬ m = "following") (h2 : ¬ m = "owners") (h3 : ¬ m = "parents") (h4 : ¬ m = "column_lists") (h5 : ¬ m = "text") : (sflds txt cl pr ow fo).lookup m = none := by
  unfold sflds
  rw [lookup_putF, if_neg h1, lookup_putF, if_neg h2, lookup_putF, if_neg h3, lookup_putF, if_neg h4, lookup_putF, if_neg h5]
  rfl
end
/-- what the top has left of the class -/
structure STxt (K : PySem.W.Frag) (mg : Str → Option Value) (C : Addr) : Prop where
  cl : Cls K C
  n_text : NoAttr K C "text"
  n_col : NoAttr K C "column_lists"
  n_par : NoAttr K C "parents"
  n_own : NoAttr K C "owners"
  n_fol : NoAttr K C "following"
  g : mg "Schema" = some (.ref C)
  cv : ∃ mc t1 t2 t3, ClX.CRead K C mc ∧ ClX.CVal K C mc "MOST_TABLES" (.int 6) (.int 6 t1) ∧ ClX.CVal K C mc "MOST_COLUMNS" (.int 4) (.int 4 t2) ∧ ClX.CVal K C mc "LONGEST_CHAIN" (.int 4) (.int 4 t3)
/-- the schema s stands at x -/
structure SchX (C : Addr) (H : Hp) (x : Addr) (txt : Str) (cl pr ow fo : Addr) (as : List Addr) (s : Sch) : Prop where
  obj : ∃ dx, H x = some (.ins C dx (sflds txt cl pr ow fo))
  col : H cl = some (.dK (colKV s.tabs as))
  lst : LC H as s.tabs
  par : H pr = some (.dK (parKV s.tabs))
  own : H ow = some (.dK (ownKV s.owns))
  fol : H fo = some (.dT (folKV s.fols))
  ne1 : cl ≠ pr
  ne2 : cl ≠ ow
  ne3 : pr ≠ ow
theorem SchX.mono {C : Addr} {H H' : Hp} {x : Addr} {txt : Str} {cl pr ow fo : Addr} {as : List Addr} {s : Sch} (t : Same H H') (h : SchX C H x txt cl pr ow fo as s) : SchX C H' x txt cl pr ow fo as s := by
  obtain ⟨dx, h1⟩ := h.obj
  exact ⟨⟨dx, t _ _ h1⟩, t _ _ h.col, Paired.mapP h.lst fun a b e => t _ _ e, t _ _ h.par, t _ _ h.own, t _ _ h.fol, h.ne1, h.ne2, h.ne3⟩
theorem ne_kind {H : Hp} {a b : Addr} {o u : HO} (h1 : H a = some o) (h2 : H b = some u) (h : o ≠ u) : a ≠ b := fun e => by
  rw [e, h2] at h1
  exact h (Option.some.inj h1).symm
/-- what changes while lines are read -/
def Rest (cl pr ow fo : Addr) (H H' : Hp) : Prop := ∀ b o, H b = some o → b ≠ cl → b ≠ pr → b ≠ ow → b ≠ fo → H' b = some o
theorem Rest.trans {cl pr ow fo : Addr} {H H1 H2 : Hp} (a : Rest cl pr ow fo H H1) (b : Rest cl pr ow fo H1 H2) : Rest cl pr ow fo H H2 := fun c o e h1 h2 h3 h4 => b c o (a c o e h1 h2 h3 h4) h1 h2 h3 h4
theorem Same.rest {cl pr ow fo : Addr} {H H' : Hp} (a : Same H H') : Rest cl pr ow fo H H' := fun c o e _ _ _ _ => a c o e
/-- a line that can be read -/
inductive ValidLine (s : Sch) : List Str → Sch → Prop
  | root {t : Str} {cols : List Str} : cols ≠ [] → (t :: cols).all isNameB = true → tabOf s.tabs t = none → cols.Nodup → cols.length ≤ 4 → s.tabs.length < 6 → ValidLine s (Str.ofString "root" :: t :: cols) { s with tabs := s.tabs ++ [⟨t, none, cols⟩] }
  | table {t p : Str} {cols cs : List Str} : cols ≠ [] → (t :: p :: cols).all isNameB = true → tabOf s.tabs t = none → ChainOf s.tabs p cs → cs.length < 4 → cols.Nodup → cols.length ≤ 4 → s.tabs.length < 6 → ValidLine s (Str.ofString "table" :: t :: p :: cols) { s with tabs := s.tabs ++ [⟨t, some p, cols⟩] }
  | owner {t z : Str} : isNameB t = true → (Txt.split z dotS).all isNameB = true → z.length ≤ 1000 → (Txt.split z dotS).length ≤ 100 → (∀ q ∈ Txt.split z dotS, q.length ≤ 1000) → (tabOf s.tabs t).isSome = true → (s.owns.find? fun o => decide (o.1 = t)) = none → PosOk s.tabs t (Txt.split z dotS) → ValidLine s [Str.ofString "owner", t, z] { s with owns := s.owns ++ [(t, z)] }
  | follow {t c u p : Str} {tb tp : Tab} : isNameB t = true → isNameB c = true → isNameB u = true → tabOf s.tabs t = some tb → c ∈ tb.cols → (s.fols.find? fun f => decide (f.1 = (t, c))) = none → tb.par = some p → tabOf s.tabs p = some tp → u ∈ tp.cols → ValidLine s [Str.ofString "follow", t, c, u] { s with fols := s.fols ++ [((t, c), u)] }
inductive ReadsL : Sch → List (List Str) → Sch → Prop
  | nil {s : Sch} : ReadsL s [] s
  | cons {s s1 s2 : Sch} {ws : List Str} {r : List (List Str)} : ValidLine s ws s1 → ReadsL s1 r s2 → ReadsL s (ws :: r) s2
end OA

/-! ### chains and positions: plain data -/
namespace OA
open PySem PySem.Spec PyProof.Rows L2
theorem ChainOf.uniq {ts : List Tab} {n : Str} {cs ds : List Str} (h : ChainOf ts n cs) (g : ChainOf ts n ds) : cs = ds := by
  induction h generalizing ds with
  | root h1 h2 =>
    cases g with
    | root _ _ => rfl
    | up g1 g2 _ => rw [h1] at g1; cases g1; rw [h2] at g2; cases g2
  | up h1 h2 h3 ih =>
    cases g with
    | root g1 g2 => rw [h1] at g1; cases g1; rw [h2] at g2; cases g2
    | up g1 g2 g3 =>
      rw [h1] at g1
      cases g1
      rw [h2] at g2
      cases g2
      rw [ih g3]
theorem ChainOf.head {ts : List Tab} {n : Str} {cs : List Str} (h : ChainOf ts n cs) : ∃ r, cs = n :: r := by
  cases h with
  | root _ _ => exact ⟨[], rfl⟩
  | up _ _ _ => exact ⟨_, rfl⟩
theorem ChainOf.drop {ts : List Tab} {n m : Str} {cs : List Str} (h : ChainOf ts n cs) : ∀ {i : Nat}, cs[i]? = some m → ChainOf ts m (cs.drop i) := by
  induction h with
  | root h1 h2 =>
    intro i hi
    cases i with
    | zero => have := Option.some.inj hi; rw [← this]; exact .root h1 h2
    | succ i => simp at hi
  | up h1 h2 h3 ih =>
    intro i hi
    cases i with
    | zero => have := Option.some.inj hi; rw [← this]; exact .up h1 h2 h3
    | succ i => exact ih (show _ from hi)
theorem ChainOf.nd {ts : List Tab} {n : Str} {cs : List Str} (h : ChainOf ts n cs) : cs.Nodup := by
  induction h with
  | root _ _ => simp
  | @up n p t cs h1 h2 h3 ih =>
    refine List.nodup_cons.mpr ⟨fun hm => ?_, ih⟩
    obtain ⟨i, hi⟩ := List.getElem?_of_mem hm
    have g := h3.drop hi
    have e := (ChainOf.up h1 h2 h3).uniq g
    have := congrArg List.length e
    rw [List.length_cons, List.length_drop] at this
    omega
def colsOf (ts : List Tab) (n : Str) : List Str := ((tabOf ts n).map Tab.cols).getD []
/-- the names of cs, each with a dot behind it -/
def dots (cs : List Str) : Str := Txt.join (Str.ofString "") (cs.map fun c => c ++ dotS)
/-- the positions by the chain -/
def posP (ts : List Tab) (cs : List Str) (i : Nat) : List Str := (List.range i).flatMap fun j => (colsOf ts (cs.getD j Str.empty)).map fun c => dots ((cs.drop 1).take j) ++ c
theorem posP_succ {ts : List Tab} {cs : List Str} {i : Nat} {n : Str} (h : cs[i]? = some n) : posP ts cs (i + 1) = posP ts cs i ++ (colsOf ts n).map fun c => dots ((cs.drop 1).take i) ++ c := by
  unfold posP
  rw [List.range_succ, List.flatMap_append]
  simp [h]
end OA

/-! ### words: the old promises as plain ones -/
namespace OA
open PySem PySem.Spec PyProof.Rows L2
theorem Wo.lay2 {G H H' O : Hp} {M : MH} {p : Addr} {o : HO} (w : Wo G H M O) (s : Same H H') (np : H p = none) (hp : H' p = some o) : Wo (upd G p o) H' M O ∧ Same G (upd G p o) := by
  have gp := w.gh.free np
  have s2 : Same G (upd G p o) := Same.lay gp o
  refine ⟨⟨fun b u hb => ?_, w.oh.trans s, fun b u hb => ?_, fun b n hb => ?_⟩, s2⟩
  · by_cases e : b = p
    · subst e; rw [upd_same] at hb; cases hb; exact hp
    · rw [upd_ne e] at hb; exact s _ _ (w.gh b u hb)
  · rw [upd_ne (ne_of_none (w.oh _ _ hb) np)]; exact w.og b u hb
  · obtain ⟨u, z1, z2, z3, z4⟩ := w.mu b n hb
    have hbp := ne_of_none z1 np
    exact ⟨u, s _ _ z1, by rw [upd_ne hbp]; exact z2, z3, z4.mono s2⟩
theorem Wo.mut2 {G H H' O : Hp} {M : MH} {p : Addr} {o : HO} {m : MO} (w : Wo G H M O) (s : Same H H') (np : H p = none) (hp : H' p = some o) (r : RepO G o m) : Wo G H' (mset M p m) O := by
  have w2 := w.same s
  refine ⟨w2.gh, w2.oh, w2.og, fun b n hb => ?_⟩
  by_cases e : b = p
  · subst e; rw [mset_same] at hb; cases hb; exact ⟨o, hp, w.gh.free np, w.oh.free np, r⟩
  · rw [mset_ne e] at hb; exact w2.mu b n hb
def aIsName : ASp := fun ds M Q _ => ∃ z : Str, ds = [.str z] ∧ z.length ≤ 1000 ∧ Q (.bl (isNameB z)) M
def aSplitW : ASp := fun ds M Q _ => ∃ z : Str, ds = [.str z] ∧ z.length ≤ 100000 ∧ Q (sL (splitW z)) M
def aAllN : ASp := fun ds M Q _ => ∃ (d : PD) (ws : List Str), ds = [d] ∧ sqOf M d = some (ws.map PD.str) ∧ ws.length ≤ 10000 ∧ (∀ x ∈ ws, x.length ≤ 1000) ∧ Q (.bl (ws.all isNameB)) M
def aIsPath : ASp := fun ds M Q _ => ∃ (z : Str) (n : Nat), ds = [.str z, .int n] ∧ z.length ≤ 1000 ∧ (Txt.split z dotS).length ≤ 10000 ∧ (∀ x ∈ Txt.split z dotS, x.length ≤ 1000) ∧ Q (.bl (decide (n ≤ (Txt.split z dotS).length) && (Txt.split z dotS).all isNameB)) M
theorem b_isName {vs : List V} {H : Hp} {Q : VK} {E : XK} (h : conc aIsName vs H Q E) : spIsName vs H Q E := by
  obtain ⟨G, O, M, ds, AQ, AX, w, r, ⟨z, rfl, hz, q⟩, k, _⟩ := h
  obtain ⟨v, rfl, e⟩ := rep1 r
  have e : v = .str z := e
  subst e
  exact ⟨z, rfl, hz, fun H' s => k _ (.val _) G H' M (Same.refl _) (w.same s) rfl q⟩
theorem b_splitW {vs : List V} {H : Hp} {Q : VK} {E : XK} (h : conc aSplitW vs H Q E) : spSplitW vs H Q E := by
  obtain ⟨G, O, M, ds, AQ, AX, w, r, ⟨z, rfl, hz, q⟩, k, _⟩ := h
  obtain ⟨v, rfl, e⟩ := rep1 r
  have e : v = .str z := e
  subst e
  refine ⟨z, rfl, hz, fun p H' s np hp => ?_⟩
  obtain ⟨w2, s2⟩ := w.lay2 s np hp
  exact k _ (sL (splitW z)) _ H' M s2 w2 ⟨p, _, rfl, upd_same, RepL.ofStrs _⟩ q
theorem b_allN {vs : List V} {H : Hp} {Q : VK} {E : XK} (h : conc aAllN vs H Q E) : spAllN vs H Q E := by
  obtain ⟨G, O, M, ds, AQ, AX, w, r, ⟨d, ws, rfl, hd, l1, l2, q⟩, k, _⟩ := h
  obtain ⟨v, rfl, e⟩ := rep1 r
  obtain ⟨a, us, rfl, g1, g2⟩ := sq_at w e hd
  rw [g2.strs] at g1
  exact ⟨a, ws, rfl, g1, l1, l2, fun H' s => k _ (.val _) G H' M (Same.refl _) (w.same s) rfl q⟩
theorem b_isPath {vs : List V} {H : Hp} {Q : VK} {E : XK} (h : conc aIsPath vs H Q E) : spIsPath vs H Q E := by
  obtain ⟨G, O, M, ds, AQ, AX, w, r, ⟨z, n, rfl, l0, l1, l2, q⟩, k, _⟩ := h
  obtain ⟨v, u, rfl, e1, e2⟩ := rep2 r
  have e1 : v = .str z := e1
  have e2 : u = .int n := e2
  subst e1 e2
  exact ⟨z, n, rfl, l0, l1, l2, fun H' s => k _ (.val _) G H' M (Same.refl _) (w.same s) rfl q⟩
theorem Callee.imp {P : Program} {w : World} {K : PySem.W.Frag} {mg : Str → Option Value} {base : Heap} {x : Str} {ps : List Str} {sp sp' : Sp} {k : Nat} (c : Callee P w K mg base x ps sp k) (h : ∀ {vs H Q E}, sp' vs H Q E → sp vs H Q E) : Callee P w K mg base x ps sp' k := by
  obtain ⟨f, fd, F, r⟩ := c.ex
  exact ⟨f, fd, F.imp fun _ _ _ _ q => h q, r⟩
end OA

/-! ### the pieces of a text are short -/
namespace OA
open PySem PySem.Spec PyProof.Rows L2
theorem spl_bound (s : Nat) : ∀ (r acc : List Nat), (TL.spl [s] 0 acc r).length ≤ r.length + 1 ∧ (∀ p ∈ TL.spl [s] 0 acc r, p.length ≤ acc.length + r.length) ∧ TL.spl [s] 0 acc r ≠ []
  | [], acc => by
    rw [TL.spl_nil]
    exact ⟨Nat.le_refl _, fun p hp => by rw [List.mem_singleton.mp hp]; exact Nat.le_refl _, by simp⟩
  | c :: r, acc => by
    cases h : TL.pre [s] (c :: r) with
    | true =>
      rw [TL.spl_hit h]
      obtain ⟨h1, h2, h3⟩ := spl_bound s r []
      refine ⟨by simp at h1 ⊢; omega, fun p hp => ?_, by simp⟩
      rcases List.mem_cons.mp hp with e | e
      · rw [e]; omega
      · have := h2 p e; simp at this ⊢; omega
    | false =>
      rw [TL.spl_miss h]
      obtain ⟨h1, h2, h3⟩ := spl_bound s r (acc ++ [c])
      refine ⟨by simp at h1 ⊢; omega, fun p hp => ?_, h3⟩
      have := h2 p hp; simp at this ⊢; omega
theorem split_bound {y : Str} {s : Nat} (ey : TL.tl y = [s]) (hk : y.cps.all (· < 256) = true) (x : Str) : (Txt.split x y).length ≤ x.length + 1 ∧ (∀ p ∈ Txt.split x y, p.length ≤ x.length) ∧ Txt.split x y ≠ [] := by
  have e := TL.split_spl x y (by rw [ey]; simp) (TL.kind_ok hk)
  rw [ey] at e
  obtain ⟨h1, h2, h3⟩ := spl_bound s (TL.tl x) []
  rw [← e] at h1 h2 h3
  have lx : (TL.tl x).length = x.length := (len_list x).symm
  rw [List.length_map, lx] at h1
  refine ⟨h1, fun p hp => ?_, fun z => h3 (by rw [z]; rfl)⟩
  have := h2 (TL.tl p) (List.mem_map.mpr ⟨p, hp, rfl⟩)
  rw [lx] at this
  have lp : (TL.tl p).length = p.length := (len_list p).symm
  rw [lp] at this
  simpa using this
theorem dot_bound (x : Str) : (Txt.split x dotS).length ≤ x.length + 1 ∧ (∀ p ∈ Txt.split x dotS, p.length ≤ x.length) ∧ Txt.split x dotS ≠ [] := split_bound (s := 46) (by decide +kernel) (by decide +kernel) x
theorem spc_bound (x : Str) : (Txt.split x spc).length ≤ x.length + 1 ∧ (∀ p ∈ Txt.split x spc, p.length ≤ x.length) ∧ Txt.split x spc ≠ [] := split_bound (s := 32) (by decide +kernel) (by decide +kernel) x
theorem nl_bound (x : Str) : (Txt.split x nlS).length ≤ x.length + 1 ∧ (∀ p ∈ Txt.split x nlS, p.length ≤ x.length) ∧ Txt.split x nlS ≠ [] := split_bound (s := 10) (by decide +kernel) (by decide +kernel) x
theorem splitW_bound (x : Str) : (splitW x).length ≤ x.length + 1 ∧ ∀ p ∈ splitW x, p.length ≤ x.length := by
  unfold splitW
  obtain ⟨h1, h2, _⟩ := spc_bound x
  split
  · exact ⟨Nat.zero_le _, fun p hp => by cases hp⟩
  · exact ⟨h1, h2⟩
end OA

/-! ### errors with one or two fields: __init__ -/
namespace OA
open PySem PySem.Spec PyProof.Rows L2
section
variable {P : Program} {w : World} {K : PySem.W.Frag} {mg : Str → Option Value} {base : Heap}
theorem sc_BadLine___init__ : FnScope ["self", "line"] ["self", "line"] (defScope (inClass (topS 3) 0)) := ⟨rfl, rfl, rfl, by decide +kernel, rfl, by decide +kernel, by decide +kernel⟩
theorem ok_BadLine {f U : Addr} {fd : FuncData} (F : Fun K "__init__" "BadLine.__init__" (inClass (topS 3) 0) f fd) (TX : OexC K U) (n1 : PySem.W.findIn K (.ref U) "line" = some none) : FnOk P w K mg base CX0 1 f fd ["self", "line"] (spErr1 U "line") := by
  refine F.ok sc_BadLine___init__ (fun vs H Q E h => ?_) (fun cdv A outer s H vs Q E hr h => ?_)
  · obtain ⟨a, x1, rfl, _⟩ := h
    rfl
  · obtain ⟨a, x1, rfl, ha, k⟩ := h
    refine ⟨_, (pss_one (ps_ost (pv 0) (pv 1))), ?_⟩
    refine ⟨_, rfl, _, rfl, a, U, rfl, TX, n1, .inl ⟨ha, fun dx hd hne => ?_⟩⟩
    exact k dx hd hne
theorem sc_TooMany___init__ : FnScope ["self", "line"] ["self", "line"] (defScope (inClass (topS 6) 0)) := ⟨rfl, rfl, rfl, by decide +kernel, rfl, by decide +kernel, by decide +kernel⟩
theorem ok_TooMany {f U : Addr} {fd : FuncData} (F : Fun K "__init__" "TooMany.__init__" (inClass (topS 6) 0) f fd) (TX : OexC K U) (n1 : PySem.W.findIn K (.ref U) "line" = some none) : FnOk P w K mg base CX0 1 f fd ["self", "line"] (spErr1 U "line") := by
  refine F.ok sc_TooMany___init__ (fun vs H Q E h => ?_) (fun cdv A outer s H vs Q E hr h => ?_)
  · obtain ⟨a, x1, rfl, _⟩ := h
    rfl
  · obtain ⟨a, x1, rfl, ha, k⟩ := h
    refine ⟨_, (pss_one (ps_ost (pv 0) (pv 1))), ?_⟩
    refine ⟨_, rfl, _, rfl, a, U, rfl, TX, n1, .inl ⟨ha, fun dx hd hne => ?_⟩⟩
    exact k dx hd hne
theorem sc_DuplicateName___init__ : FnScope ["self", "line", "name"] ["self", "line", "name"] (defScope (inClass (topS 4) 0)) := ⟨rfl, rfl, rfl, by decide +kernel, rfl, by decide +kernel, by decide +kernel⟩
theorem ok_DuplicateName {f U : Addr} {fd : FuncData} (F : Fun K "__init__" "DuplicateName.__init__" (inClass (topS 4) 0) f fd) (TX : OexC K U) (n1 : PySem.W.findIn K (.ref U) "line" = some none) (n2 : PySem.W.findIn K (.ref U) "name" = some none) : FnOk P w K mg base CX0 1 f fd ["self", "line", "name"] (spErr2 U "line" "name") := by
  refine F.ok sc_DuplicateName___init__ (fun vs H Q E h => ?_) (fun cdv A outer s H vs Q E hr h => ?_)
  · obtain ⟨a, x1, x2, rfl, _⟩ := h
    rfl
  · obtain ⟨a, x1, x2, rfl, ha, k⟩ := h
    refine ⟨_, (pss_cons (ps_ost (pv 0) (pv 1))
      (pss_one (ps_ost (pv 0) (pv 2)))), ?_⟩
    refine ⟨_, rfl, _, rfl, a, U, rfl, TX, n1, .inl ⟨ha, fun dx hd hne => ?_⟩⟩
    refine ⟨_, rfl, _, rfl, a, U, rfl, TX, n2, .inr ⟨dx, _, upd_same, by rw [upd_ne hne]; exact upd_same, (by show 1 ≤ 900; decide), ?_⟩⟩
    exact k dx hd hne
theorem sc_UnknownName___init__ : FnScope ["self", "line", "name"] ["self", "line", "name"] (defScope (inClass (topS 5) 0)) := ⟨rfl, rfl, rfl, by decide +kernel, rfl, by decide +kernel, by decide +kernel⟩
theorem ok_UnknownName {f U : Addr} {fd : FuncData} (F : Fun K "__init__" "UnknownName.__init__" (inClass (topS 5) 0) f fd) (TX : OexC K U) (n1 : PySem.W.findIn K (.ref U) "line" = some none) (n2 : PySem.W.findIn K (.ref U) "name" = some none) : FnOk P w K mg base CX0 1 f fd ["self", "line", "name"] (spErr2 U "line" "name") := by
  refine F.ok sc_UnknownName___init__ (fun vs H Q E h => ?_) (fun cdv A outer s H vs Q E hr h => ?_)
  · obtain ⟨a, x1, x2, rfl, _⟩ := h
    rfl
  · obtain ⟨a, x1, x2, rfl, ha, k⟩ := h
    refine ⟨_, (pss_cons (ps_ost (pv 0) (pv 1))
      (pss_one (ps_ost (pv 0) (pv 2)))), ?_⟩
    refine ⟨_, rfl, _, rfl, a, U, rfl, TX, n1, .inl ⟨ha, fun dx hd hne => ?_⟩⟩
    refine ⟨_, rfl, _, rfl, a, U, rfl, TX, n2, .inr ⟨dx, _, upd_same, by rw [upd_ne hne]; exact upd_same, (by show 1 ≤ 900; decide), ?_⟩⟩
    exact k dx hd hne
end
end OA

/-! ### schemas: what reading a line does, errors included; how a schema stands in plain values -/
namespace OA
open PySem PySem.Spec PyProof.Rows L2
inductive SErr where
  | bad
  | dup (n : Str)
  | unk (n : Str)
  | many
structure EC where
  bl : Addr
  dn : Addr
  un : Addr
  tm : Addr
def thr (ec : EC) (AX : AXK) (i : Int) (M : MH) : SErr → Prop
  | .bad => AX ec.bl [("line", .int i)] M
  | .dup n => AX ec.dn [("name", .str n), ("line", .int i)] M
  | .unk n => AX ec.un [("name", .str n), ("line", .int i)] M
  | .many => AX ec.tm [("line", .int i)] M
theorem thr_less {ec : EC} {AX : AXK} {i : Int} {M M0 : MH} {ρ : AEnv} {e : SErr} (s : Sub M0 M) (h : thr ec AX i M0 e) : thr ec (fun C fds M2 => lessX AX C fds ρ M2) i M e := by
  cases e <;> exact ⟨M0, s, h⟩
def optD : Option Str → PD
  | none => .non
  | some x => .str x
def colD (ts : List Tab) : List (Key × PD) := ts.map fun t => (kn t.name, sL t.cols)
def parD (ts : List Tab) : List (Key × PD) := ts.map fun t => (kn t.name, optD t.par)
def ownD (os : List (Str × Str)) : List (Key × PD) := os.map fun o => (kn o.1, PD.str o.2)
def folD (fs : List ((Str × Str) × Str)) : List (List Key × PD) := fs.map fun f => ([kn f.1.1, kn f.1.2], PD.str f.2)
theorem valD_map {α κ : Type} [DecidableEq κ] (key : α → κ) (v : α → PD) (k : κ) : ∀ xs : List α, valD (xs.map fun x => (key x, v x)) k = (xs.find? fun x => decide (key x = k)).map v
  | [] => rfl
  | x :: xs => by
    rw [List.map_cons, List.find?_cons]
    by_cases e : key x = k
    · rw [valD_pos (p := (key x, v x)) e, decide_eq_true e]; rfl
    · rw [valD_neg (p := (key x, v x)) e, decide_eq_false e]; exact valD_map key v k xs
theorem dec_kn (a b : Str) : decide (kn a = kn b) = decide (a = b) := decide_eq_decide.mpr kn_inj
theorem valD_col (ts : List Tab) (n : Str) : valD (colD ts) (kn n) = (tabOf ts n).map fun t => sL t.cols := by
  unfold colD tabOf
  rw [valD_map (fun t : Tab => kn t.name) (fun t : Tab => sL t.cols)]
  simp only [dec_kn]
theorem valD_par (ts : List Tab) (n : Str) : valD (parD ts) (kn n) = (tabOf ts n).map fun t => optD t.par := by
  unfold parD tabOf
  rw [valD_map (fun t : Tab => kn t.name) (fun t : Tab => optD t.par)]
  simp only [dec_kn]
theorem valD_own (os : List (Str × Str)) (n : Str) : valD (ownD os) (kn n) = (os.find? fun o => decide (o.1 = n)).map fun o => PD.str o.2 := by
  unfold ownD
  rw [valD_map (fun o : Str × Str => kn o.1) (fun o : Str × Str => PD.str o.2)]
  simp only [dec_kn]
theorem valD_fol (fs : List ((Str × Str) × Str)) (t c : Str) : valD (folD fs) [kn t, kn c] = (fs.find? fun f => decide (f.1 = (t, c))).map fun f => PD.str f.2 := by
  unfold folD
  rw [valD_map (fun f : (Str × Str) × Str => [kn f.1.1, kn f.1.2]) (fun f : (Str × Str) × Str => PD.str f.2)]
  have e : ∀ f : (Str × Str) × Str, decide ([kn f.1.1, kn f.1.2] = [kn t, kn c]) = decide (f.1 = (t, c)) := fun f => decide_eq_decide.mpr ⟨fun h => by
    injection h with h1 h2
    injection h2 with h2 _
    exact Prod.ext (kn_inj.mp h1) (kn_inj.mp h2), fun h => by rw [h]⟩
  simp only [e]
theorem putD_new {κ : Type} [DecidableEq κ] {kvs : List (κ × PD)} {k : κ} {d : PD} (h : valD kvs k = none) : putD kvs k d = kvs ++ [(k, d)] := by
  unfold putD
  have e : (kvs.any fun kv => decide (kv.1 = k)) = false := by
    rw [List.any_eq_false]
    intro kv hm z
    unfold valD at h
    rw [Option.map_eq_none_iff, List.find?_eq_none] at h
    exact h kv hm z
  rw [e]
  rfl
abbrev sfn : List Str := ["text", "column_lists", "parents", "owners", "following"]
def sfl (txt : Str) (dc dp dow df : PD) : List (Str × PD) := [("text", .str txt), ("column_lists", dc), ("parents", dp), ("owners", dow), ("following", df)]
section
variable (txt : Str) (dc dp dow df : PD)
theorem sl_txt : (sfl txt dc dp dow df).lookup ("text" : Str) = some (.str txt) := by kernel_rfl
theorem sl_col : (sfl txt dc dp dow df).lookup ("column_lists" : Str) = some dc := by kernel_rfl
theorem sl_par : (sfl txt dc dp dow df).lookup ("parents" : Str) = some dp := by kernel_rfl
theorem sl_own : (sfl txt dc dp dow df).lookup ("owners" : Str) = some dow := by kernel_rfl
theorem sl_fol : (sfl txt dc dp dow df).lookup ("following" : Str) = some df := by kernel_rfl
end
/-- a schema to be read, whether it may change or not -/
structure SV (C : Addr) (M : MH) (d : PD) (txt : Str) (s : Sch) (dc dp dow df : PD) : Prop where
  ins : insOf M d = some (C, sfl txt dc dp dow df)
  col : dkOf M dc = some (colD s.tabs)
  par : dkOf M dp = some (parD s.tabs)
  own : dkOf M dow = some (ownD s.owns)
  fol : dtOf M df = some (folD s.fols)
/-- the schema that stands still -/
def schD (C : Addr) (txt : Str) (s : Sch) : PD := .ins C sfn [.str txt, .dK (s.tabs.map fun t => kn t.name) (s.tabs.map fun t => sL t.cols), .dK (s.tabs.map fun t => kn t.name) (s.tabs.map fun t => optD t.par), .dK (s.owns.map fun o => kn o.1) (s.owns.map fun o => PD.str o.2), .dT (s.fols.map fun f => [kn f.1.1, kn f.1.2]) (s.fols.map fun f => PD.str f.2)]
theorem zip_map2 {α β γ : Type} (f : α → β) (g : α → γ) : ∀ xs : List α, (xs.map f).zip (xs.map g) = xs.map fun x => (f x, g x)
  | [] => rfl
  | x :: xs => by rw [List.map_cons, List.map_cons, List.zip_cons_cons, zip_map2 f g xs]; rfl
theorem schD.sv (C : Addr) (M : MH) (txt : Str) (s : Sch) : SV C M (schD C txt s) txt s (.dK (s.tabs.map fun t => kn t.name) (s.tabs.map fun t => sL t.cols)) (.dK (s.tabs.map fun t => kn t.name) (s.tabs.map fun t => optD t.par)) (.dK (s.owns.map fun o => kn o.1) (s.owns.map fun o => PD.str o.2)) (.dT (s.fols.map fun f => [kn f.1.1, kn f.1.2]) (s.fols.map fun f => PD.str f.2)) :=
  ⟨rfl, congrArg some (zip_map2 _ _ _), congrArg some (zip_map2 _ _ _), congrArg some (zip_map2 _ _ _), congrArg some (zip_map2 _ _ _)⟩
theorem SV.mset {C : Addr} {M : MH} {d : PD} {txt : Str} {s : Sch} {dc dp dow df : PD} (h : SV C M d txt s dc dp dow df) {a : Addr} {m : MO} (n : M a = none) : SV C (OA.mset M a m) d txt s dc dp dow df := by
  have look : ∀ {b : Addr}, b ≠ a → OA.mset M a m b = M b := fun hb => mset_ne hb
  have nm : ∀ {b : Addr} {m' : MO}, M b = some m' → OA.mset M a m b = some m' := fun e => mset_old n e
  have gi : ∀ {d : PD} {r}, insOf M d = some r → insOf (OA.mset M a m) d = some r := fun {d r} e => by
    cases d with
    | ins C fs ds => exact e
    | val u =>
      cases u with
      | ref b =>
        have e : (match M b with | some (.ins C fds) => some (C, fds) | _ => none) = some r := e
        show (match OA.mset M a m b with | some (.ins C fds) => some (C, fds) | _ => none) = some r
        cases em : M b with
        | none => rw [em] at e; cases e
        | some m' => rw [nm em]; rw [em] at e; exact e
      | _ => cases e
    | _ => cases e
  have gk : ∀ {d : PD} {r}, dkOf M d = some r → dkOf (OA.mset M a m) d = some r := fun {d r} e => by
    cases d with
    | dK fs ds => exact e
    | val u =>
      cases u with
      | ref b =>
        have e : (match M b with | some (.dK fds) => some fds | _ => none) = some r := e
        show (match OA.mset M a m b with | some (.dK fds) => some fds | _ => none) = some r
        cases em : M b with
        | none => rw [em] at e; cases e
        | some m' => rw [nm em]; rw [em] at e; exact e
      | _ => cases e
    | _ => cases e
  have gt : ∀ {d : PD} {r}, dtOf M d = some r → dtOf (OA.mset M a m) d = some r := fun {d r} e => by
    cases d with
    | dT fs ds => exact e
    | val u =>
      cases u with
      | ref b =>
        have e : (match M b with | some (.dT fds) => some fds | _ => none) = some r := e
        show (match OA.mset M a m b with | some (.dT fds) => some fds | _ => none) = some r
        cases em : M b with
        | none => rw [em] at e; cases e
        | some m' => rw [nm em]; rw [em] at e; exact e
      | _ => cases e
    | _ => cases e
  exact ⟨gi h.ins, gk h.col, gk h.par, gk h.own, gt h.fol⟩
/-- a schema while it is read -/
structure SM (C : Addr) (M : MH) (x cl pr ow fo : Addr) (txt : Str) (s : Sch) : Prop where
  obj : M x = some (.ins C (sfl txt (.ptr cl) (.ptr pr) (.ptr ow) (.ptr fo)))
  col : M cl = some (.dK (colD s.tabs))
  par : M pr = some (.dK (parD s.tabs))
  own : M ow = some (.dK (ownD s.owns))
  fol : M fo = some (.dT (folD s.fols))
  ne1 : cl ≠ pr
  ne2 : cl ≠ ow
  ne3 : pr ≠ ow
theorem insOf_ptr {M : MH} {x C : Addr} {fds : List (Str × PD)} (h : M x = some (.ins C fds)) : insOf M (.ptr x) = some (C, fds) := by
  show (match M x with | some (.ins C fds) => some (C, fds) | _ => none) = _
  rw [h]
theorem dkOf_ptr {M : MH} {x : Addr} {fds : List (Key × PD)} (h : M x = some (.dK fds)) : dkOf M (.ptr x) = some fds := by
  show (match M x with | some (.dK fds) => some fds | _ => none) = _
  rw [h]
theorem dtOf_ptr {M : MH} {x : Addr} {fds : List (List Key × PD)} (h : M x = some (.dT fds)) : dtOf M (.ptr x) = some fds := by
  show (match M x with | some (.dT fds) => some fds | _ => none) = _
  rw [h]
theorem sqOf_ptr {M : MH} {x : Addr} {ds : List PD} (h : M x = some (.lst ds)) : sqOf M (.ptr x) = some ds := by
  show (match M x with | some (.lst fds) => some fds | _ => none) = _
  rw [h]
theorem SM.sv {C : Addr} {M : MH} {x cl pr ow fo : Addr} {txt : Str} {s : Sch} (h : SM C M x cl pr ow fo txt s) : SV C M (.ptr x) txt s (.ptr cl) (.ptr pr) (.ptr ow) (.ptr fo) := ⟨insOf_ptr h.obj, dkOf_ptr h.col, dkOf_ptr h.par, dkOf_ptr h.own, dtOf_ptr h.fol⟩
/-- the rest of the store -/
def Off (cl pr ow fo : Addr) (M M' : MH) : Prop := ∀ b, b ≠ cl → b ≠ pr → b ≠ ow → b ≠ fo → M' b = M b
theorem Off.trans {cl pr ow fo : Addr} {A B D : MH} (h : Off cl pr ow fo A B) (g : Off cl pr ow fo B D) : Off cl pr ow fo A D := fun b h1 h2 h3 h4 => (g b h1 h2 h3 h4).trans (h b h1 h2 h3 h4)
/-! reading -/
def parOf (ts : List Tab) (t : Str) : Option Str := (tabOf ts t).bind Tab.par
def posErr (ts : List Tab) : Str → List Str → Option Str
  | _, [] => none
  | t, [c] => if c ∈ colsOf ts t then none else some c
  | t, n :: r => if parOf ts t = some n then posErr ts n r else some n
def dupC : List Str → List Str → Option Str
  | _, [] => none
  | pre, c :: r => if c ∈ pre then some c else dupC (pre ++ [c]) r
def chLen (ts : List Tab) : Nat → Str → Nat
  | 0, _ => 0
  | n + 1, t => match tabOf ts t with
    | none => 0
    | some tb => match tb.par with
      | none => 1
      | some p => 1 + chLen ts n p
def rdT3 (s : Sch) (t : Str) (par : Option Str) (cols : List Str) : Except SErr Sch :=
  if 4 < cols.length ∨ s.tabs.length = 6 then .error .many
  else match par with
    | none => .ok { s with tabs := s.tabs ++ [⟨t, none, cols⟩] }
    | some p => if chLen s.tabs 7 p = 4 then .error .many else .ok { s with tabs := s.tabs ++ [⟨t, some p, cols⟩] }
def rdT2 (s : Sch) (t : Str) (par : Option Str) (cols : List Str) : Except SErr Sch := match dupC [] cols with
  | some c => .error (.dup c)
  | none => rdT3 s t par cols
def rdT1 (s : Sch) (t : Str) (par : Option Str) (cols : List Str) : Except SErr Sch := match par with
  | none => rdT2 s t none cols
  | some p => if (tabOf s.tabs p).isSome then rdT2 s t (some p) cols else .error (.unk p)
def rdTable (s : Sch) (t : Str) (par : Option Str) (cols : List Str) : Except SErr Sch :=
  if (tabOf s.tabs t).isSome then .error (.dup t) else rdT1 s t par cols
def rdOwner (s : Sch) (t z : Str) : Except SErr Sch :=
  if (tabOf s.tabs t).isSome = false then .error (.unk t)
  else if (s.owns.find? fun o => decide (o.1 = t)).isSome then .error (.dup t)
  else match posErr s.tabs t (Txt.split z dotS) with
    | some n => .error (.unk n)
    | none => .ok { s with owns := s.owns ++ [(t, z)] }
def rdFollow (s : Sch) (t c u : Str) : Except SErr Sch :=
  if (tabOf s.tabs t).isSome = false then .error (.unk t)
  else if c ∉ colsOf s.tabs t then .error (.unk c)
  else if (s.fols.find? fun f => decide (f.1 = (t, c))).isSome then .error (.dup c)
  else match parOf s.tabs t with
    | none => .error (.unk u)
    | some p => if u ∈ colsOf s.tabs p then .ok { s with fols := s.fols ++ [((t, c), u)] } else .error (.unk u)
def isPathB (z : Str) : Bool := decide (1 ≤ (Txt.split z dotS).length) && (Txt.split z dotS).all isNameB
def rdLine (s : Sch) (ws : List Str) : Except SErr Sch := match ws with
  | [] => .error .bad
  | w :: r => if w = Str.ofString "root" ∧ 1 < r.length ∧ r.all isNameB = true then rdTable s (r.getD 0 Str.empty) none (r.drop 1)
    else if w = Str.ofString "table" ∧ 2 < r.length ∧ r.all isNameB = true then rdTable s (r.getD 0 Str.empty) (some (r.getD 1 Str.empty)) (r.drop 2)
    else if w = Str.ofString "owner" ∧ r.length = 2 ∧ isNameB (r.getD 0 Str.empty) = true ∧ isPathB (r.getD 1 Str.empty) = true then rdOwner s (r.getD 0 Str.empty) (r.getD 1 Str.empty)
    else if w = Str.ofString "follow" ∧ r.length = 3 ∧ r.all isNameB = true then rdFollow s (r.getD 0 Str.empty) (r.getD 1 Str.empty) (r.getD 2 Str.empty)
    else .error .bad
/-- lines from the i-th on -/
def rdAll : Sch → Nat → List (List Str) → Except (Nat × SErr) Sch
  | s, _, [] => .ok s
  | s, i, ws :: r => match rdLine s ws with
    | .error e => .error (i, e)
    | .ok s' => rdAll s' (i + 1) r
/-- what is always true of a schema that was read -/
structure WF (s : Sch) : Prop where
  ch : ∀ t tb, tabOf s.tabs t = some tb → ∃ cs, ChainOf s.tabs t cs ∧ cs.length ≤ 4
  six : s.tabs.length ≤ 6
  cols : ∀ tb ∈ s.tabs, tb.cols.length ≤ 4
theorem tabOf_app {ts : List Tab} {n : Str} {t : Tab} (h : tabOf ts n = some t) (r : List Tab) : tabOf (ts ++ r) n = some t := by
  unfold tabOf at h ⊢
  rw [List.find?_append, h]
  rfl
theorem ChainOf.app {ts : List Tab} {n : Str} {cs : List Str} (h : ChainOf ts n cs) (r : List Tab) : ChainOf (ts ++ r) n cs := by
  induction h with
  | root h1 h2 => exact .root (tabOf_app h1 r) h2
  | up h1 h2 _ ih => exact .up (tabOf_app h1 r) h2 ih
theorem chLen_of {ts : List Tab} {n : Str} {cs : List Str} (h : ChainOf ts n cs) : ∀ k, cs.length ≤ k → chLen ts k n = cs.length := by
  induction h with
  | root h1 h2 =>
    intro k hk
    cases k with
    | zero => exact absurd hk (by simp)
    | succ k => simp [chLen, h1, h2]
  | up h1 h2 h3 ih =>
    intro k hk
    cases k with
    | zero => exact absurd hk (by simp)
    | succ k =>
      simp only [chLen, h1, h2]
      rw [ih k (by simpa using hk), List.length_cons]
      omega
theorem tabOf_snoc {ts : List Tab} {n : Str} {t : Tab} (h : tabOf ts n = none) : tabOf (ts ++ [t]) n = if t.name = n then some t else none := by
  unfold tabOf at h ⊢
  rw [List.find?_append, h]
  rw [Option.none_or, List.find?_cons]
  by_cases e : t.name = n
  · rw [decide_eq_true e, if_pos e]
  · rw [decide_eq_false e, if_neg e]; rfl
theorem WF.nil : WF ⟨[], [], []⟩ := ⟨(fun t tb h => nomatch (show none = some tb from h)), (by show 0 ≤ 6; decide), (fun tb h => nomatch h)⟩
theorem WF.table {s s' : Sch} {t : Str} {par : Option Str} {cols : List Str} (w : WF s) (h : rdTable s t par cols = .ok s') : WF s' := by
  unfold rdTable at h
  by_cases h1 : (tabOf s.tabs t).isSome
  · rw [if_pos h1] at h; cases h
  · rw [if_neg h1] at h
    have h1 : tabOf s.tabs t = none := by simpa using h1
    have fin : ∀ (q : Option Str), ¬ (4 < cols.length ∨ s.tabs.length = 6) → (∀ p, q = some p → ∃ cs, ChainOf s.tabs p cs ∧ cs.length < 4) → WF { s with tabs := s.tabs ++ [⟨t, q, cols⟩] } := fun q hm hp => by
      have w6 := w.six
      refine ⟨fun n tb hn => ?_, ?_, fun tb htb => ?_⟩
      · cases e : tabOf s.tabs n with
        | some tb' =>
          have e2 := tabOf_app e [⟨t, q, cols⟩]
          have hn : tabOf (s.tabs ++ [⟨t, q, cols⟩]) n = some tb := hn
          rw [e2] at hn
          cases hn
          obtain ⟨cs, c1, c2⟩ := w.ch n _ e
          exact ⟨cs, c1.app _, c2⟩
        | none =>
          have hn : tabOf (s.tabs ++ [⟨t, q, cols⟩]) n = some tb := hn
          have hs := hn
          rw [tabOf_snoc e] at hn
          by_cases en : t = n
          · subst en
            rw [if_pos rfl] at hn
            cases hn
            cases q with
            | none => exact ⟨[t], .root hs rfl, by simp⟩
            | some p =>
              obtain ⟨cs, c1, c2⟩ := hp p rfl
              exact ⟨t :: cs, .up hs rfl (c1.app _), c2⟩
          · rw [if_neg en] at hn; cases hn
      · show (s.tabs ++ [_]).length ≤ 6
        rw [List.length_append]
        show s.tabs.length + 1 ≤ 6
        omega
      · rcases List.mem_append.mp htb with h | h
        · exact w.cols tb h
        · rw [List.mem_singleton.mp h]; show cols.length ≤ 4; omega
    have two : ∀ q, (∀ p, q = some p → (tabOf s.tabs p).isSome) → rdT2 s t q cols = .ok s' → WF s' := fun q hq h => by
      unfold rdT2 at h
      split at h
      · cases h
      · unfold rdT3 at h
        split at h
        · cases h
        · rename_i hm
          split at h
          · cases h
            exact fin none hm fun p e => by cases e
          · rename_i p
            split at h
            · cases h
            · rename_i hc
              cases h
              refine fin (some p) hm fun p' e => ?_
              cases e
              obtain ⟨tb, htb⟩ := Option.isSome_iff_exists.mp (hq p rfl)
              obtain ⟨cs, c1, c2⟩ := w.ch p tb htb
              rw [chLen_of c1 7 (by omega)] at hc
              exact ⟨cs, c1, by omega⟩
    unfold rdT1 at h
    split at h
    · exact two none (fun p e => by cases e) h
    · rename_i p
      split at h
      · rename_i hp
        exact two (some p) (fun p' e => by cases e; exact hp) h
      · cases h
theorem rdOwner_ok {s s' : Sch} {t z : Str} (h : rdOwner s t z = .ok s') : s' = { s with owns := s.owns ++ [(t, z)] } := by
  unfold rdOwner at h
  by_cases h1 : (tabOf s.tabs t).isSome = false
  · rw [if_pos h1] at h; cases h
  · rw [if_neg h1] at h
    by_cases h2 : (s.owns.find? fun o => decide (o.1 = t)).isSome
    · rw [if_pos h2] at h; cases h
    · rw [if_neg h2] at h
      cases h3 : posErr s.tabs t (Txt.split z dotS) with
      | some n => rw [h3] at h; cases h
      | none => rw [h3] at h; cases h; rfl
theorem rdFollow_ok {s s' : Sch} {t c u : Str} (h : rdFollow s t c u = .ok s') : s' = { s with fols := s.fols ++ [((t, c), u)] } := by
  unfold rdFollow at h
  by_cases h1 : (tabOf s.tabs t).isSome = false
  · rw [if_pos h1] at h; cases h
  · rw [if_neg h1] at h
    by_cases h2 : c ∉ colsOf s.tabs t
    · rw [if_pos h2] at h; cases h
    · rw [if_neg h2] at h
      by_cases h3 : (s.fols.find? fun f => decide (f.1 = (t, c))).isSome
      · rw [if_pos h3] at h; cases h
      · rw [if_neg h3] at h
        cases h4 : parOf s.tabs t with
        | none => rw [h4] at h; cases h
        | some p =>
          rw [h4] at h
          have h : (if u ∈ colsOf s.tabs p then Except.ok { s with fols := s.fols ++ [((t, c), u)] } else Except.error (SErr.unk u)) = .ok s' := h
          by_cases h5 : u ∈ colsOf s.tabs p
          · rw [if_pos h5] at h; cases h; rfl
          · rw [if_neg h5] at h; cases h
theorem rdTable_ok {s s' : Sch} {t : Str} {par : Option Str} {cols : List Str} (h : rdTable s t par cols = .ok s') : s'.owns = s.owns ∧ s'.fols = s.fols := by
  have two : ∀ q, rdT2 s t q cols = .ok s' → s'.owns = s.owns ∧ s'.fols = s.fols := fun q h => by
    unfold rdT2 at h
    split at h
    · cases h
    · unfold rdT3 at h
      split at h
      · cases h
      · split at h
        · cases h; exact ⟨rfl, rfl⟩
        · split at h
          · cases h
          · cases h; exact ⟨rfl, rfl⟩
  unfold rdTable at h
  split at h
  · cases h
  · unfold rdT1 at h
    split at h
    · exact two _ h
    · split at h
      · exact two _ h
      · cases h
theorem rdLine_ok {s s' : Sch} {ws : List Str} (w : WF s) (h : rdLine s ws = .ok s') : WF s' ∧ s'.owns.length ≤ s.owns.length + 1 ∧ s'.fols.length ≤ s.fols.length + 1 := by
  unfold rdLine at h
  split at h
  · cases h
  · split at h
    · obtain ⟨e1, e2⟩ := rdTable_ok h
      exact ⟨w.table h, by rw [e1]; omega, by rw [e2]; omega⟩
    · split at h
      · obtain ⟨e1, e2⟩ := rdTable_ok h
        exact ⟨w.table h, by rw [e1]; omega, by rw [e2]; omega⟩
      · split at h
        · rw [rdOwner_ok h]; exact ⟨⟨w.ch, w.six, w.cols⟩, by simp, by simp⟩
        · split at h
          · rw [rdFollow_ok h]; exact ⟨⟨w.ch, w.six, w.cols⟩, by simp, by simp⟩
          · cases h
end OA

/-! ### check_table, chain_of, check_position: the code with its errors -/
namespace OA
open PySem PySem.Spec PyProof.Rows L2
def aChkT (C : Addr) (ec : EC) : ASp := fun ds M Q AX => ∃ (d : PD) (t : Str) (i : Int) (txt : Str) (s : Sch) (dc dp dow df : PD), ds = [d, .str t, .int i] ∧ SV C M d txt s dc dp dow df ∧ ((tabOf s.tabs t).isSome = true → Q .non M) ∧ ((tabOf s.tabs t).isSome = false → AX ec.un [("name", .str t), ("line", .int i)] M)
def aChainOf (C : Addr) (ec : EC) : ASp := fun ds M Q AX => ∃ (d : PD) (t : Str) (txt : Str) (s : Sch) (dc dp dow df : PD), ds = [d, .str t] ∧ SV C M d txt s dc dp dow df ∧ (∀ cs, ChainOf s.tabs t cs → cs.length ≤ 1000 ∧ ∀ a, M a = none → Q (.ptr a) (mset M a (.lst (cs.map PD.str)))) ∧ ((tabOf s.tabs t).isSome = true → ∃ cs, ChainOf s.tabs t cs) ∧ ((tabOf s.tabs t).isSome = false → AX ec.un [("name", .str t), ("line", .int 0)] M)
def aChkPos (C : Addr) (ec : EC) : ASp := fun ds M Q AX => ∃ (d dn : PD) (t : Str) (i : Int) (ns : List Str) (txt : Str) (s : Sch) (dc dp dow df : PD), ds = [d, .int i, .str t, dn] ∧ SV C M d txt s dc dp dow df ∧ WF s ∧ (tabOf s.tabs t).isSome = true ∧ sqOf M dn = some (ns.map PD.str) ∧ ns ≠ [] ∧ ns.length ≤ 2000 ∧ (posErr s.tabs t ns = none → Q .non M) ∧ (∀ n, posErr s.tabs t ns = some n → AX ec.un [("name", .str n), ("line", .int i)] M)
theorem optD_non {o : Option Str} : isNB (optD o) = o.isNone := by cases o <;> rfl
section
variable {P : Program} {w : World} {K : PySem.W.Frag} {mg : Str → Option Value} {base : Heap}
theorem sc_Schema_check_table : FnScope ["self", "table", "line"] ["self", "table", "line"] (defScope (inClass (topS 16) 7)) := ⟨rfl, rfl, rfl, by decide +kernel, rfl, by decide +kernel, by decide +kernel⟩
theorem ok_check_table {f C : Addr} {ec : EC} {fd : FuncData} (F : FunD K "check_table" "Schema.check_table" (defArgs (inClass (topS 16) 7)) (defBody (inClass (topS 16) 7)) (defScope (inClass (topS 16) 7)) [.int 0] [] f fd) (T : Txt K mg) (TS : STxt K mg C) (c_UnknownName : ErrMk P w K mg base "UnknownName" ec.un ["self", "line", "name"] (spErr2 ec.un "line" "name") 1) : FnOk P w K mg base (L2.CX P w) 3 f fd ["self", "table", "line"] (conc (aChkT C ec)) := by
  refine F.ok sc_Schema_check_table (conc_len fun ds M AQ AX h => ?_) (fun cdv A outer s H vs Q E hr h => ⟨_, (pss_one (ps_if (pt_cmp (pc_dnotin (hu_of hr) (pv 1) (e_fld K (pv 0) rfl))) (pss_one (ps_raiseE c_UnknownName hr (by decide) (takes_of rfl rfl rfl rfl) (by rfl) (pa_cons (pv 2) (pa_cons (pv 1) pa_nil)))) pss_nil)), body_ofX inferInstance h fun ds M AQ AX h => ?_⟩)
  · obtain ⟨d, t, i, txt, s, dc, dp, dow, df, rfl, _⟩ := h
    rfl
  · obtain ⟨d, t, i, txt, s, dc, dp, dow, df, rfl, X, q1, q2⟩ := h
    refine ⟨C, _, _, X.ins, TS.cl, TS.n_col, sl_col .., _, dGet.k X.col rfl, ?_⟩
    rw [valD_col]
    cases e : tabOf s.tabs t with
    | none => exact ⟨_, Sub.refl _, q2 (by rw [e]; rfl)⟩
    | some tb => exact q1 (by rw [e]; rfl)
theorem sc_Schema_chain_of : FnScope ["self", "table", "found"] ["self", "table"] (defScope (inClass (topS 16) 10)) := ⟨rfl, rfl, rfl, by decide +kernel, rfl, by decide +kernel, by decide +kernel⟩
theorem ok_chain_of {f C : Addr} {ec : EC} {fd : FuncData} (F : Fun K "chain_of" "Schema.chain_of" (inClass (topS 16) 10) f fd) (T : Txt K mg) (TS : STxt K mg C) (c_Schema_check_table_1 : MethX P w K mg base C "check_table" ["self", "table", "line"] (conc (aChkT C ec)) 3 [.int 0]) : FnOk P w K mg base (L2.CX P w) 4 f fd ["self", "table"] (conc (aChainOf C ec)) := by
  refine F.okX sc_Schema_chain_of (conc_len fun ds M AQ AX h => ?_) (fun cdv A outer s H vs Q E hr h => ⟨_, (pss_cons (ps_expr (pe_moX c_Schema_check_table_1 hr (by decide) (takes_of rfl rfl rfl rfl) (pv 0) (pa_cons (pv 1) pa_nil)))
      (pss_cons (ps_set (i := 2) sc_Schema_chain_of.nd rfl (Or.inl rfl) (pe_mut (pe_lst pa_nil)))
      (pss_cons (ps_while (passes_of rfl) (pt_cmpR o_notN (pv 1) pe_non (nomark _)) (pss_cons (ps_expr (e_bm K PySem.F.plainAttrs_list PySem.F.slot_list_append PySem.F.type_list_append mt_append (pv 2) (pa_cons (pv 1) pa_nil)))
      (pss_one (ps_set (i := 1) sc_Schema_chain_of.nd rfl (Or.inl rfl) (pe_dget (hu_of hr) (e_fld K (pv 0) rfl) (pv 1) (fun _ _ => rfl))))))
      (pss_one (ps_ret (pv 2)))))), body_ofX inferInstance h fun ds M AQ AX h => ?_⟩)
  · obtain ⟨d, t, txt, s, dc, dp, dow, df, rfl, _⟩ := h
    rfl
  · obtain ⟨d, t, txt, s, dc, dp, dow, df, rfl, X, q1, q2, q3⟩ := h
    refine ⟨_, X.ins, by kernel_rfl, d, t, 0, txt, s, dc, dp, dow, df, rfl, X, fun ht => ?_, fun hn => ⟨_, Sub.refl _, q3 hn⟩⟩
    obtain ⟨cs, hc⟩ := q2 ht
    obtain ⟨hl, q⟩ := q1 cs hc
    refine ⟨by decide, fun a ha => ?_⟩
    refine ⟨fun m ρ' M' => ∃ (o : Option Str) (done rest : List Str), m = rest.length ∧ ρ' = [some d, some (optD o), some (.ptr a)] ∧ M' = mset M a (.lst (done.map PD.str)) ∧ done ++ rest = cs ∧ (match o with | none => rest = [] | some n => ChainOf s.tabs n rest), ⟨_, some t, [], cs, rfl, rfl, rfl, rfl, hc⟩, ?_⟩
    rintro m ρ' M' ⟨o, done, rest, rfl, rfl, rfl, e, hm⟩
    cases o with
    | none =>
      have hm : rest = [] := hm
      subst hm
      rw [List.append_nil] at e
      subst e
      exact q a ha
    | some n =>
      have hm : ChainOf s.tabs n rest := hm
      have X' := X.mset (m := .lst (done.map PD.str ++ [PD.str n])) ha
      have hdl : done.length < cs.length := by
        rw [← e, List.length_append]
        obtain ⟨r, rfl⟩ := hm.head
        simp
      refine ⟨⟨_, sqOf_ptr mset_same⟩, _, mset_same, by rw [List.length_map, sizeLine_eq]; omega, ?_⟩
      rw [mset_mset]
      refine ⟨C, _, _, X'.ins, TS.cl, TS.n_par, sl_par .., ?_⟩
      obtain ⟨tb, o', r', htb, eo, er, hm'⟩ : ∃ tb o' r', tabOf s.tabs n = some tb ∧ tb.par = o' ∧ rest = n :: r' ∧ (match o' with | none => r' = [] | some q => ChainOf s.tabs q r') := by
        cases hm with
        | root h1 h2 => exact ⟨_, none, [], h1, h2, rfl, rfl⟩
        | up h1 h2 h3 => exact ⟨_, some _, _, h1, h2, rfl, h3⟩
      refine ⟨optD o', ?_, r'.length, by rw [er]; exact Nat.lt_succ_self _, o', done ++ [n], r', rfl, rfl, by rw [List.map_append]; rfl, by rw [List.append_assoc, ← e, er]; rfl, hm'⟩
      have := dGet.k (y := .str n) X'.par rfl
      rw [valD_par, htb] at this
      rw [← eo]
      exact this
end
end OA

/-! ### check_position, __init__, read_table: the code with its errors -/
namespace OA
open PySem PySem.Spec PyProof.Rows L2
theorem cutG_last {α β : Type} (f : α → β) (ini : List α) (c : α) : cutD ((ini ++ [c]).map f) none (some (-1)) = ini.map f := by
  unfold cutD
  have e : ((ini ++ [c]).map f).length = ini.length + 1 := by simp
  have e1 : HT.sIx ((ini ++ [c]).map f).length ((ini ++ [c]).map f).length (some (-1)) = ini.length := by rw [e]; simp [HT.sIx]; omega
  have e0 : HT.sIx ((ini ++ [c]).map f).length 0 none = 0 := rfl
  rw [e1, e0]
  simp
theorem atG_last {α β : Type} (f : α → β) (ini : List α) (c : α) : atI ((ini ++ [c]).map f) (-1) = some (f c) := by
  unfold atI ixN
  rw [if_neg (by decide)]
  have e : ((ini ++ [c]).map f).length = ini.length + 1 := by simp
  rw [e, if_pos (by omega)]
  show ((ini ++ [c]).map f)[((-1 : Int) + ((ini.length + 1 : Nat) : Int)).toNat]? = _
  have e2 : ((-1 : Int) + ((ini.length + 1 : Nat) : Int)).toNat = ini.length := by omega
  rw [e2]
  simp
theorem cutG_take {α β : Type} (f : α → β) (l : List α) (i : Nat) (hi : i ≤ l.length) : cutD (l.map f) none (some (i : Int)) = (l.take i).map f := by
  unfold cutD
  have e1 : HT.sIx (l.map f).length (l.map f).length (some (i : Int)) = i := by rw [HT.sIx_nat, List.length_map]; omega
  have e0 : HT.sIx (l.map f).length 0 none = 0 := rfl
  rw [e1, e0]
  simp
theorem cutG_from {α : Type} (l : List α) (k : Nat) (hk : k ≤ l.length) : cutD l (some (k : Int)) none = l.drop k := by
  unfold cutD
  have e1 : HT.sIx l.length 0 (some (k : Int)) = k := by rw [HT.sIx_nat]; omega
  have e0 : HT.sIx l.length l.length none = l.length := rfl
  rw [e1, e0]
  exact List.take_of_length_le (by rw [List.length_drop]; exact Nat.le_refl _)
theorem posErr_cons (ts : List Tab) (t n : Str) {r : List Str} (h : r ≠ []) : posErr ts t (n :: r) = if parOf ts t = some n then posErr ts n r else some n := by
  cases r with
  | nil => exact absurd rfl h
  | cons _ _ => rfl
theorem parOf_some {ts : List Tab} {t : Str} {tb : Tab} (h : tabOf ts t = some tb) : parOf ts t = tb.par := by unfold parOf; rw [h]; rfl
theorem colsOf_some {ts : List Tab} {t : Str} {tb : Tab} (h : tabOf ts t = some tb) : colsOf ts t = tb.cols := by unfold colsOf; rw [h]; rfl
theorem WF.up {s : Sch} (w : WF s) {t n : Str} {tb : Tab} (h : tabOf s.tabs t = some tb) (hp : tb.par = some n) : (tabOf s.tabs n).isSome = true := by
  obtain ⟨cs, hc, _⟩ := w.ch t tb h
  cases hc with
  | root h1 h2 => rw [h] at h1; cases h1; rw [hp] at h2; cases h2
  | up h1 h2 h3 =>
    rw [h] at h1; cases h1
    rw [hp] at h2; cases h2
    cases h3 with
    | root h4 _ => rw [h4]; rfl
    | up h4 _ _ => rw [h4]; rfl
section
variable {P : Program} {w : World} {K : PySem.W.Frag} {mg : Str → Option Value} {base : Heap}
theorem sc_Schema_check_position : FnScope ["self", "line", "table", "names", "name", "parent"] ["self", "line", "table", "names"] (defScope (inClass (topS 16) 15)) := ⟨rfl, rfl, rfl, by decide +kernel, rfl, by decide +kernel, by decide +kernel⟩
theorem ok_check_position {f C : Addr} {ec : EC} {fd : FuncData} (F : Fun K "check_position" "Schema.check_position" (inClass (topS 16) 15) f fd) (T : Txt K mg) (TS : STxt K mg C) (c_UnknownName : ErrMk P w K mg base "UnknownName" ec.un ["self", "line", "name"] (spErr2 ec.un "line" "name") 1) : FnOk P w K mg base (L2.CX P w) 3 f fd ["self", "line", "table", "names"] (conc (aChkPos C ec)) := by
  refine F.okX sc_Schema_check_position (conc_len fun ds M AQ AX h => ?_) (fun cdv A outer s H vs Q E hr h => ⟨_, (pss_cons (ps_for (passes_of rfl) rfl (i_list K (pe_slice (sl_lst K) (pv 3) po_none (po_some (pe_un un_neg pe_int)))) (pg_name (i := 4) sc_Schema_check_position.nd rfl (Or.inl rfl))
      (pss_cons (ps_set (i := 5) sc_Schema_check_position.nd rfl (Or.inl rfl) (pe_dget (hu_of hr) (e_fld K (pv 0) rfl) (pv 2) (fun _ _ => rfl)))
      (pss_cons (ps_if (PW.pt (pw_or (pt_cmpR o_isN (pv 5) pe_non (nomark _)) (pw_or1 (pt_cmpR op_ne (pv 5) (pv 4) (nomark _))))) (pss_one (ps_raiseE c_UnknownName hr (by decide) (takes_of rfl rfl rfl rfl) (by rfl) (pa_cons (pv 1) (pa_cons (pv 4) pa_nil)))) pss_nil)
      (pss_one (ps_set (i := 2) sc_Schema_check_position.nd rfl (Or.inl rfl) (pv 4))))))
      (pss_one (ps_if (pt_cmpR (o_notin K) (pe_ix (ix_lst K) (pv 3) (pe_un un_neg pe_int) (fun _ _ => rfl)) (pe_dget (hu_of hr) (e_fld K (pv 0) rfl) (pv 2) (fun _ _ => rfl)) (by rfl)) (pss_one (ps_raiseE c_UnknownName hr (by decide) (takes_of rfl rfl rfl rfl) (by rfl) (pa_cons (pv 1) (pa_cons (pe_ix (ix_lst K) (pv 3) (pe_un un_neg pe_int) (fun _ _ => rfl)) pa_nil)))) pss_nil))), body_ofX inferInstance h fun ds M AQ AX h => ?_⟩)
  · obtain ⟨d, dn, t, i, ns, txt, s, dc, dp, dow, df, rfl, _⟩ := h
    rfl
  · obtain ⟨d, dn, t, i, ns, txt, s, dc, dp, dow, df, rfl, X, wf, ht, hns, hne, hl, q, qx⟩ := h
    obtain ⟨ini, c, rfl⟩ : ∃ ini c, ns = ini ++ [c] := ⟨ns.dropLast, ns.getLast hne, (List.dropLast_concat_getLast hne).symm⟩
    refine ⟨_, hns, ?_⟩
    rw [cutG_last]
    refine loop_map (fun j ρ' M' => ∃ (t' : Str) (x4 x5 : Option PD), ρ' = [some d, some (.int i), some (.str t'), some dn, x4, x5] ∧ M' = M ∧ (tabOf s.tabs t').isSome = true ∧ posErr s.tabs t' ((ini ++ [c]).drop j) = posErr s.tabs t (ini ++ [c])) ⟨t, none, none, rfl, rfl, ht, rfl⟩ (fun _ _ _ _ => trivial) ?_ ?_
    · rintro j n ρ' M' hn ⟨t', x4, x5, rfl, rfl, ht', hp⟩
      have hjn := get_lt hn
      have ed : (ini ++ [c]).drop j = n :: (ini ++ [c]).drop (j + 1) := by
        have h1 : (ini ++ [c])[j]? = some n := by rw [List.getElem?_append_left hjn]; exact hn
        obtain ⟨h2, h3⟩ := List.getElem?_eq_some_iff.mp h1
        rw [List.drop_eq_getElem_cons h2, h3]
      have hrest : (ini ++ [c]).drop (j + 1) ≠ [] := fun z => by
        have := congrArg List.length z
        rw [List.length_drop, List.length_append] at this
        simp at this
        omega
      rw [ed, posErr_cons _ _ _ hrest] at hp
      obtain ⟨tb, htb⟩ := Option.isSome_iff_exists.mp ht'
      rw [parOf_some htb] at hp
      have dg := dGet.k (y := .str t') X.par rfl
      rw [valD_par, htb] at dg
      refine ⟨C, _, _, X.ins, TS.cl, TS.n_par, sl_par .., ?_⟩
      cases hpar : tb.par with
      | none =>
        rw [hpar, if_neg (by simp)] at hp
        have dg : dGet M' dp (.str t') (some (optD tb.par)) := dg
        rw [hpar] at dg
        exact ⟨_, dg, _, Sub.refl _, qx n hp.symm⟩
      | some p =>
        have dg : dGet M' dp (.str t') (some (optD tb.par)) := dg
        rw [hpar] at dg
        refine ⟨_, dg, ?_⟩
        by_cases e : p = n
        · subst e
          rw [hpar, if_pos rfl] at hp
          refine ifB_F (by simp) ?_
          exact ⟨p, _, _, rfl, rfl, wf.up htb hpar, hp⟩
        · rw [hpar, if_neg (by simpa using e)] at hp
          refine ifB_T (by simp [e]) ?_
          exact ⟨_, Sub.refl _, qx n hp.symm⟩
    · rintro ρ' M' ⟨t', x4, x5, rfl, rfl, ht', hp⟩
      rw [List.drop_left] at hp
      obtain ⟨tb, htb⟩ := Option.isSome_iff_exists.mp ht'
      have dg := dGet.k (y := .str t') X.col rfl
      rw [valD_col, htb] at dg
      have hp : (if c ∈ colsOf s.tabs t' then none else some c) = posErr s.tabs t (ini ++ [c]) := hp
      rw [colsOf_some htb] at hp
      refine ⟨_, _, hns, atG_last PD.str ini c, C, _, _, X.ins, TS.cl, TS.n_col, sl_col .., _, dg, _, .inl rfl, _, rfl, ?_⟩
      by_cases hc : c ∈ tb.cols
      · rw [if_pos hc] at hp
        refine ifB_F (by simp [hc]) ?_
        exact q hp.symm
      · rw [if_neg hc] at hp
        refine ifB_T (by simp [hc]) ?_
        exact ⟨_, _, hns, atG_last PD.str ini c, _, Sub.refl _, qx c hp.symm⟩
def aSInit (C : Addr) : ASp := fun ds M Q _ => ∃ (x : Addr) (txt : Str), ds = [.ptr x, .str txt] ∧ M x = some (.ins C []) ∧ ∀ (cl pr ow fo : Addr) (M' : MH), SM C M' x cl pr ow fo txt ⟨[], [], []⟩ → (∀ b, b ≠ x → b ≠ cl → b ≠ pr → b ≠ ow → b ≠ fo → M' b = M b) → M cl = none → M pr = none → M ow = none → M fo = none → Q .non M'
theorem sc_Schema___init__ : FnScope ["self", "text"] ["self", "text"] (defScope (inClass (topS 16) 3)) := ⟨rfl, rfl, rfl, by decide +kernel, rfl, by decide +kernel, by decide +kernel⟩
theorem ok_sinit {f C : Addr} {fd : FuncData} (F : Fun K "__init__" "Schema.__init__" (inClass (topS 16) 3) f fd) (T : Txt K mg) (TS : STxt K mg C) : FnOk P w K mg base CX0 1 f fd ["self", "text"] (conc (aSInit C)) := by
  refine F.ok sc_Schema___init__ (conc_len fun ds M AQ AX h => ?_) (fun cdv A outer s H vs Q E hr h => ⟨_, (pss_cons (ps_fld (pv 0) (pv 1) rfl)
      (pss_cons (ps_fld (pv 0) pe_dnewK rfl)
      (pss_cons (ps_fld (pv 0) pe_dnewK rfl)
      (pss_cons (ps_fld (pv 0) pe_dnewK rfl)
      (pss_one (ps_fld (pv 0) pe_dnewT rfl)))))), body_of (W := W0) inferInstance h fun ds M AQ AX h => ?_⟩)
  · obtain ⟨x, txt, rfl, _⟩ := h
    rfl
  · obtain ⟨x, txt, rfl, hx, q⟩ := h
    have one : ∀ (Ma : MH) (fs fs' : List (Str × PD)) (d : Addr) (o : MO), Ma x = some (.ins C fs) → Ma d = none → d ≠ x ∧ (mset Ma d o) x = some (.ins C fs) ∧ (mset (mset Ma d o) x (.ins C fs')) x = some (.ins C fs') ∧ (mset (mset Ma d o) x (.ins C fs')) d = some o ∧ (∀ b, b ≠ x → b ≠ d → (mset (mset Ma d o) x (.ins C fs')) b = Ma b) ∧ (∀ b, (mset (mset Ma d o) x (.ins C fs')) b = none → Ma b = none) := fun Ma fs fs' d o h1 h2 => by
      have hd : d ≠ x := fun e => by rw [e, h1] at h2; cases h2
      refine ⟨hd, mset_old h2 h1, mset_same, by rw [mset_ne hd]; exact mset_same, fun b hb hbd => by rw [mset_ne hb, mset_ne hbd], fun b hb => ?_⟩
      by_cases e : b = x
      · rw [e, mset_same] at hb; cases hb
      · rw [mset_ne e] at hb
        by_cases e2 : b = d
        · rw [e2]; exact h2
        · rw [mset_ne e2] at hb; exact hb
    refine ⟨C, [], hx, TS.cl, TS.n_text, by decide, ?_⟩
    have m1 : (mset M x (.ins C [("text", .str txt)])) x = some (.ins C [("text", .str txt)]) := mset_same
    have f1 : ∀ b, b ≠ x → (mset M x (.ins C [("text", .str txt)])) b = M b := fun b hb => mset_ne hb
    have z1 : ∀ b, (mset M x (.ins C [("text", .str txt)])) b = none → M b = none := fun b hb => by
      by_cases e : b = x
      · rw [e, mset_same] at hb; cases hb
      · rw [mset_ne e] at hb; exact hb
    have e1 : mset M x (.ins C (putG "text" (.str txt) [])) = mset M x (.ins C [("text", .str txt)]) := rfl
    rw [e1]
    generalize mset M x (.ins C [("text", .str txt)]) = M1 at m1 f1 z1
    intro cl hcl
    obtain ⟨n2, a2, m2, d2, f2, z2⟩ := one M1 _ [("text", .str txt), ("column_lists", .ptr cl)] cl (.dK []) m1 hcl
    refine ⟨C, _, a2, TS.cl, TS.n_col, by simp, ?_⟩
    have e2 : mset (mset M1 cl (.dK [])) x (.ins C (putG "column_lists" (.ptr cl) [("text", .str txt)])) = mset (mset M1 cl (.dK [])) x (.ins C [("text", .str txt), ("column_lists", .ptr cl)]) := by
      congr 1
    rw [e2]
    generalize mset (mset M1 cl (.dK [])) x (.ins C [("text", .str txt), ("column_lists", .ptr cl)]) = M2 at m2 d2 f2 z2
    intro pr hpr
    obtain ⟨n3, a3, m3, d3, f3, z3⟩ := one M2 _ [("text", .str txt), ("column_lists", .ptr cl), ("parents", .ptr pr)] pr (.dK []) m2 hpr
    refine ⟨C, _, a3, TS.cl, TS.n_par, by simp, ?_⟩
    have e3 : mset (mset M2 pr (.dK [])) x (.ins C (putG "parents" (.ptr pr) [("text", .str txt), ("column_lists", .ptr cl)])) = mset (mset M2 pr (.dK [])) x (.ins C [("text", .str txt), ("column_lists", .ptr cl), ("parents", .ptr pr)]) := by
      congr 1
    rw [e3]
    generalize mset (mset M2 pr (.dK [])) x (.ins C [("text", .str txt), ("column_lists", .ptr cl), ("parents", .ptr pr)]) = M3 at m3 d3 f3 z3
    intro ow how
    obtain ⟨n4, a4, m4, d4, f4, z4⟩ := one M3 _ [("text", .str txt), ("column_lists", .ptr cl), ("parents", .ptr pr), ("owners", .ptr ow)] ow (.dK []) m3 how
    refine ⟨C, _, a4, TS.cl, TS.n_own, by simp, ?_⟩
    have e4 : mset (mset M3 ow (.dK [])) x (.ins C (putG "owners" (.ptr ow) [("text", .str txt), ("column_lists", .ptr cl), ("parents", .ptr pr)])) = mset (mset M3 ow (.dK [])) x (.ins C [("text", .str txt), ("column_lists", .ptr cl), ("parents", .ptr pr), ("owners", .ptr ow)]) := by
      congr 1
    rw [e4]
    generalize mset (mset M3 ow (.dK [])) x (.ins C [("text", .str txt), ("column_lists", .ptr cl), ("parents", .ptr pr), ("owners", .ptr ow)]) = M4 at m4 d4 f4 z4
    intro fo hfo
    obtain ⟨n5, a5, m5, d5, f5, z5⟩ := one M4 _ (sfl txt (.ptr cl) (.ptr pr) (.ptr ow) (.ptr fo)) fo (.dT []) m4 hfo
    refine ⟨C, _, a5, TS.cl, TS.n_fol, by simp, ?_⟩
    have e5 : mset (mset M4 fo (.dT [])) x (.ins C (putG "following" (.ptr fo) [("text", .str txt), ("column_lists", .ptr cl), ("parents", .ptr pr), ("owners", .ptr ow)])) = mset (mset M4 fo (.dT [])) x (.ins C (sfl txt (.ptr cl) (.ptr pr) (.ptr ow) (.ptr fo))) := by
      congr 1
    rw [e5]
    generalize mset (mset M4 fo (.dT [])) x (.ins C (sfl txt (.ptr cl) (.ptr pr) (.ptr ow) (.ptr fo))) = M5 at m5 d5 f5 z5
    have nn : ∀ {Ma : MH} {a b : Addr} {o : MO}, Ma a = some o → Ma b = none → a ≠ b := fun h1 h2 e => by rw [e, h2] at h1; cases h1
    have c_pr := nn d2 hpr
    have c3 : M3 cl = some (.dK []) := by rw [f3 cl n2 c_pr]; exact d2
    have c_ow := nn c3 how
    have c4 : M4 cl = some (.dK []) := by rw [f4 cl n2 c_ow]; exact c3
    have c_fo := nn c4 hfo
    have p_ow := nn d3 how
    have p4 : M4 pr = some (.dK []) := by rw [f4 pr n3 p_ow]; exact d3
    have p_fo := nn p4 hfo
    have o_fo := nn d4 hfo
    refine q cl pr ow fo M5 ⟨m5, ?_, ?_, ?_, d5, c_pr, c_ow, p_ow⟩ (fun b h0 h1 h2 h3 h4 => ?_) (z1 _ hcl) (z1 _ (z2 _ hpr)) (z1 _ (z2 _ (z3 _ how))) (z1 _ (z2 _ (z3 _ (z4 _ hfo))))
    · rw [f5 cl n2 c_fo]; exact c4
    · rw [f5 pr n3 p_fo]; exact p4
    · rw [f5 ow n4 o_fo]; exact d4
    · rw [f5 b h0 h4, f4 b h0 h3, f3 b h0 h2, f2 b h0 h1, f1 b h0]
end
end OA

/-! ### read_table, read_owner, read_follow: the code with its errors -/
namespace OA
open PySem PySem.Spec PyProof.Rows L2
def aRdTable (C : Addr) (ec : EC) : ASp := fun ds M Q AX => ∃ (x cl pr ow fo : Addr) (i : Int) (t : Str) (par : Option Str) (cols : List Str) (txt : Str) (s : Sch), ds = [.ptr x, .int i, .str t, optD par, sL cols] ∧ SM C M x cl pr ow fo txt s ∧ WF s ∧ cols.length ≤ 1000 ∧
  (∀ s', rdTable s t par cols = .ok s' → ∀ M', SM C M' x cl pr ow fo txt s' → Off cl pr ow fo M M' → Q .non M') ∧ (∀ e, rdTable s t par cols = .error e → thr ec AX i M e)
def aRdOwner (C : Addr) (ec : EC) : ASp := fun ds M Q AX => ∃ (x cl pr ow fo : Addr) (i : Int) (t z : Str) (txt : Str) (s : Sch), ds = [.ptr x, .int i, .str t, .str z] ∧ SM C M x cl pr ow fo txt s ∧ WF s ∧ z.length ≤ 1000 ∧ (Txt.split z dotS).length ≤ 2000 ∧ Txt.split z dotS ≠ [] ∧ s.owns.length ≤ 1000 ∧
  (∀ s', rdOwner s t z = .ok s' → ∀ M', SM C M' x cl pr ow fo txt s' → Off cl pr ow fo M M' → Q .non M') ∧ (∀ e, rdOwner s t z = .error e → thr ec AX i M e)
def aRdFollow (C : Addr) (ec : EC) : ASp := fun ds M Q AX => ∃ (x cl pr ow fo : Addr) (i : Int) (t c u : Str) (txt : Str) (s : Sch), ds = [.ptr x, .int i, .str t, .str c, .str u] ∧ SM C M x cl pr ow fo txt s ∧ WF s ∧ s.fols.length ≤ 1000 ∧
  (∀ s', rdFollow s t c u = .ok s' → ∀ M', SM C M' x cl pr ow fo txt s' → Off cl pr ow fo M M' → Q .non M') ∧ (∀ e, rdFollow s t c u = .error e → thr ec AX i M e)
theorem ne_mo {M : MH} {a b : Addr} {m n : MO} (h1 : M a = some m) (h2 : M b = some n) (h : m ≠ n) : a ≠ b := fun e => by rw [e, h2] at h1; exact h (Option.some.inj h1).symm
section
variable {C : Addr} {M : MH} {x cl pr ow fo : Addr} {txt : Str} {s : Sch}
theorem SM.nx (h : SM C M x cl pr ow fo txt s) : x ≠ cl ∧ x ≠ pr ∧ x ≠ ow ∧ x ≠ fo ∧ fo ≠ cl ∧ fo ≠ pr ∧ fo ≠ ow := ⟨ne_mo h.obj h.col (fun z => by cases z), ne_mo h.obj h.par (fun z => by cases z), ne_mo h.obj h.own (fun z => by cases z), ne_mo h.obj h.fol (fun z => by cases z), ne_mo h.fol h.col (fun z => by cases z), ne_mo h.fol h.par (fun z => by cases z), ne_mo h.fol h.own (fun z => by cases z)⟩
theorem SM.putT (h : SM C M x cl pr ow fo txt s) (tb : Tab) : SM C (mset (mset M cl (.dK (colD s.tabs ++ [(kn tb.name, sL tb.cols)]))) pr (.dK (parD s.tabs ++ [(kn tb.name, optD tb.par)]))) x cl pr ow fo txt { s with tabs := s.tabs ++ [tb] } ∧ Off cl pr ow fo M (mset (mset M cl (.dK (colD s.tabs ++ [(kn tb.name, sL tb.cols)]))) pr (.dK (parD s.tabs ++ [(kn tb.name, optD tb.par)]))) := by
  obtain ⟨n1, n2, n3, n4, n5, n6, n7⟩ := h.nx
  refine ⟨⟨by rw [mset_ne n2, mset_ne n1]; exact h.obj, ?_, ?_, by rw [mset_ne h.ne3.symm, mset_ne h.ne2.symm]; exact h.own, by rw [mset_ne n6, mset_ne n5]; exact h.fol, h.ne1, h.ne2, h.ne3⟩, fun b h1 h2 _ _ => by rw [mset_ne h2, mset_ne h1]⟩
  · rw [mset_ne h.ne1, mset_same]; show _ = some (MO.dK (colD (s.tabs ++ [tb]))); unfold colD; rw [List.map_append]; rfl
  · rw [mset_same]; show _ = some (MO.dK (parD (s.tabs ++ [tb]))); unfold parD; rw [List.map_append]; rfl
theorem SM.putO (h : SM C M x cl pr ow fo txt s) (t z : Str) : SM C (mset M ow (.dK (ownD s.owns ++ [(kn t, PD.str z)]))) x cl pr ow fo txt { s with owns := s.owns ++ [(t, z)] } ∧ Off cl pr ow fo M (mset M ow (.dK (ownD s.owns ++ [(kn t, PD.str z)]))) := by
  obtain ⟨n1, n2, n3, n4, n5, n6, n7⟩ := h.nx
  refine ⟨⟨by rw [mset_ne n3]; exact h.obj, by rw [mset_ne h.ne2]; exact h.col, by rw [mset_ne h.ne3]; exact h.par, ?_, by rw [mset_ne n7]; exact h.fol, h.ne1, h.ne2, h.ne3⟩, fun b _ _ h3 _ => mset_ne h3⟩
  rw [mset_same]; show _ = some (MO.dK (ownD (s.owns ++ [(t, z)]))); unfold ownD; rw [List.map_append]; rfl
theorem SM.putF (h : SM C M x cl pr ow fo txt s) (t c u : Str) : SM C (mset M fo (.dT (folD s.fols ++ [([kn t, kn c], PD.str u)]))) x cl pr ow fo txt { s with fols := s.fols ++ [((t, c), u)] } ∧ Off cl pr ow fo M (mset M fo (.dT (folD s.fols ++ [([kn t, kn c], PD.str u)]))) := by
  obtain ⟨n1, n2, n3, n4, n5, n6, n7⟩ := h.nx
  refine ⟨⟨by rw [mset_ne n4]; exact h.obj, by rw [mset_ne n5.symm]; exact h.col, by rw [mset_ne n6.symm]; exact h.par, by rw [mset_ne n7.symm]; exact h.own, ?_, h.ne1, h.ne2, h.ne3⟩, fun b _ _ _ h4 => mset_ne h4⟩
  rw [mset_same]; show _ = some (MO.dT (folD (s.fols ++ [((t, c), u)]))); unfold folD; rw [List.map_append]; rfl
end
theorem dupC_step {pre : List Str} {c : Str} {r : List Str} (h : c ∉ pre) : dupC pre (c :: r) = dupC (pre ++ [c]) r := by
  show (if c ∈ pre then some c else _) = _
  rw [if_neg h]
theorem dupC_hit {pre : List Str} {c : Str} {r : List Str} (h : c ∈ pre) : dupC pre (c :: r) = some c := by
  show (if c ∈ pre then some c else _) = _
  rw [if_pos h]
section
variable {P : Program} {w : World} {K : PySem.W.Frag} {mg : Str → Option Value} {base : Heap}
theorem sc_read_table : FnScope ["schema", "line", "table", "parent", "columns", "at", "column"] ["schema", "line", "table", "parent", "columns"] (defScope (topS 18)) := ⟨rfl, rfl, rfl, by decide +kernel, rfl, by decide +kernel, by decide +kernel⟩
set_option maxHeartbeats 8000000 in
theorem ok_read_table {f C : Addr} {ec : EC} {fd : FuncData} (F : Fun K "read_table" "read_table" (topS 18) f fd) (T : Txt K mg) (TS : STxt K mg C) (c_DuplicateName : ErrMk P w K mg base "DuplicateName" ec.dn ["self", "line", "name"] (spErr2 ec.dn "line" "name") 1) (c_TooMany : ErrMk P w K mg base "TooMany" ec.tm ["self", "line"] (spErr1 ec.tm "line") 1)
    (c_Schema_check_table : MethX P w K mg base C "check_table" ["self", "table", "line"] (conc (aChkT C ec)) 3 []) (c_Schema_chain_of : MethX P w K mg base C "chain_of" ["self", "table"] (conc (aChainOf C ec)) 4 []) : FnOk P w K mg base (L2.CX P w) 5 f fd ["schema", "line", "table", "parent", "columns"] (conc (aRdTable C ec)) := by
  refine F.okX sc_read_table (conc_len fun ds M AQ AX h => ?_) (fun cdv A outer s H vs Q E hr h => ⟨_, (pss_cons (ps_if (pt_cmp (pc_din (hu_of hr) (pv 2) (e_fld K (pv 0) rfl))) (pss_one (ps_raiseE c_DuplicateName hr (by decide) (takes_of rfl rfl rfl rfl) (by rfl) (pa_cons (pv 1) (pa_cons (pv 2) pa_nil)))) pss_nil)
      (C8.pss_cut (ps_if (pt_cmpR o_notN (pv 3) pe_non (nomark _)) (pss_one (ps_expr (pe_moX c_Schema_check_table hr (by decide) (takes_of rfl rfl rfl rfl) (pv 0) (pa_cons (pv 3) (pa_cons (pv 1) pa_nil))))) pss_nil)
      (pss_cons (ps_for (passes_of rfl) rfl (i_enum K (by rfl) T.n_enumerate (pa_cons (pv 4) pa_nil)) (g_tup K (n := 2) rfl (pgs_cons (pg_name (i := 5) sc_read_table.nd rfl (Or.inl rfl)) (pgs_cons (pg_name (i := 6) sc_read_table.nd rfl (Or.inl rfl)) pgs_nil)))
      (pss_one (ps_if (pt_cmpR (o_in K) (pv 6) (pe_slice (sl_lst K) (pv 4) po_none (po_some (pv 5))) (by rfl)) (pss_one (ps_raiseE c_DuplicateName hr (by decide) (takes_of rfl rfl rfl rfl) (by rfl) (pa_cons (pv 1) (pa_cons (pv 6) pa_nil)))) pss_nil)))
      (pss_cons (ps_if (PW.pt (pw_or (pt_cmpR o_gt (pe_callB (c_len K) (by rfl) T.n_len (by decide +kernel) (pa_cons (pv 4) pa_nil)) (e_cval K (pe_glob (v := .ref C) rfl TS.g rfl)) (nomark _)) (pw_or1 (pt_cmpR op_eq (pe_callB c_lenD (by rfl) T.n_len (by decide +kernel) (pa_cons (e_fld K (pv 0) rfl) pa_nil)) (e_cval K (pe_glob (v := .ref C) rfl TS.g rfl)) (nomark _))))) (pss_one (ps_raiseE c_TooMany hr (by decide) (takes_of rfl rfl rfl rfl) (by rfl) (pa_cons (pv 1) pa_nil))) pss_nil)
      (pss_cons (ps_if (PW.pt (pw_and (pt_cmpR o_notN (pv 3) pe_non (nomark _)) (pw_and1 (pt_cmpR op_eq (pe_callB (c_len K) (by rfl) T.n_len (by decide +kernel) (pa_cons (pe_frz (pe_moX c_Schema_chain_of hr (by decide) (takes_of rfl rfl rfl rfl) (pv 0) (pa_cons (pv 3) pa_nil))) pa_nil)) (e_cval K (pe_glob (v := .ref C) rfl TS.g rfl)) (nomark _))))) (pss_one (ps_raiseE c_TooMany hr (by decide) (takes_of rfl rfl rfl rfl) (by rfl) (pa_cons (pv 1) pa_nil))) pss_nil)
      (pss_cons (ps_dput (hu_of hr) (e_fld K (pv 0) rfl) (pv 2) (pe_callTy (c_list K) (by rfl) T.n_list (by decide +kernel) (pa_cons (pv 4) pa_nil)) rfl)
      (pss_one (ps_dput (hu_of hr) (e_fld K (pv 0) rfl) (pv 2) (pv 3) rfl)))))))), body_ofX inferInstance h fun ds M AQ AX h => ?_⟩)
  · obtain ⟨x, cl, pr, ow, fo, i, t, par, cols, txt, s, rfl, _⟩ := h
    rfl
  · obtain ⟨x, cl, pr, ow, fo, i, t, par, cols, txt, s, rfl, X, wf, hl, q, qx⟩ := h
    have h6 := wf.six
    obtain ⟨mc, k1, k2, k3, crd, cv1, cv2, cv3⟩ := TS.cv
    have V := X.sv
    refine ⟨C, _, _, V.ins, TS.cl, TS.n_col, sl_col .., _, dGet.k V.col rfl, ?_⟩
    rw [valD_col]
    cases ht : tabOf s.tabs t with
    | some tb =>
      refine ⟨_, Sub.refl _, qx (.dup t) ?_⟩
      unfold rdTable
      rw [ht]
      rfl
    | none =>
      have hrd : rdTable s t par cols = rdT1 s t par cols := by
        unfold rdTable
        rw [ht]
        rfl
      refine ⟨fun ρ' M' => ρ' = [some (.ptr x), some (.int i), some (.str t), some (optD par), some (sL cols), none, none] ∧ M' = M ∧ (∀ p, par = some p → (tabOf s.tabs p).isSome = true), ?_, ?_⟩
      · cases par with
        | none => exact ⟨rfl, rfl, fun p e => by cases e⟩
        | some p =>
          refine ⟨_, V.ins, by kernel_rfl, .ptr x, p, i, txt, s, _, _, _, _, rfl, V, fun hp => ⟨rfl, rfl, fun p' e => by cases e; exact hp⟩, fun hp => ⟨_, Sub.refl _, qx (.unk p) ?_⟩⟩
          rw [hrd]
          show (if (tabOf s.tabs p).isSome then _ else _) = _
          rw [if_neg (by rw [hp]; exact Bool.false_ne_true)]
      · rintro ρ' M' ⟨rfl, rfl, hpar⟩
        have hrd2 : rdTable s t par cols = rdT2 s t par cols := by
          rw [hrd]
          cases par with
          | none => rfl
          | some p =>
            show (if (tabOf s.tabs p).isSome then _ else _) = _
            rw [if_pos (hpar p rfl)]
        refine loop_enum (xs := cols) (f := PD.str) (fun j ρ' M2 => ∃ x5 x6, ρ' = [some (.ptr x), some (.int i), some (.str t), some (optD par), some (sL cols), x5, x6] ∧ M2 = M' ∧ dupC (cols.take j) (cols.drop j) = dupC [] cols) ⟨none, none, rfl, rfl, rfl⟩ (fun _ _ _ _ => trivial) ?_ ?_
        · rintro j c ρ' M2 hc ⟨x5, x6, rfl, rfl, hd⟩
          have hjc := get_lt hc
          have ed : cols.drop j = c :: cols.drop (j + 1) := by
            obtain ⟨h2, h3⟩ := List.getElem?_eq_some_iff.mp hc
            rw [List.drop_eq_getElem_cons h2, h3]
          rw [ed] at hd
          refine ⟨rfl, _, rfl, _, .inl rfl, cols.take j, cutG_take PD.str cols j (by omega), ?_⟩
          by_cases hm : c ∈ cols.take j
          · refine ifB_T (decide_eq_true hm) ?_
            refine ⟨_, Sub.refl _, qx (.dup c) ?_⟩
            rw [dupC_hit hm] at hd
            rw [hrd2]
            unfold rdT2
            rw [← hd]
          · refine ifB_F (decide_eq_false hm) ?_
            refine ⟨_, _, rfl, rfl, ?_⟩
            rw [← hd, dupC_step hm, take_more hc]
        · rintro ρ' M2 ⟨x5, x6, rfl, rfl, hd⟩
          rw [List.take_length, List.drop_length] at hd
          have hd : dupC [] cols = none := hd.symm
          have hrd2 : rdTable s t par cols = rdT3 s t par cols := by
            rw [hrd2]
            unfold rdT2
            rw [hd]
          have V := X.sv
          have cl0 : (colD s.tabs).length = s.tabs.length := by unfold colD; rw [List.length_map]
          have pl0 : (parD s.tabs).length = s.tabs.length := by unfold parD; rw [List.length_map]
          refine ⟨_, .inl rfl, mc, _, _, crd, cv2, ?_⟩
          by_cases h4 : 4 < cols.length
          · refine ifB_T (decide_eq_true (by rw [List.length_map]; omega)) ?_
            refine ⟨rfl, _, Sub.refl _, qx .many ?_⟩
            rw [hrd2]; unfold rdT3; rw [if_pos (.inl h4)]
          refine ifB_F (decide_eq_false (by rw [List.length_map]; omega)) ?_
          refine ⟨C, _, _, V.ins, TS.cl, TS.n_col, sl_col .., _, V.col, mc, _, _, crd, cv1, ?_⟩
          by_cases h6' : s.tabs.length = 6
          · refine ifB_T (decide_eq_true (by rw [cl0, h6']; rfl)) ?_
            refine ⟨rfl, _, Sub.refl _, qx .many ?_⟩
            rw [hrd2]; unfold rdT3; rw [if_pos (.inr h6')]
          refine ifB_F (decide_eq_false (by rw [cl0]; omega)) ?_
          unfold rdT3 at hrd2
          rw [if_neg (by omega)] at hrd2
          -- the store
          have fin : rdTable s t par cols = .ok { s with tabs := s.tabs ++ [⟨t, par, cols⟩] } → AQ .non (mset (mset M2 cl (.dK (colD s.tabs ++ [(kn t, sL cols)]))) pr (.dK (parD s.tabs ++ [(kn t, optD par)]))) := fun e => q _ e _ (X.putT ⟨t, par, cols⟩).1 (X.putT ⟨t, par, cols⟩).2
          have hv1 : valD (colD s.tabs) (kn t) = none := by rw [valD_col, ht]; rfl
          have hv2 : valD (parD s.tabs) (kn t) = none := by rw [valD_par, ht]; rfl
          obtain ⟨n1, n2, n3, n4, n5, n6, n7⟩ := X.nx
          have st : rdTable s t par cols = .ok { s with tabs := s.tabs ++ [⟨t, par, cols⟩] } → aSeq (aDPut (aFld K (aVar 0) "column_lists") (aVar 2) (aCB fListO (aCons (aVar 4) aNil))) (aDPut (aFld K (aVar 0) "parents") (aVar 2) (aVar 3)) (lessX AX) { nx := fun _ M' => AQ .non M', rt := AQ } [some (.ptr x), some (.int i), some (.str t), some (optD par), some (sL cols), x5, x6] M2 := fun e => by
            refine ⟨_, .inl rfl, C, _, _, V.ins, TS.cl, TS.n_col, sl_col .., .inl ⟨_, kn t, X.col, rfl, by rw [cl0, sizeLine_eq]; omega, ?_⟩⟩
            rw [putD_new hv1]
            have hx2 : (mset M2 cl (.dK (colD s.tabs ++ [(kn t, PD.lst (cols.map PD.str))]))) x = some (.ins C (sfl txt (.ptr cl) (.ptr pr) (.ptr ow) (.ptr fo))) := by rw [mset_ne n1]; exact X.obj
            refine ⟨C, _, _, insOf_ptr hx2, TS.cl, TS.n_par, sl_par .., .inl ⟨_, kn t, by rw [mset_ne X.ne1.symm]; exact X.par, rfl, by rw [pl0, sizeLine_eq]; omega, ?_⟩⟩
            rw [putD_new hv2]
            exact fin e
          cases par with
          | none => exact st hrd2
          | some p =>
            have hp := hpar p rfl
            refine ⟨_, V.ins, by kernel_rfl, .ptr x, p, txt, s, _, _, _, _, rfl, V, fun cs hcs => ?_, fun _ => ?_, fun hn => absurd (hp.symm.trans hn) (by simp)⟩
            · obtain ⟨tb, htb⟩ := Option.isSome_iff_exists.mp hp
              obtain ⟨cs', hc', hl'⟩ := wf.ch p tb htb
              have := hcs.uniq hc'
              subst this
              have hch := chLen_of hcs 7 (by omega)
              refine ⟨by omega, frz_new ⟨_, .inl rfl, mc, _, _, crd, cv3, ?_⟩⟩
              have hrd3 : rdTable s t (some p) cols = (if chLen s.tabs 7 p = 4 then .error .many else .ok { s with tabs := s.tabs ++ [⟨t, some p, cols⟩] }) := hrd2
              by_cases h44 : cs.length = 4
              · refine ifB_T (decide_eq_true (by rw [List.length_map, h44]; rfl)) ?_
                refine ⟨rfl, _, Sub.refl _, qx .many ?_⟩
                rw [hrd3, if_pos (by rw [hch]; exact h44)]
              · refine ifB_F (decide_eq_false (by rw [List.length_map]; omega)) ?_
                rw [if_neg (by rw [hch]; exact h44)] at hrd3
                exact st hrd3
            · obtain ⟨tb, htb⟩ := Option.isSome_iff_exists.mp hp
              obtain ⟨cs', hc', _⟩ := wf.ch p tb htb
              exact ⟨cs', hc'⟩
theorem sc_read_owner : FnScope ["schema", "line", "table", "position"] ["schema", "line", "table", "position"] (defScope (topS 19)) := ⟨rfl, rfl, rfl, by decide +kernel, rfl, by decide +kernel, by decide +kernel⟩
theorem ok_read_owner {f C : Addr} {ec : EC} {fd : FuncData} (F : Fun K "read_owner" "read_owner" (topS 19) f fd) (T : Txt K mg) (TS : STxt K mg C) (c_DuplicateName : ErrMk P w K mg base "DuplicateName" ec.dn ["self", "line", "name"] (spErr2 ec.dn "line" "name") 1)
    (c_Schema_check_table : MethX P w K mg base C "check_table" ["self", "table", "line"] (conc (aChkT C ec)) 3 []) (c_Schema_check_position : MethX P w K mg base C "check_position" ["self", "line", "table", "names"] (conc (aChkPos C ec)) 3 []) : FnOk P w K mg base (L2.CX P w) 5 f fd ["schema", "line", "table", "position"] (conc (aRdOwner C ec)) := by
  refine F.okX sc_read_owner (conc_len fun ds M AQ AX h => ?_) (fun cdv A outer s H vs Q E hr h => ⟨_, (pss_cons (ps_expr (pe_moX c_Schema_check_table hr (by decide) (takes_of rfl rfl rfl rfl) (pv 0) (pa_cons (pv 2) (pa_cons (pv 1) pa_nil))))
      (pss_cons (ps_if (pt_cmp (pc_din (hu_of hr) (pv 2) (e_fld K (pv 0) rfl))) (pss_one (ps_raiseE c_DuplicateName hr (by decide) (takes_of rfl rfl rfl rfl) (by rfl) (pa_cons (pv 1) (pa_cons (pv 2) pa_nil)))) pss_nil)
      (pss_cons (ps_expr (pe_moX c_Schema_check_position hr (by decide) (takes_of rfl rfl rfl rfl) (pv 0) (pa_cons (pv 1) (pa_cons (pv 2) (pa_cons (e_split (pv 3) pe_str) pa_nil)))))
      (pss_one (ps_dput (hu_of hr) (e_fld K (pv 0) rfl) (pv 2) (pv 3) rfl))))), body_ofX inferInstance h fun ds M AQ AX h => ?_⟩)
  · obtain ⟨x, cl, pr, ow, fo, i, t, z, txt, s, rfl, _⟩ := h
    rfl
  · obtain ⟨x, cl, pr, ow, fo, i, t, z, txt, s, rfl, X, wf, hz, hz2, hz3, ho, q, qx⟩ := h
    have V := X.sv
    refine ⟨_, V.ins, by kernel_rfl, .ptr x, t, i, txt, s, _, _, _, _, rfl, V, fun ht => ?_, fun ht => ⟨_, Sub.refl _, qx (.unk t) (by unfold rdOwner; rw [if_pos ht])⟩⟩
    refine ⟨C, _, _, V.ins, TS.cl, TS.n_own, sl_own .., _, dGet.k V.own rfl, ?_⟩
    rw [valD_own]
    have hrd : rdOwner s t z = (if (s.owns.find? fun o => decide (o.1 = t)).isSome then .error (.dup t)
      else match posErr s.tabs t (Txt.split z dotS) with
        | some n => .error (.unk n)
        | none => .ok { s with owns := s.owns ++ [(t, z)] }) := by
      unfold rdOwner
      rw [if_neg (by rw [ht]; simp)]
      first | done | rfl
    cases hf : (s.owns.find? fun o => decide (o.1 = t)) with
    | some o =>
      refine ⟨_, Sub.refl _, qx (.dup t) ?_⟩
      rw [hrd, hf]
      rfl
    | none =>
      rw [hf, if_neg (by simp)] at hrd
      refine ⟨_, V.ins, by kernel_rfl, by decide +kernel, by rw [sizeLine_eq]; omega, .ptr x, _, t, i, Txt.split z dotS, txt, s, _, _, _, _, rfl, V, wf, ht, rfl, hz3, hz2, fun hp => ?_, fun n hp => ⟨_, Sub.refl _, qx (.unk n) (by rw [hrd, hp])⟩⟩
      rw [hp] at hrd
      have hv : valD (ownD s.owns) (kn t) = none := by rw [valD_own, hf]; rfl
      have ol : (ownD s.owns).length = s.owns.length := by unfold ownD; rw [List.length_map]
      refine ⟨C, _, _, V.ins, TS.cl, TS.n_own, sl_own .., .inl ⟨_, kn t, X.own, rfl, by rw [ol, sizeLine_eq]; omega, ?_⟩⟩
      rw [putD_new hv]
      exact q _ hrd _ (X.putO t z).1 (X.putO t z).2
theorem sc_read_follow : FnScope ["schema", "line", "table", "column", "upper", "parent"] ["schema", "line", "table", "column", "upper"] (defScope (topS 20)) := ⟨rfl, rfl, rfl, by decide +kernel, rfl, by decide +kernel, by decide +kernel⟩
theorem ok_read_follow {f C : Addr} {ec : EC} {fd : FuncData} (F : Fun K "read_follow" "read_follow" (topS 20) f fd) (T : Txt K mg) (TS : STxt K mg C) (c_DuplicateName : ErrMk P w K mg base "DuplicateName" ec.dn ["self", "line", "name"] (spErr2 ec.dn "line" "name") 1) (c_UnknownName : ErrMk P w K mg base "UnknownName" ec.un ["self", "line", "name"] (spErr2 ec.un "line" "name") 1)
    (c_Schema_check_table : MethX P w K mg base C "check_table" ["self", "table", "line"] (conc (aChkT C ec)) 3 []) : FnOk P w K mg base (L2.CX P w) 5 f fd ["schema", "line", "table", "column", "upper"] (conc (aRdFollow C ec)) := by
  refine F.okX sc_read_follow (conc_len fun ds M AQ AX h => ?_) (fun cdv A outer s H vs Q E hr h => ⟨_, (pss_cons (ps_expr (pe_moX c_Schema_check_table hr (by decide) (takes_of rfl rfl rfl rfl) (pv 0) (pa_cons (pv 2) (pa_cons (pv 1) pa_nil))))
      (pss_cons (ps_if (pt_cmpR (o_notin K) (pv 3) (pe_dget (hu_of hr) (e_fld K (pv 0) rfl) (pv 2) (fun _ _ => rfl)) (by rfl)) (pss_one (ps_raiseE c_UnknownName hr (by decide) (takes_of rfl rfl rfl rfl) (by rfl) (pa_cons (pv 1) (pa_cons (pv 3) pa_nil)))) pss_nil)
      (pss_cons (ps_if (pt_cmp (pc_din (hu_of hr) (pe_tup (pa_cons (pv 2) (pa_cons (pv 3) pa_nil))) (e_fld K (pv 0) rfl))) (pss_one (ps_raiseE c_DuplicateName hr (by decide) (takes_of rfl rfl rfl rfl) (by rfl) (pa_cons (pv 1) (pa_cons (pv 3) pa_nil)))) pss_nil)
      (pss_cons (ps_set (i := 5) sc_read_follow.nd rfl (Or.inl rfl) (pe_dget (hu_of hr) (e_fld K (pv 0) rfl) (pv 2) (fun _ _ => rfl)))
      (pss_cons (ps_if (PW.pt (pw_or (pt_cmpR o_isN (pv 5) pe_non (nomark _)) (pw_or1 (pt_cmpR (o_notin K) (pv 4) (pe_dget (hu_of hr) (e_fld K (pv 0) rfl) (pv 5) (fun _ _ => rfl)) (by rfl))))) (pss_one (ps_raiseE c_UnknownName hr (by decide) (takes_of rfl rfl rfl rfl) (by rfl) (pa_cons (pv 1) (pa_cons (pv 4) pa_nil)))) pss_nil)
      (pss_one (ps_dput (hu_of hr) (e_fld K (pv 0) rfl) (pe_tup (pa_cons (pv 2) (pa_cons (pv 3) pa_nil))) (pv 4) rfl))))))), body_ofX inferInstance h fun ds M AQ AX h => ?_⟩)
  · obtain ⟨x, cl, pr, ow, fo, i, t, c, u, txt, s, rfl, _⟩ := h
    rfl
  · obtain ⟨x, cl, pr, ow, fo, i, t, c, u, txt, s, rfl, X, wf, hf, q, qx⟩ := h
    have V := X.sv
    refine ⟨_, V.ins, by kernel_rfl, .ptr x, t, i, txt, s, _, _, _, _, rfl, V, fun ht => ?_, fun ht => ⟨_, Sub.refl _, qx (.unk t) (by unfold rdFollow; rw [if_pos ht])⟩⟩
    have hrd : rdFollow s t c u = (if c ∉ colsOf s.tabs t then .error (.unk c)
      else if (s.fols.find? fun f => decide (f.1 = (t, c))).isSome then .error (.dup c)
      else match parOf s.tabs t with
        | none => .error (.unk u)
        | some p => if u ∈ colsOf s.tabs p then .ok { s with fols := s.fols ++ [((t, c), u)] } else .error (.unk u)) := by
      unfold rdFollow
      rw [if_neg (by rw [ht]; simp)]
      first | done | rfl
    obtain ⟨tb, htb⟩ := Option.isSome_iff_exists.mp ht
    rw [colsOf_some htb, parOf_some htb] at hrd
    have dg := dGet.k (y := .str t) V.col rfl
    rw [valD_col, htb] at dg
    refine ⟨C, _, _, V.ins, TS.cl, TS.n_col, sl_col .., _, dg, _, .inl rfl, _, rfl, ?_⟩
    by_cases hc : c ∈ tb.cols
    · refine ifB_F (by simp [hc]) ?_
      rw [if_neg (by simpa using hc)] at hrd
      refine ⟨sz_le (by simp), C, _, _, V.ins, TS.cl, TS.n_fol, sl_fol .., _, dGet.t V.fol rfl, ?_⟩
      rw [valD_fol]
      cases hff : (s.fols.find? fun f => decide (f.1 = (t, c))) with
      | some g =>
        refine ⟨_, Sub.refl _, qx (.dup c) ?_⟩
        rw [hrd, hff]
        rfl
      | none =>
        rw [hff, if_neg (by simp)] at hrd
        have dg2 := dGet.k (y := .str t) V.par rfl
        rw [valD_par, htb] at dg2
        refine ⟨C, _, _, V.ins, TS.cl, TS.n_par, sl_par .., ?_⟩
        have dg2 : dGet M (.ptr pr) (.str t) (some (optD tb.par)) := dg2
        cases hpar : tb.par with
        | none =>
          rw [hpar] at dg2 hrd
          exact ⟨_, dg2, _, Sub.refl _, qx (.unk u) hrd⟩
        | some p =>
          rw [hpar] at dg2 hrd
          refine ⟨_, dg2, ?_⟩
          obtain ⟨tp, htp⟩ := Option.isSome_iff_exists.mp (wf.up htb hpar)
          have hrd : rdFollow s t c u = (if u ∈ colsOf s.tabs p then .ok { s with fols := s.fols ++ [((t, c), u)] } else .error (.unk u)) := hrd
          rw [colsOf_some htp] at hrd
          have dg3 := dGet.k (y := .str p) V.col rfl
          rw [valD_col, htp] at dg3
          refine ⟨C, _, _, V.ins, TS.cl, TS.n_col, sl_col .., _, dg3, _, .inl rfl, _, rfl, ?_⟩
          by_cases hu : u ∈ tp.cols
          · refine ifB_F (by simp [hu]) ?_
            rw [if_pos hu] at hrd
            have hv : valD (folD s.fols) [kn t, kn c] = none := by rw [valD_fol, hff]; rfl
            have fl : (folD s.fols).length = s.fols.length := by unfold folD; rw [List.length_map]
            refine ⟨C, _, _, V.ins, TS.cl, TS.n_fol, sl_fol .., sz_le (by simp), .inr ⟨_, _, [kn t, kn c], X.fol, rfl, rfl, by rw [fl, sizeLine_eq]; omega, ?_⟩⟩
            rw [putD_new hv]
            exact q _ hrd _ (X.putF t c u).1 (X.putF t c u).2
          · refine ifB_T (by simp [hu]) ?_
            rw [if_neg hu] at hrd
            exact ⟨_, Sub.refl _, qx (.unk u) hrd⟩
    · refine ifB_T (by simp [hc]) ?_
      rw [if_pos hc] at hrd
      exact ⟨_, Sub.refl _, qx (.unk c) hrd⟩
end
end OA

/-! ### read_line, read: the code with its errors -/
namespace OA
open PySem PySem.Spec PyProof.Rows L2
theorem ifS_of {t : AT} {a b : AS} {AW : AWX} {D : AEnds} {ρ : AEnv} {M : MH} (k : Bool) (ht : ∀ Q : Bool → MH → Prop, Q k M → t AW ρ M Q) (h1 : k = true → a AW D ρ M) (h2 : k = false → b AW D ρ M) : aIfS t a b AW D ρ M :=
  ht _ (by cases k with | true => exact h1 rfl | false => exact h2 rfl)
def aRdLine (C : Addr) (ec : EC) : ASp := fun ds M Q AX => ∃ (x cl pr ow fo : Addr) (i : Int) (ws : List Str) (txt : Str) (s : Sch), ds = [.ptr x, .int i, sL ws] ∧ SM C M x cl pr ow fo txt s ∧ WF s ∧ ws.length ≤ 1000 ∧ (∀ q ∈ ws, q.length ≤ 1000) ∧ s.owns.length ≤ 1000 ∧ s.fols.length ≤ 1000 ∧
  (∀ s', rdLine s ws = .ok s' → ∀ M', SM C M' x cl pr ow fo txt s' → Off cl pr ow fo M M' → Q .non M') ∧ (∀ e, rdLine s ws = .error e → thr ec AX i M e)
theorem at_getD {r : List Str} {j : Nat} (h : j < r.length) : r[j]? = some (r.getD j Str.empty) := by
  rw [List.getD_eq_getElem?_getD, List.getElem?_eq_getElem h]; rfl
section
variable {P : Program} {w : World} {K : PySem.W.Frag} {mg : Str → Option Value} {base : Heap}
theorem sc_read_line : FnScope ["schema", "line", "words", "form"] ["schema", "line", "words"] (defScope (topS 17)) := ⟨rfl, rfl, rfl, by decide +kernel, rfl, by decide +kernel, by decide +kernel⟩
set_option maxHeartbeats 8000000 in
theorem ok_read_line {f C : Addr} {ec : EC} {fd : FuncData} (F : Fun K "read_line" "read_line" (topS 17) f fd) (T : Txt K mg) (c_BadLine : ErrMk P w K mg base "BadLine" ec.bl ["self", "line"] (spErr1 ec.bl "line") 1) (c_all_names : Callee P w K mg base "all_names" ["words"] (conc aAllN) 2) (c_is_path : Callee P w K mg base "is_path" ["word", "least"] (conc aIsPath) 3)
    (c_read_table : CalleeX P w K mg base "read_table" ["schema", "line", "table", "parent", "columns"] (conc (aRdTable C ec)) 5) (c_read_owner : CalleeX P w K mg base "read_owner" ["schema", "line", "table", "position"] (conc (aRdOwner C ec)) 5) (c_read_follow : CalleeX P w K mg base "read_follow" ["schema", "line", "table", "column", "upper"] (conc (aRdFollow C ec)) 5) : FnOk P w K mg base (L2.CX P w) 6 f fd ["schema", "line", "words"] (conc (aRdLine C ec)) := by
  refine F.okX sc_read_line (conc_len fun ds M AQ AX h => ?_) (fun cdv A outer s H vs Q E hr h => ⟨_, (C8.pss_cut (ps_set (i := 3) sc_read_line.nd rfl (Or.inl rfl) (pe_ifExp (t_truth K (pv 2) (by intro _; rfl)) (pe_ix (ix_lst K) (pv 2) pe_int (fun _ _ => rfl)) pe_str))
      (pss_one (ps_if (PW.pt (pw_and (pt_cmpR op_eq (pv 3) pe_str (nomark _)) (pw_and (pt_cmpR o_gt (pe_callB (c_len K) (by rfl) T.n_len (by decide +kernel) (pa_cons (pv 2) pa_nil)) pe_int (nomark _)) (pw_and1 (pt_val (pe_co c_all_names hr (by decide) (by rfl) (pa_cons (pe_slice (sl_lst K) (pv 2) (po_some pe_int) po_none) pa_nil))))))) (pss_one (ps_expr (pe_coX c_read_table hr (by decide) (takes_of rfl rfl rfl rfl) (by rfl) (pa_cons (pv 0) (pa_cons (pv 1) (pa_cons (pe_ix (ix_lst K) (pv 2) pe_int (fun _ _ => rfl)) (pa_cons pe_non (pa_cons (pe_slice (sl_lst K) (pv 2) (po_some pe_int) po_none) pa_nil)))))))) (pss_one (ps_if (PW.pt (pw_and (pt_cmpR op_eq (pv 3) pe_str (nomark _)) (pw_and (pt_cmpR o_gt (pe_callB (c_len K) (by rfl) T.n_len (by decide +kernel) (pa_cons (pv 2) pa_nil)) pe_int (nomark _)) (pw_and1 (pt_val (pe_co c_all_names hr (by decide) (by rfl) (pa_cons (pe_slice (sl_lst K) (pv 2) (po_some pe_int) po_none) pa_nil))))))) (pss_one (ps_expr (pe_coX c_read_table hr (by decide) (takes_of rfl rfl rfl rfl) (by rfl) (pa_cons (pv 0) (pa_cons (pv 1) (pa_cons (pe_ix (ix_lst K) (pv 2) pe_int (fun _ _ => rfl)) (pa_cons (pe_ix (ix_lst K) (pv 2) pe_int (fun _ _ => rfl)) (pa_cons (pe_slice (sl_lst K) (pv 2) (po_some pe_int) po_none) pa_nil)))))))) (pss_one (ps_if (PW.pt (pw_and (pt_cmpR op_eq (pv 3) pe_str (nomark _)) (pw_and (pt_cmpR op_eq (pe_callB (c_len K) (by rfl) T.n_len (by decide +kernel) (pa_cons (pv 2) pa_nil)) pe_int (nomark _)) (pw_and (pt_val (pe_co c_all_names hr (by decide) (by rfl) (pa_cons (pe_slice (sl_lst K) (pv 2) (po_some pe_int) (po_some pe_int)) pa_nil))) (pw_and1 (pt_val (pe_co c_is_path hr (by decide) (by rfl) (pa_cons (pe_ix (ix_lst K) (pv 2) pe_int (fun _ _ => rfl)) (pa_cons pe_int pa_nil))))))))) (pss_one (ps_expr (pe_coX c_read_owner hr (by decide) (takes_of rfl rfl rfl rfl) (by rfl) (pa_cons (pv 0) (pa_cons (pv 1) (pa_cons (pe_ix (ix_lst K) (pv 2) pe_int (fun _ _ => rfl)) (pa_cons (pe_ix (ix_lst K) (pv 2) pe_int (fun _ _ => rfl)) pa_nil))))))) (pss_one (ps_if (PW.pt (pw_and (pt_cmpR op_eq (pv 3) pe_str (nomark _)) (pw_and (pt_cmpR op_eq (pe_callB (c_len K) (by rfl) T.n_len (by decide +kernel) (pa_cons (pv 2) pa_nil)) pe_int (nomark _)) (pw_and1 (pt_val (pe_co c_all_names hr (by decide) (by rfl) (pa_cons (pe_slice (sl_lst K) (pv 2) (po_some pe_int) po_none) pa_nil))))))) (pss_one (ps_expr (pe_coX c_read_follow hr (by decide) (takes_of rfl rfl rfl rfl) (by rfl) (pa_cons (pv 0) (pa_cons (pv 1) (pa_cons (pe_ix (ix_lst K) (pv 2) pe_int (fun _ _ => rfl)) (pa_cons (pe_ix (ix_lst K) (pv 2) pe_int (fun _ _ => rfl)) (pa_cons (pe_ix (ix_lst K) (pv 2) pe_int (fun _ _ => rfl)) pa_nil)))))))) (pss_one (ps_raiseE c_BadLine hr (by decide) (takes_of rfl rfl rfl rfl) (by rfl) (pa_cons (pv 1) pa_nil)))))))))))), body_ofX inferInstance h fun ds M AQ AX h => ?_⟩)
  · obtain ⟨x, cl, pr, ow, fo, i, ws, txt, s, rfl, _⟩ := h
    rfl
  · obtain ⟨x, cl, pr, ow, fo, i, ws, txt, s, rfl, X, wf, n1, n2, n3, n4, q, qx⟩ := h
    refine ⟨fun ρ' M' => ρ' = [some (.ptr x), some (.int i), some (sL ws), some (.str (ws.headD Str.empty))] ∧ M' = M, ?_, ?_⟩
    · cases ws with
      | nil => exact ⟨rfl, rfl⟩
      | cons w r => exact ⟨_, _, rfl, atI_at (i := 0) rfl, rfl, rfl⟩
    rintro ρ' M' ⟨rfl, rfl⟩
    cases ws with
    | nil => exact ⟨rfl, _, Sub.refl _, qx .bad rfl⟩
    | cons w r =>
      have n1 : r.length + 1 ≤ 1000 := n1
      have at_ : ∀ j, j < r.length → ((w :: r).map PD.str)[j + 1]? = some (PD.str (r.getD j Str.empty)) := fun j hj => map_at (f := PD.str) (xs := w :: r) (i := j + 1) (show r[j]? = _ from at_getD hj)
      have dr : ∀ j, j ≤ r.length + 1 → cutD ((w :: r).map PD.str) (some (j : Int)) none = ((w :: r).drop j).map PD.str := fun j hj => by rw [cutG_from _ j (by simpa using hj), List.map_drop]
      have nr : ∀ y ∈ r, y.length ≤ 1000 := fun y hy => n2 y (List.mem_cons_of_mem _ hy)
      have ng : ∀ j, j < r.length → (r.getD j Str.empty).length ≤ 1000 := fun j hj => nr _ (List.mem_of_getElem? (at_getD hj))
      have lw : ((w :: r).map PD.str).length = r.length + 1 := by rw [List.length_map]; rfl
      have fin : ∀ (s' : Sch), rdLine s (w :: r) = .ok s' → ∀ M'', SM C M'' x cl pr ow fo txt s' → Off cl pr ow fo M' M'' → AQ .non M'' := q
      -- root
      refine ifS_of (decide (w = Str.ofString "root" ∧ 1 < r.length ∧ r.all isNameB = true)) (fun Q hq => ?_) (fun hk => ?_) (fun hk => ?_)
      · by_cases h1 : w = Str.ofString "root"
        · refine ifB_T (decide_eq_true h1) ⟨_, .inl rfl, ?_⟩
          by_cases h2 : 1 < r.length
          · refine ifB_T (decide_eq_true (by rw [lw]; omega)) ⟨_, rfl, _, r, rfl, by rw [show ((1 : Int)) = ((1 : Nat) : Int) from rfl, dr 1 (by omega)]; rfl, by omega, fun y hy => by have := nr y hy; omega, ?_⟩
            have e : decide (w = Str.ofString "root" ∧ 1 < r.length ∧ r.all isNameB = true) = r.all isNameB := by
              cases hh : r.all isNameB with
              | true => exact decide_eq_true ⟨h1, h2, rfl⟩
              | false => exact decide_eq_false (fun z => by cases z.2.2)
            rw [e] at hq
            exact hq
          · refine ifB_F (decide_eq_false (by rw [lw]; omega)) ?_
            rw [decide_eq_false (fun z => h2 z.2.1)] at hq
            exact hq
        · refine ifB_F (decide_eq_false h1) ?_
          rw [decide_eq_false (fun z => h1 z.1)] at hq
          exact hq
      · have hk := of_decide_eq_true hk
        have e : rdLine s (w :: r) = rdTable s (r.getD 0 Str.empty) none (r.drop 1) := by
          show (if _ then _ else _) = _
          rw [if_pos hk]
        refine ⟨_, _, rfl, atI_at (at_ 0 (by omega)), _, rfl, x, cl, pr, ow, fo, i, r.getD 0 Str.empty, none, r.drop 1, txt, s, ?_, X, wf, by rw [List.length_drop]; omega, fun s' hs => fin s' (e.trans hs), fun er he => thr_less (Sub.refl _) (qx er (e.trans he))⟩
        rw [show ((2 : Int)) = ((2 : Nat) : Int) from rfl, dr 2 (by omega)]
        rfl
      have hk1 := of_decide_eq_false hk
      -- table
      refine ifS_of (decide (w = Str.ofString "table" ∧ 2 < r.length ∧ r.all isNameB = true)) (fun Q hq => ?_) (fun hk => ?_) (fun hk => ?_)
      · by_cases h1 : w = Str.ofString "table"
        · refine ifB_T (decide_eq_true h1) ⟨_, .inl rfl, ?_⟩
          by_cases h2 : 2 < r.length
          · refine ifB_T (decide_eq_true (by rw [lw]; omega)) ⟨_, rfl, _, r, rfl, by rw [show ((1 : Int)) = ((1 : Nat) : Int) from rfl, dr 1 (by omega)]; rfl, by omega, fun y hy => by have := nr y hy; omega, ?_⟩
            have e : decide (w = Str.ofString "table" ∧ 2 < r.length ∧ r.all isNameB = true) = r.all isNameB := by
              cases hh : r.all isNameB with
              | true => exact decide_eq_true ⟨h1, h2, rfl⟩
              | false => exact decide_eq_false (fun z => by cases z.2.2)
            rw [e] at hq
            exact hq
          · refine ifB_F (decide_eq_false (by rw [lw]; omega)) ?_
            rw [decide_eq_false (fun z => h2 z.2.1)] at hq
            exact hq
        · refine ifB_F (decide_eq_false h1) ?_
          rw [decide_eq_false (fun z => h1 z.1)] at hq
          exact hq
      · have hk := of_decide_eq_true hk
        have e : rdLine s (w :: r) = rdTable s (r.getD 0 Str.empty) (some (r.getD 1 Str.empty)) (r.drop 2) := by
          show (if _ then _ else if _ then _ else _) = _
          rw [if_neg hk1, if_pos hk]
        refine ⟨_, _, rfl, atI_at (at_ 0 (by omega)), _, _, rfl, atI_at (at_ 1 (by omega)), _, rfl, x, cl, pr, ow, fo, i, r.getD 0 Str.empty, some (r.getD 1 Str.empty), r.drop 2, txt, s, ?_, X, wf, by rw [List.length_drop]; omega, fun s' hs => fin s' (e.trans hs), fun er he => thr_less (Sub.refl _) (qx er (e.trans he))⟩
        rw [show ((3 : Int)) = ((3 : Nat) : Int) from rfl, dr 3 (by omega)]
        rfl
      have hk2 := of_decide_eq_false hk
      -- owner
      refine ifS_of (decide (w = Str.ofString "owner" ∧ r.length = 2 ∧ isNameB (r.getD 0 Str.empty) = true ∧ isPathB (r.getD 1 Str.empty) = true)) (fun Q hq => ?_) (fun hk => ?_) (fun hk => ?_)
      · by_cases h1 : w = Str.ofString "owner"
        · refine ifB_T (decide_eq_true h1) ⟨_, .inl rfl, ?_⟩
          by_cases h2 : r.length = 2
          · obtain ⟨a, z, rfl⟩ : ∃ a z, r = [a, z] := by
              match r, h2 with
              | [a, z], _ => exact ⟨a, z, rfl⟩
            refine ⟨_, rfl, _, [a], rfl, rfl, by simp, fun y hy => by have := nr y (by rw [List.mem_singleton.mp hy]; simp); omega, ?_⟩
            have ea : [a].all isNameB = isNameB a := by simp
            rw [ea]
            by_cases h3 : isNameB a = true
            · refine ifB_T h3 ⟨_, _, rfl, atI_at (at_ 1 (by simp)), z, 1, rfl, ?_⟩
              have lz := nr z (by simp)
              obtain ⟨b1, b2, b3⟩ := dot_bound z
              refine ⟨by omega, by omega, fun y hy => by have := b2 y hy; omega, ?_⟩
              have e : decide (w = Str.ofString "owner" ∧ [a, z].length = 2 ∧ isNameB ([a, z].getD 0 Str.empty) = true ∧ isPathB ([a, z].getD 1 Str.empty) = true) = isPathB z := by
                cases hh : isPathB z with
                | true => exact decide_eq_true ⟨h1, rfl, h3, hh⟩
                | false => exact decide_eq_false (fun y => by have := y.2.2.2; rw [show [a, z].getD 1 Str.empty = z from rfl, hh] at this; cases this)
              rw [e] at hq
              exact hq
            · refine ifB_F (by simpa using h3) ?_
              rw [decide_eq_false (fun z => h3 z.2.2.1)] at hq
              exact hq
          · refine ifB_F (decide_eq_false (by rw [lw]; omega)) ?_
            rw [decide_eq_false (fun z => h2 z.2.1)] at hq
            exact hq
        · refine ifB_F (decide_eq_false h1) ?_
          rw [decide_eq_false (fun z => h1 z.1)] at hq
          exact hq
      · have hk := of_decide_eq_true hk
        have e : rdLine s (w :: r) = rdOwner s (r.getD 0 Str.empty) (r.getD 1 Str.empty) := by
          show (if _ then _ else if _ then _ else if _ then _ else _) = _
          rw [if_neg hk1, if_neg hk2, if_pos hk]
        have hr := hk.2.1
        have lz := ng 1 (by omega)
        obtain ⟨b1, b2, b3⟩ := dot_bound (r.getD 1 Str.empty)
        exact ⟨_, _, rfl, atI_at (at_ 0 (by omega)), _, _, rfl, atI_at (at_ 1 (by omega)), x, cl, pr, ow, fo, i, r.getD 0 Str.empty, r.getD 1 Str.empty, txt, s, rfl, X, wf, by omega, by omega, b3, n3, fun s' hs => fin s' (e.trans hs), fun er he => thr_less (Sub.refl _) (qx er (e.trans he))⟩
      have hk3 := of_decide_eq_false hk
      -- follow
      refine ifS_of (decide (w = Str.ofString "follow" ∧ r.length = 3 ∧ r.all isNameB = true)) (fun Q hq => ?_) (fun hk => ?_) (fun hk => ?_)
      · by_cases h1 : w = Str.ofString "follow"
        · refine ifB_T (decide_eq_true h1) ⟨_, .inl rfl, ?_⟩
          by_cases h2 : r.length = 3
          · refine ifB_T (decide_eq_true (by rw [lw, h2]; rfl)) ⟨_, rfl, _, r, rfl, by rw [show ((1 : Int)) = ((1 : Nat) : Int) from rfl, dr 1 (by omega)]; rfl, by omega, fun y hy => by have := nr y hy; omega, ?_⟩
            have e : decide (w = Str.ofString "follow" ∧ r.length = 3 ∧ r.all isNameB = true) = r.all isNameB := by
              cases hh : r.all isNameB with
              | true => exact decide_eq_true ⟨h1, h2, rfl⟩
              | false => exact decide_eq_false (fun z => by cases z.2.2)
            rw [e] at hq
            exact hq
          · refine ifB_F (decide_eq_false (by rw [lw]; omega)) ?_
            rw [decide_eq_false (fun z => h2 z.2.1)] at hq
            exact hq
        · refine ifB_F (decide_eq_false h1) ?_
          rw [decide_eq_false (fun z => h1 z.1)] at hq
          exact hq
      · have hk := of_decide_eq_true hk
        have e : rdLine s (w :: r) = rdFollow s (r.getD 0 Str.empty) (r.getD 1 Str.empty) (r.getD 2 Str.empty) := by
          show (if _ then _ else if _ then _ else if _ then _ else if _ then _ else _) = _
          rw [if_neg hk1, if_neg hk2, if_neg hk3, if_pos hk]
        have hr := hk.2.1
        exact ⟨_, _, rfl, atI_at (at_ 0 (by omega)), _, _, rfl, atI_at (at_ 1 (by omega)), _, _, rfl, atI_at (at_ 2 (by omega)), x, cl, pr, ow, fo, i, r.getD 0 Str.empty, r.getD 1 Str.empty, r.getD 2 Str.empty, txt, s, rfl, X, wf, n4, fun s' hs => fin s' (e.trans hs), fun er he => thr_less (Sub.refl _) (qx er (e.trans he))⟩
      · have hk4 := of_decide_eq_false hk
        have e : rdLine s (w :: r) = .error .bad := by
          show (if _ then _ else if _ then _ else if _ then _ else if _ then _ else _) = _
          rw [if_neg hk1, if_neg hk2, if_neg hk3, if_neg hk4]
        exact ⟨rfl, _, Sub.refl _, qx .bad e⟩
def aRead (C : Addr) (ec : EC) : ASp := fun ds M Q AX => ∃ (txt : Str), ds = [.str txt] ∧ txt.length ≤ 400000 ∧ (Txt.split txt nlS).length ≤ 1000 ∧ (∀ l ∈ Txt.split txt nlS, (splitW l).length ≤ 1000 ∧ l.length ≤ 100000 ∧ ∀ q ∈ splitW l, q.length ≤ 1000) ∧
  (∀ s', rdAll ⟨[], [], []⟩ 1 ((Txt.split txt nlS).map splitW) = .ok s' → WF s' → Q (schD C txt s') M) ∧ (∀ (i : Nat) e, rdAll ⟨[], [], []⟩ 1 ((Txt.split txt nlS).map splitW) = .error (i, e) → thr ec AX i M e)
/-- a schema that was read stands still -/
theorem SM.fz {C : Addr} {M M0 : MH} {x cl pr ow fo : Addr} {txt : Str} {s : Sch} (h : SM C M x cl pr ow fo txt s) (sub : ∀ b m, M0 b = some m → M b = some m ∧ b ≠ x ∧ b ≠ cl ∧ b ≠ pr ∧ b ≠ ow ∧ b ≠ fo) : Fz (.ptr x) M (schD C txt s) M0 := by
  obtain ⟨n1, n2, n3, n4, n5, n6, n7⟩ := h.nx
  have d1 : frzO (.dK (colD s.tabs)) = some (.dK (s.tabs.map fun t => kn t.name) (s.tabs.map fun t => sL t.cols)) := by simp [frzO, colD, List.map_map, Function.comp_def]
  have d2 : frzO (.dK (parD s.tabs)) = some (.dK (s.tabs.map fun t => kn t.name) (s.tabs.map fun t => optD t.par)) := by simp [frzO, parD, List.map_map, Function.comp_def]
  have d3 : frzO (.dK (ownD s.owns)) = some (.dK (s.owns.map fun o => kn o.1) (s.owns.map fun o => PD.str o.2)) := by simp [frzO, ownD, List.map_map, Function.comp_def]
  have d4 : frzO (.dT (folD s.fols)) = some (.dT (s.fols.map fun f => [kn f.1.1, kn f.1.2]) (s.fols.map fun f => PD.str f.2)) := by simp [frzO, folD, List.map_map, Function.comp_def]
  refine Fz.fld (x := x) (a := cl) (f := "column_lists") (pre := [("text", .str txt)]) (post := [("parents", .ptr pr), ("owners", .ptr ow), ("following", .ptr fo)]) h.obj n1 h.col d1 ?_
  refine Fz.fld (x := x) (a := pr) (f := "parents") (pre := [("text", .str txt), ("column_lists", _)]) (post := [("owners", .ptr ow), ("following", .ptr fo)]) mset_same n2 (by rw [mset_ne n2.symm, mdel_ne h.ne1.symm]; exact h.par) d2 ?_
  refine Fz.fld (x := x) (a := ow) (f := "owners") (pre := [("text", .str txt), ("column_lists", _), ("parents", _)]) (post := [("following", .ptr fo)]) mset_same n3 (by rw [mset_ne n3.symm, mdel_ne h.ne3.symm, mset_ne n3.symm, mdel_ne h.ne2.symm]; exact h.own) d3 ?_
  refine Fz.fld (x := x) (a := fo) (f := "following") (pre := [("text", .str txt), ("column_lists", _), ("parents", _), ("owners", _)]) (post := []) mset_same n4 (by rw [mset_ne n4.symm, mdel_ne n7, mset_ne n4.symm, mdel_ne n6, mset_ne n4.symm, mdel_ne n5]; exact h.fol) d4 ?_
  refine Fz.top (a := x) mset_same rfl (Fz.drop (fun b m e => ?_) Fz.done)
  obtain ⟨e1, h0, h1, h2, h3, h4⟩ := sub b m e
  rw [mdel_ne h0, mset_ne h0, mdel_ne h4, mset_ne h0, mdel_ne h3, mset_ne h0, mdel_ne h2, mset_ne h0, mdel_ne h1]
  exact e1
theorem sc_Schema_read : FnScope ["text", "schema", "at", "line"] ["text"] (defScope (inClass (topS 16) 4)) := ⟨rfl, rfl, rfl, by decide +kernel, rfl, by decide +kernel, by decide +kernel⟩
theorem ok_read {f C : Addr} {ec : EC} {fd : FuncData} (F : Fun K "read" "Schema.read" (inClass (topS 16) 4) f fd) (T : Txt K mg) (c_Schema : Maker P w K mg base "Schema" C ["self", "text"] (conc (aSInit C)) 1) (c_split_words : Callee P w K mg base "split_words" ["line"] (conc aSplitW) 1) (c_read_line : CalleeX P w K mg base "read_line" ["schema", "line", "words"] (conc (aRdLine C ec)) 6) : FnOk P w K mg base (L2.CX P w) 7 f fd ["text"] (conc (aRead C ec)) := by
  refine F.okX sc_Schema_read (conc_len fun ds M AQ AX h => ?_) (fun cdv A outer s H vs Q E hr h => ⟨_, (pss_cons (ps_set (i := 1) sc_Schema_read.nd rfl (Or.inl rfl) (pe_mk c_Schema hr (by decide) (by rfl) (pa_cons (pv 0) pa_nil)))
      (pss_cons (ps_for (passes_of rfl) rfl (i_enum K (by rfl) T.n_enumerate (pa_cons (e_split (pv 0) pe_str) pa_nil)) (g_tup K (n := 2) rfl (pgs_cons (pg_name (i := 2) sc_Schema_read.nd rfl (Or.inl rfl)) (pgs_cons (pg_name (i := 3) sc_Schema_read.nd rfl (Or.inl rfl)) pgs_nil)))
      (pss_one (ps_expr (pe_coX c_read_line hr (by decide) (takes_of rfl rfl rfl rfl) (by rfl) (pa_cons (pv 1) (pa_cons (pe_op o_add (pv 2) pe_int) (pa_cons (pe_co c_split_words hr (by decide) (by rfl) (pa_cons (pv 3) pa_nil)) pa_nil)))))))
      (pss_one (ps_ret (pv 1))))), body_ofXF inferInstance h fun ds M AQ AX h => ?_⟩)
  · obtain ⟨txt, rfl, _⟩ := h
    rfl
  · obtain ⟨txt, rfl, hl, hn, hw, q, qx⟩ := h
    intro x hx
    refine ⟨x, txt, rfl, mset_same, fun cl pr ow fo M1 X1 f1 z1 z2 z3 z4 => ⟨rfl, ?_⟩⟩
    have ne : ∀ {b : Addr}, (mset M x (.ins C [])) b = none → M b = none := fun {b} hb => by
      by_cases e : b = x
      · rw [e, mset_same] at hb; cases hb
      · rw [mset_ne e] at hb; exact hb
    have z1 := ne z1
    have z2 := ne z2
    have z3 := ne z3
    have z4 := ne z4
    have off : ∀ b m, M b = some m → b ≠ x ∧ b ≠ cl ∧ b ≠ pr ∧ b ≠ ow ∧ b ≠ fo := fun b m e => by
      refine ⟨fun z => ?_, fun z => ?_, fun z => ?_, fun z => ?_, fun z => ?_⟩ <;> rw [z] at e
      · rw [hx] at e; cases e
      · rw [z1] at e; cases e
      · rw [z2] at e; cases e
      · rw [z3] at e; cases e
      · rw [z4] at e; cases e
    have sub1 : Sub M M1 := fun b m e => by
      obtain ⟨h0, h1, h2, h3, h4⟩ := off b m e
      rw [f1 b h0 h1 h2 h3 h4, mset_ne h0]
      exact e
    refine ⟨by decide +kernel, by rw [sizeLine_eq]; omega, ?_⟩
    refine loop_enum (xs := Txt.split txt nlS) (f := PD.str) (fun j ρ' M2 => ∃ (x2 x3 : Option PD) (sc : Sch), ρ' = [some (.str txt), some (.ptr x), x2, x3] ∧ SM C M2 x cl pr ow fo txt sc ∧ WF sc ∧ Sub M M2 ∧ sc.owns.length ≤ j ∧ sc.fols.length ≤ j ∧ rdAll sc (j + 1) (((Txt.split txt nlS).map splitW).drop j) = rdAll ⟨[], [], []⟩ 1 ((Txt.split txt nlS).map splitW)) ⟨none, none, ⟨[], [], []⟩, rfl, X1, WF.nil, sub1, Nat.le_refl _, Nat.le_refl _, rfl⟩ (fun _ _ _ _ => trivial) ?_ ?_
    · rintro j l ρ' M2 hj ⟨x2, x3, sc, rfl, X2, w2, sub2, o2, f2, e2⟩
      obtain ⟨w1, w3, w4⟩ := hw l (List.mem_of_getElem? hj)
      have hjl := get_lt hj
      have ed : ((Txt.split txt nlS).map splitW).drop j = splitW l :: ((Txt.split txt nlS).map splitW).drop (j + 1) := by
        have h1 : ((Txt.split txt nlS).map splitW)[j]? = some (splitW l) := map_at hj
        obtain ⟨h2, h3⟩ := List.getElem?_eq_some_iff.mp h1
        rw [List.drop_eq_getElem_cons h2, h3]
      rw [ed] at e2
      refine ⟨rfl, l, rfl, w3, x, cl, pr, ow, fo, _, splitW l, txt, sc, rfl, X2, w2, w1, w4, by omega, by omega, fun s' hs M3 X3 off3 => ?_, fun er he => thr_less sub2 (qx (j + 1) er ?_)⟩
      · obtain ⟨w5, o5, f5⟩ := rdLine_ok w2 hs
        refine ⟨_, _, s', rfl, X3, w5, fun b m e => ?_, by omega, by omega, ?_⟩
        · obtain ⟨h0, h1, h2, h3, h4⟩ := off b m e
          rw [off3 b h1 h2 h3 h4]
          exact sub2 b m e
        · rw [← e2]
          show _ = (match rdLine sc (splitW l) with | .error e => _ | .ok s' => _)
          rw [hs]
      · rw [← e2]
        show (match rdLine sc (splitW l) with | .error e => _ | .ok s' => _) = _
        rw [he]
    · rintro ρ' M2 ⟨x2, x3, sc, rfl, X2, w2, sub2, o2, f2, e2⟩
      rw [List.drop_of_length_le (by rw [List.length_map]; exact Nat.le_refl _)] at e2
      have e2 : Except.ok sc = rdAll ⟨[], [], []⟩ 1 ((Txt.split txt nlS).map splitW) := e2
      exact ⟨_, _, X2.fz fun b m e => ⟨sub2 b m e, off b m e⟩, q sc e2.symm w2⟩
end
end OA

/-! ### tables, columns, parent_of, owner_of, follows, __eq__: the code with its errors -/
namespace OA
open PySem PySem.Spec PyProof.Rows L2
def unk0 (ec : EC) (AX : AXK) (s : Sch) (t : Str) (M : MH) : Prop := (tabOf s.tabs t).isSome = false → AX ec.un [("name", .str t), ("line", .int 0)] M
def newL (M : MH) (Q : AK) (ds : List PD) : Prop := ∀ a, M a = none → Q (.ptr a) (mset M a (.lst ds))
def aTables (C : Addr) : ASp := fun ds M Q _ => ∃ (d : PD) (txt : Str) (s : Sch) (dc dp dow df : PD), ds = [d] ∧ SV C M d txt s dc dp dow df ∧ newL M Q ((s.tabs.map Tab.name).map PD.str)
def aCols (C : Addr) (ec : EC) : ASp := fun ds M Q AX => ∃ (d : PD) (t : Str) (txt : Str) (s : Sch) (dc dp dow df : PD), ds = [d, .str t] ∧ SV C M d txt s dc dp dow df ∧ (∀ tb, tabOf s.tabs t = some tb → newL M Q (tb.cols.map PD.str)) ∧ unk0 ec AX s t M
def aParent (C : Addr) (ec : EC) : ASp := fun ds M Q AX => ∃ (d : PD) (t : Str) (txt : Str) (s : Sch) (dc dp dow df : PD), ds = [d, .str t] ∧ SV C M d txt s dc dp dow df ∧ (∀ tb, tabOf s.tabs t = some tb → Q (optD tb.par) M) ∧ unk0 ec AX s t M
def aOwnerOf (C : Addr) (ec : EC) : ASp := fun ds M Q AX => ∃ (d : PD) (t : Str) (txt : Str) (s : Sch) (dc dp dow df : PD), ds = [d, .str t] ∧ SV C M d txt s dc dp dow df ∧ ((tabOf s.tabs t).isSome = true → Q (optD ((s.owns.find? fun o => decide (o.1 = t)).map (·.2))) M) ∧ unk0 ec AX s t M
def prD (e : Str × Str) : PD := .tup [.str e.1, .str e.2]
def folsOf (s : Sch) (t : Str) (cols : List Str) : List (Str × Str) := cols.filterMap fun c => (s.fols.find? fun f => decide (f.1 = (t, c))).map fun f => (c, f.2)
def aFols (C : Addr) (ec : EC) : ASp := fun ds M Q AX => ∃ (d : PD) (t : Str) (txt : Str) (s : Sch) (dc dp dow df : PD), ds = [d, .str t] ∧ SV C M d txt s dc dp dow df ∧ (∀ tb, tabOf s.tabs t = some tb → tb.cols.length ≤ 1000 ∧ newL M Q ((folsOf s t tb.cols).map prD)) ∧ unk0 ec AX s t M
def aSEq (K : PySem.W.Frag) (C : Addr) : ASp := fun ds M Q _ => ∃ (d e : PD) (txt : Str) (s : Sch) (dc dp dow df : PD), ds = [d, e] ∧ SV C M d txt s dc dp dow df ∧
  ((∃ (txt' : Str) (s' : Sch) (dc' dp' dow' df' : PD), SV C M e txt' s' dc' dp' dow' df' ∧ Q (.bl (decide (txt = txt'))) M) ∨ (∃ t, TyD K M e t ∧ PySem.W.kitOne K t (.ref C) = some false ∧ Q (.bl false) M))
section
variable {P : Program} {w : World} {K : PySem.W.Frag} {mg : Str → Option Value} {base : Heap}
theorem sc_Schema___eq__ : FnScope ["self", "other"] ["self", "other"] (defScope (inClass (topS 16) 5)) := ⟨rfl, rfl, rfl, by decide +kernel, rfl, by decide +kernel, by decide +kernel⟩
theorem ok_seq {f C : Addr} {fd : FuncData} (F : Fun K "__eq__" "Schema.__eq__" (inClass (topS 16) 5) f fd) (T : Txt K mg) (TS : STxt K mg C) (ic : C8.InsC K C) : FnOk P w K mg base CX0 1 f fd ["self", "other"] (conc (aSEq K C)) := by
  refine F.ok sc_Schema___eq__ (conc_len fun ds M AQ AX h => ?_) (fun cdv A outer s H vs Q E hr h => ⟨_, (pss_cons (ps_if (pt_not (pt_val (pe_callB (call_isR K) (by rfl) T.n_isinstance (by decide +kernel) (pa_cons (pv 1) (pa_cons (pe_glob (v := .ref C) rfl TS.g rfl) pa_nil))))) (pss_one (ps_ret pe_bl)) pss_nil)
      (pss_one (ps_ret (pe_cmpR op_eq (e_fld K (pv 0) rfl) (e_fld K (pv 1) rfl) (nomark _))))), body_of (W := W0) inferInstance h fun ds M AQ AX h => ?_⟩)
  · obtain ⟨d, e, txt, s, dc, dp, dow, df, rfl, _⟩ := h
    rfl
  · obtain ⟨d, e, txt, s, dc, dp, dow, df, rfl, X, h⟩ := h
    rcases h with ⟨txt', s', dc', dp', dow', df', Y, q⟩ | ⟨t, ty, ke, q⟩
    · exact ⟨_, _, true, .own C, .ins Y.ins ic, ic.me, C, _, _, X.ins, TS.cl, TS.n_text, sl_txt .., C, _, _, Y.ins, TS.cl, TS.n_text, sl_txt .., q⟩
    · exact ⟨_, _, false, .own C, ty, ke, q⟩
theorem sc_Schema_tables : FnScope ["self"] ["self"] (defScope (inClass (topS 16) 6)) := ⟨rfl, rfl, rfl, by decide +kernel, rfl, by decide +kernel, by decide +kernel⟩
theorem ok_tables {f C : Addr} {fd : FuncData} (F : Fun K "tables" "Schema.tables" (inClass (topS 16) 6) f fd) (T : Txt K mg) (TS : STxt K mg C) : FnOk P w K mg base CX0 1 f fd ["self"] (conc (aTables C)) := by
  refine F.ok sc_Schema_tables (conc_len fun ds M AQ AX h => ?_) (fun cdv A outer s H vs Q E hr h => ⟨_, (pss_one (ps_ret (pe_mut (pe_callTy (call_list_dK rfl) (by rfl) T.n_list (by decide +kernel) (pa_cons (e_fld K (pv 0) rfl) pa_nil))))), body_of (W := W0) inferInstance h fun ds M AQ AX h => ?_⟩)
  · obtain ⟨d, txt, s, dc, dp, dow, df, rfl, _⟩ := h
    rfl
  · obtain ⟨d, txt, s, dc, dp, dow, df, rfl, X, q⟩ := h
    refine ⟨C, _, _, X.ins, TS.cl, TS.n_col, sl_col .., _, X.col, ?_⟩
    have e : ((colD s.tabs).map fun kv => kD kv.1) = (s.tabs.map Tab.name).map PD.str := by unfold colD; rw [List.map_map, List.map_map]; rfl
    rw [e]
    exact q
theorem sc_Schema_columns : FnScope ["self", "table"] ["self", "table"] (defScope (inClass (topS 16) 8)) := ⟨rfl, rfl, rfl, by decide +kernel, rfl, by decide +kernel, by decide +kernel⟩
theorem ok_columns {f C : Addr} {ec : EC} {fd : FuncData} (F : Fun K "columns" "Schema.columns" (inClass (topS 16) 8) f fd) (T : Txt K mg) (TS : STxt K mg C) (c_Schema_check_table_1 : MethX P w K mg base C "check_table" ["self", "table", "line"] (conc (aChkT C ec)) 3 [.int 0]) : FnOk P w K mg base (L2.CX P w) 4 f fd ["self", "table"] (conc (aCols C ec)) := by
  refine F.okX sc_Schema_columns (conc_len fun ds M AQ AX h => ?_) (fun cdv A outer s H vs Q E hr h => ⟨_, (pss_cons (ps_expr (pe_moX c_Schema_check_table_1 hr (by decide) (takes_of rfl rfl rfl rfl) (pv 0) (pa_cons (pv 1) pa_nil)))
      (pss_one (ps_ret (pe_mut (pe_callTy (c_list K) (by rfl) T.n_list (by decide +kernel) (pa_cons (pe_dget (hu_of hr) (e_fld K (pv 0) rfl) (pv 1) (fun _ _ => rfl)) pa_nil)))))), body_ofX inferInstance h fun ds M AQ AX h => ?_⟩)
  · obtain ⟨d, t, txt, s, dc, dp, dow, df, rfl, _⟩ := h
    rfl
  · obtain ⟨d, t, txt, s, dc, dp, dow, df, rfl, X, q, qx⟩ := h
    refine ⟨_, X.ins, by kernel_rfl, d, t, 0, txt, s, dc, dp, dow, df, rfl, X, fun ht => ?_, fun hn => ⟨_, Sub.refl _, qx hn⟩⟩
    obtain ⟨tb, htb⟩ := Option.isSome_iff_exists.mp ht
    have dg := dGet.k (y := .str t) X.col rfl
    rw [valD_col, htb] at dg
    exact ⟨C, _, _, X.ins, TS.cl, TS.n_col, sl_col .., _, dg, _, .inl rfl, q tb htb⟩
end
end OA

/-! ### the drawing of a law: the old promises as plain ones -/
namespace OA
open PySem PySem.Spec PyProof.Rows L2
def Drw (M : MH) (st : Addr) : Prop := ∃ inn, M st = some (.draw inn) ∧ M inn = some .inn
theorem Drw.sub {M M' : MH} {st : Addr} (s : Sub M M') (h : Drw M st) : Drw M' st := by
  obtain ⟨inn, h1, h2⟩ := h
  exact ⟨inn, s _ _ h1, s _ _ h2⟩
theorem Drw.new {M : MH} {st a : Addr} {m : MO} (h : Drw M st) (n : M a = none) : Drw (mset M a m) st := h.sub (Sub.new (Sub.refl M) n)
/-- a list that may change is no drawing state -/
theorem Drw.put {M : MH} {st a : Addr} {m : MO} {ds : List PD} (h : Drw M st) (e : M a = some (.lst ds)) : Drw (mset M a m) st := by
  obtain ⟨inn, h1, h2⟩ := h
  exact ⟨inn, by rw [mset_ne fun z => by rw [z, e] at h1; cases h1]; exact h1, by rw [mset_ne fun z => by rw [z, e] at h2; cases h2]; exact h2⟩
theorem Wo.stAt {G H O : Hp} {M : MH} {st inn : Addr} (w : Wo G H M O) (h1 : M st = some (.draw inn)) (h2 : M inn = some .inn) : StAt G H st inn := by
  obtain ⟨o1, a1, a2, _, x, y, z, x0, y0, z0, rfl⟩ := w.mu st _ h1
  obtain ⟨o2, b1, b2, _, cs, hc, rfl⟩ := w.mu inn _ h2
  exact ⟨cs, x, y, z, ⟨a1, a2⟩, ⟨b1, b2⟩, hc, x0, y0, z0⟩
theorem Stp.wo {G H G' H' O : Hp} {M : MH} {st inn : Addr} (s : Stp (F2 st inn) G H G' H') (w : Wo G H M O) (h1 : M st = some (.draw inn)) (h2 : M inn = some .inn) (S : StAt G' H' st inn) : Wo G' H' M O := by
  have nost : O st = none := by obtain ⟨_, _, _, h, _⟩ := w.mu st _ h1; exact h
  have noinn : O inn = none := by obtain ⟨_, _, _, h, _⟩ := w.mu inn _ h2; exact h
  have notG : ∀ b o, H b = some o → G b = none → G' b = none := fun b o hb hg => none_of fun u e => by
    have := s.nw b u e hg
    rw [hb] at this; cases this
  refine ⟨s.gh, fun b o e => s.fr b o (w.oh b o e) ?_, fun b o e => notG b o (w.oh b o e) (w.og b o e), fun b m e => ?_⟩
  · rintro (z | z)
    · rw [z, nost] at e; cases e
    · rw [z, noinn] at e; cases e
  · obtain ⟨o, a1, a2, a3, a4⟩ := w.mu b m e
    have g' := notG b o a1 a2
    by_cases hst : b = st
    · subst hst
      rw [h1] at e
      cases e
      obtain ⟨cs, x, y, z, c1, c2, hc, x0, y0, z0⟩ := S
      exact ⟨_, c1.at_, g', a3, x, y, z, x0, y0, z0, rfl⟩
    · by_cases hin : b = inn
      · subst hin
        rw [h2] at e
        cases e
        obtain ⟨cs, x, y, z, c1, c2, hc, x0, y0, z0⟩ := S
        exact ⟨_, c2.at_, g', a3, cs, hc, rfl⟩
      · exact ⟨o, s.fr b o a1 (fun z => z.elim hst hin), g', a3, a4.mono s.gg⟩
def aDraw : ASp := fun ds M Q _ => ∃ (st : Addr) (n : Int), ds = [.ptr st, .int n] ∧ Drw M st ∧ 0 < n ∧ n < 1073741824 ∧ ∀ r : Int, 0 ≤ r → r < n → Q (.int r) M
theorem b_draw {vs : List V} {H : Hp} {Q : VK} {E : XK} (h : conc aDraw vs H Q E) : spDraw vs H Q E := by
  obtain ⟨G, O, M, ds, AQ, AX, w, r, ⟨st, n, rfl, ⟨inn, d1, d2⟩, n0, n1, q⟩, k, _⟩ := h
  obtain ⟨v, u, rfl, e1, e2⟩ := rep2 r
  have e1 : v = .ref st := e1
  have e2 : u = .int n := e2
  subst e1 e2
  exact ⟨G, st, inn, n, rfl, w.gh, w.stAt d1 d2, n0, n1, fun r H' s S r0 r1 => k _ (.val _) G H' M (Same.refl _) (s.wo w d1 d2 S) rfl (q r r0 r1)⟩
def aWords : ASp := fun ds M Q _ => ∃ (st : Addr) (m n : Nat), ds = [.ptr st, .int m, .int n] ∧ Drw M st ∧ 1 ≤ m ∧ m ≤ 1000 ∧ n ≤ 26 ∧ ∀ ws, Words m n ws → Q (sL ws) M
theorem rep3 {G : Hp} {d e f : PD} {vs : List V} (h : RepL G [d, e, f] vs) : ∃ v u t, vs = [v, u, t] ∧ Rep G d v ∧ Rep G e u ∧ Rep G f t := by
  obtain ⟨v, r, rfl, h1, h2⟩ := h
  obtain ⟨u, t, rfl, h3, h4⟩ := rep2 h2
  exact ⟨v, u, t, rfl, h1, h3, h4⟩
theorem rep4 {G : Hp} {d e f g : PD} {vs : List V} (h : RepL G [d, e, f, g] vs) : ∃ v u t s, vs = [v, u, t, s] ∧ Rep G d v ∧ Rep G e u ∧ Rep G f t ∧ Rep G g s := by
  obtain ⟨v, r, rfl, h1, h2⟩ := h
  obtain ⟨u, t, s, rfl, h3, h4, h5⟩ := rep3 h2
  exact ⟨v, u, t, s, rfl, h1, h3, h4, h5⟩
theorem Ss.rep {G : Hp} {v : V} {ws : List Str} (h : Ss G v ws) : Rep G (sL ws) v := by
  obtain ⟨a, e, h⟩ := h
  exact ⟨a, _, e, h, RepL.ofStrs ws⟩
theorem rep_Ss {G : Hp} {v : V} {ws : List Str} (h : Rep G (sL ws) v) : Ss G v ws := by
  obtain ⟨a, vs, e, h, r⟩ := h
  rw [r.strs] at h
  exact ⟨a, e, h⟩
theorem b_words {vs : List V} {H : Hp} {Q : VK} {E : XK} (h : conc aWords vs H Q E) : spWords vs H Q E := by
  obtain ⟨G, O, M, ds, AQ, AX, w, r, ⟨st, m, n, rfl, ⟨inn, d1, d2⟩, m1, m2, n1, q⟩, k, _⟩ := h
  obtain ⟨v, u, t, rfl, e1, e2, e3⟩ := rep3 r
  have e1 : v = .ref st := e1
  have e2 : u = .int m := e2
  have e3 : t = .int n := e3
  subst e1 e2 e3
  exact ⟨G, st, inn, m, n, rfl, w.gh, w.stAt d1 d2, m1, m2, n1, fun v ws G' H' s S hv W => k _ (sL ws) G' H' M s.gg (s.wo w d1 d2 S) hv.rep (q ws W)⟩
/-- the law: its state is drawn first -/
def spLaw (K : PySem.W.Frag) : Sp := fun vs H Q _ => ∃ (a : Addr) (ns : List Int), vs = [.ref a] ∧ SqL K H a (ns.map V.int) ∧ ns.length ≤ 63 ∧ ∀ H', Q (.bl true) H'
theorem law_len {K : PySem.W.Frag} {x : Str} : ∀ vs H Q E, spLaw K vs H Q E → vs.length = [x].length := fun vs H Q E h => by
  obtain ⟨a, ns, rfl, _⟩ := h
  rfl
theorem law_of {K : PySem.W.Frag} {rest : TS} {ar : AS} (i : RS W0 rest ar) {j : Nat} {N : List Str} {vs : List V} {H : Hp} {Q : VK} {E : XK} (h : spLaw K vs H Q E)
    (hA : ∀ (st : Addr) (M : MH), Drw M st → ar AW0 { nx := fun _ _ => False, rt := fun d _ => d = .bl true } ((List.replicate (1 + (N.length - 1)) none).set j (some (.ptr st))) M) :
    tSeq (tAsg (tCall (spState K) [] E0 (tCons (tVar 0) tNil)) (gName j)) rest { nx := fun _ H' => Q .non H', rt := Q } (L2.start N vs) H := by
  obtain ⟨a, ns, rfl, hS, hl, k⟩ := h
  refine ⟨_, rfl, a, ns, rfl, hS, by omega, fun st inn H1 s1 S1 => ?_⟩
  obtain ⟨cs, x, y, z, c1, c2, hc, x0, y0, z0⟩ := S1
  have ne := St4.ne c1 c2
  have w : Wo (fun _ => none) H1 (mset (mset (fun _ => none) inn .inn) st (.draw inn)) (fun _ => none) := by
    refine ⟨fun b o e => (by cases e), fun b o e => (by cases e), fun b o e => (by cases e), fun b m e => ?_⟩
    by_cases hb : b = st
    · subst hb
      rw [mset_same] at e
      cases e
      exact ⟨_, c1.at_, rfl, rfl, x, y, z, x0, y0, z0, rfl⟩
    · rw [mset_ne hb] at e
      by_cases hb2 : b = inn
      · subst hb2
        rw [mset_same] at e
        cases e
        exact ⟨_, c2.at_, rfl, rfl, cs, hc, rfl⟩
      · rw [mset_ne hb2] at e; cases e
  have rs : RepS (fun _ => none) ((List.replicate (1 + (N.length - 1)) none).set j (some (.ptr st))) ((L2.start N [V.ref a]).set j (some (V.ref st))) := by
    refine RepS.set (d := .ptr st) ⟨by unfold L2.start; simp [Nat.add_comm], fun i d e => ?_⟩ rfl j
    have := List.mem_of_getElem? e
    rw [List.mem_replicate] at this
    cases this.2
  exact i.run ⟨w, rs, wx0⟩ (hA st _ ⟨inn, mset_same, by rw [mset_ne ne.symm]; exact mset_same⟩) ⟨fun _ _ _ _ _ _ _ _ q => q.elim, fun v d G' H' M' _ _ r q => by
    have q : d = .bl true := q
    subst q
    have r : v = .bl true := r
    subst r
    exact k H', fun _ _ _ _ _ _ _ _ q => q.elim, fun _ _ _ _ _ _ _ _ q => q.elim⟩
end OA

/-! ### no member twice -/
namespace OA
open PySem PySem.Spec PyProof.Rows L2
theorem nd_take : ∀ {l : List Str} {i : Nat} {c : Str}, l.Nodup → l[i]? = some c → c ∉ l.take i
  | [], _, _, _, hc => by simp at hc
  | _ :: _, 0, _, _, _ => by simp
  | x :: l, i + 1, c, h, hc => by
    obtain ⟨h1, h2⟩ := List.nodup_cons.mp h
    have hc : l[i]? = some c := hc
    rw [List.take_succ_cons]
    intro hm
    rcases List.mem_cons.mp hm with e | e
    · exact h1 (by rw [← e]; exact List.mem_of_getElem? hc)
    · exact nd_take h2 hc e
theorem fm_if {α β : Type} (p : α → Prop) [DecidablePred p] (f : α → β) : ∀ l : List α, (l.filterMap fun e => if p e then some (f e) else none) = (l.filter fun e => decide (p e)).map f
  | [] => rfl
  | a :: l => by
    rw [List.filterMap_cons, List.filter_cons]
    by_cases h : p a
    · rw [if_pos h, if_pos (by simpa using h), List.map_cons, fm_if p f l]
    · rw [if_neg h, if_neg (by simpa using h), fm_if p f l]
end OA

/-! ### short chains -/
namespace OA
open PySem PySem.Spec PyProof.Rows L2
theorem len_empty_join (ps : List Str) : (Txt.join (Str.ofString "") ps).length ≤ (ps.map (·.length)).sum := by
  have := join_len (Str.ofString "") ps
  have e : (Str.ofString "").length = 0 := by decide +kernel
  rw [e] at this
  omega
structure ShortC (ts : List Tab) (cs : List Str) : Prop where
  few : cs.length ≤ 100
  nm : ∀ n ∈ cs, n.length ≤ 100
  tb : ∀ n ∈ cs, ∃ t, tabOf ts n = some t ∧ t.cols.length ≤ 100 ∧ ∀ c ∈ t.cols, c.length ≤ 100
theorem dots_len {cs : List Str} (h1 : cs.length ≤ 100) (h2 : ∀ c ∈ cs, c.length ≤ 100) : (dots cs).length ≤ 20000 := by
  unfold dots
  have h3 := len_empty_join (cs.map fun c => c ++ dotS)
  have h4 : ((cs.map fun c => c ++ dotS).map (·.length)).sum ≤ ((cs.map fun c => c ++ dotS).map (·.length)).length * 200 := sum_le (B := 200) (fun y hy => by
    obtain ⟨z1, hz1, e1⟩ := List.mem_map.mp hy
    obtain ⟨c, hcm, e2⟩ := List.mem_map.mp hz1
    rw [← e1, ← e2, app_len]
    have := h2 c hcm
    have e3 : dotS.length = 1 := by decide +kernel
    omega)
  rw [List.length_map, List.length_map] at h4
  omega
theorem posP_len {ts : List Tab} {cs : List Str} (sh : ShortC ts cs) : ∀ i, i ≤ cs.length → (posP ts cs i).length ≤ i * 100
  | 0, _ => Nat.le_refl _
  | i + 1, hi => by
    have e : cs[i]? = some cs[i] := List.getElem?_eq_getElem hi
    rw [posP_succ e, List.length_append, List.length_map]
    have ih := posP_len sh i (by omega)
    obtain ⟨t, h1, h2, _⟩ := sh.tb cs[i] (List.mem_of_getElem? e)
    have e2 : colsOf ts cs[i] = t.cols := by unfold colsOf; rw [h1]; rfl
    rw [e2]
    omega
end OA

/-! ### drawn forests: plain data -/
namespace OA
open PySem PySem.Spec PyProof.Rows L2
structure TB where
  nm : Str
  par : Int
  cols : List Str
inductive ChI (tb : List TB) : Nat → List Nat → Prop
  | root {t : Nat} {x : TB} : tb[t]? = some x → x.par < 0 → ChI tb t [t]
  | up {t p : Nat} {x : TB} {cs : List Nat} : tb[t]? = some x → x.par = (p : Int) → ChI tb p cs → ChI tb t (t :: cs)
theorem get_app {α : Type} {l r : List α} {i : Nat} {a : α} (h : l[i]? = some a) : (l ++ r)[i]? = some a := by
  rw [List.getElem?_append_left (get_lt h)]
  exact h
theorem ChI.mono {tb : List TB} {t : Nat} {cs : List Nat} (h : ChI tb t cs) (r : List TB) : ChI (tb ++ r) t cs := by
  induction h with
  | root h1 h2 => exact .root (get_app h1) h2
  | up h1 h2 _ ih => exact .up (get_app h1) h2 ih
theorem ChI.uniq {tb : List TB} {t : Nat} {cs ds : List Nat} (h : ChI tb t cs) (g : ChI tb t ds) : cs = ds := by
  induction h generalizing ds with
  | root h1 h2 =>
    cases g with
    | root _ _ => rfl
    | up g1 g2 _ => rw [h1] at g1; cases g1; omega
  | up h1 h2 h3 ih =>
    cases g with
    | root g1 g2 => rw [h1] at g1; cases g1; omega
    | up g1 g2 g3 =>
      rw [h1] at g1
      cases g1
      rw [h2] at g2
      have := Int.ofNat.inj g2
      subst this
      rw [ih g3]
theorem ChI.head {tb : List TB} {t : Nat} {cs : List Nat} (h : ChI tb t cs) : ∃ r, cs = t :: r := by
  cases h with
  | root _ _ => exact ⟨[], rfl⟩
  | up _ _ _ => exact ⟨_, rfl⟩
theorem ChI.lt {tb : List TB} {t : Nat} {cs : List Nat} (h : ChI tb t cs) : t < tb.length := by
  cases h with
  | root h1 _ => exact get_lt h1
  | up h1 _ _ => exact get_lt h1
theorem ChI.allLt {tb : List TB} {t : Nat} {cs : List Nat} (h : ChI tb t cs) : ∀ c ∈ cs, c < tb.length := by
  induction h with
  | root h1 _ => intro c hc; rw [List.mem_singleton.mp hc]; exact get_lt h1
  | up h1 _ _ ih =>
    intro c hc
    rcases List.mem_cons.mp hc with e | e
    · rw [e]; exact get_lt h1
    · exact ih c e
structure For (names : List Str) (tb : List TB) : Prop where
  nm : ∀ (t : Nat) (x : TB), tb[t]? = some x → names[t]? = some x.nm
  cols : ∀ (t : Nat) (x : TB), tb[t]? = some x → 1 ≤ x.cols.length ∧ x.cols.length ≤ 4 ∧ x.cols.Nodup ∧ ∀ c ∈ x.cols, c ∈ names
  par : ∀ (t : Nat) (x : TB), tb[t]? = some x → x.par < t ∧ -1 ≤ x.par
  ch : ∀ t, t < tb.length → ∃ cs, ChI tb t cs ∧ cs.length ≤ 4
theorem For.nil (names : List Str) : For names [] := ⟨fun t x h => by simp at h, fun t x h => by simp at h, fun t x h => by simp at h, fun t h => by simp at h⟩
theorem snoc_get {α : Type} {l : List α} {y x : α} {t : Nat} (h : (l ++ [y])[t]? = some x) : l[t]? = some x ∨ (t = l.length ∧ x = y) := by
  rcases Nat.lt_or_ge t l.length with g | g
  · rw [List.getElem?_append_left g] at h; exact .inl h
  · rw [List.getElem?_append_right g] at h
    obtain ⟨i, hi⟩ : ∃ i, t - l.length = i := ⟨_, rfl⟩
    rw [hi] at h
    cases i with
    | zero => right; exact ⟨by omega, (Option.some.inj h).symm⟩
    | succ i => simp at h
theorem For.snoc {names : List Str} {tb : List TB} (h : For names tb) {y : TB} (h1 : names[tb.length]? = some y.nm) (h2 : 1 ≤ y.cols.length ∧ y.cols.length ≤ 4 ∧ y.cols.Nodup ∧ ∀ c ∈ y.cols, c ∈ names) (h3 : y.par = -1 ∨ ∃ (p : Nat) (cs : List Nat), y.par = (p : Int) ∧ ChI tb p cs ∧ cs.length < 4) : For names (tb ++ [y]) := by
  have hp : y.par < tb.length ∧ -1 ≤ y.par := by
    rcases h3 with e | ⟨p, cs, e, hc, _⟩
    · omega
    · have := hc.lt; omega
  refine ⟨fun t x e => ?_, fun t x e => ?_, fun t x e => ?_, fun t ht => ?_⟩
  · rcases snoc_get e with g | ⟨g1, g2⟩
    · exact h.nm t x g
    · rw [g1, g2]; exact h1
  · rcases snoc_get e with g | ⟨g1, g2⟩
    · exact h.cols t x g
    · rw [g2]; exact h2
  · rcases snoc_get e with g | ⟨g1, g2⟩
    · exact h.par t x g
    · rw [g1, g2]; exact hp
  · rw [List.length_append] at ht
    have ht : t < tb.length + 1 := ht
    by_cases g : t < tb.length
    · obtain ⟨cs, hc, hl⟩ := h.ch t g
      exact ⟨cs, hc.mono _, hl⟩
    · have e : t = tb.length := by omega
      subst e
      have e1 : (tb ++ [y])[tb.length]? = some y := by simp
      rcases h3 with e | ⟨p, cs, e, hc, hl⟩
      · exact ⟨_, .root e1 (by omega), by show 1 ≤ 4; decide⟩
      · exact ⟨_, .up e1 e (hc.mono _), by show cs.length + 1 ≤ 4; omega⟩
def nmI (tb : List TB) (t : Nat) : Str := ((tb[t]?).map TB.nm).getD Str.empty
def colI (tb : List TB) (t : Nat) : List Str := ((tb[t]?).map TB.cols).getD []
theorem nmI_of {tb : List TB} {t : Nat} {x : TB} (h : tb[t]? = some x) : nmI tb t = x.nm := by unfold nmI; rw [h]; rfl
theorem colI_of {tb : List TB} {t : Nat} {x : TB} (h : tb[t]? = some x) : colI tb t = x.cols := by unfold colI; rw [h]; rfl
def toTab (tb : List TB) (x : TB) : Tab := ⟨x.nm, if x.par < 0 then none else some (nmI tb x.par.toNat), x.cols⟩
def tabsK (tb : List TB) (k : Nat) : List Tab := (tb.take k).map (toTab tb)
theorem nd_get {α : Type} {l : List α} (h : l.Nodup) {i j : Nat} {a : α} (h1 : l[i]? = some a) (h2 : l[j]? = some a) : i = j := by
  obtain ⟨a1, b1⟩ := List.getElem?_eq_some_iff.mp h1
  obtain ⟨a2, b2⟩ := List.getElem?_eq_some_iff.mp h2
  exact (List.getElem_inj h).mp (b1.trans b2.symm)
theorem nmI_inj {names : List Str} {tb : List TB} (h : For names tb) (nd : names.Nodup) {i j : Nat} (hi : i < tb.length) (hj : j < tb.length) (e : nmI tb i = nmI tb j) : i = j := by
  have h1 : tb[i]? = some tb[i] := List.getElem?_eq_getElem hi
  have h2 : tb[j]? = some tb[j] := List.getElem?_eq_getElem hj
  rw [nmI_of h1, nmI_of h2] at e
  have g1 := h.nm i _ h1
  have g2 := h.nm j _ h2
  rw [e] at g1
  exact nd_get nd g1 g2
theorem tabOf_mem : ∀ {ts : List Tab} {t : Tab}, t ∈ ts → (∀ u ∈ ts, u.name = t.name → u = t) → tabOf ts t.name = some t
  | [], _, h, _ => by cases h
  | u :: ts, t, h, g => by
    unfold tabOf
    rw [List.find?_cons]
    by_cases e : u.name = t.name
    · rw [decide_eq_true e, g u List.mem_cons_self e]
    · rw [decide_eq_false e]
      rcases List.mem_cons.mp h with h | h
      · rw [h] at e; exact absurd rfl e
      · exact tabOf_mem h fun v hv => g v (List.mem_cons_of_mem _ hv)
theorem tabsK_mem {tb : List TB} {k : Nat} {u : Tab} (h : u ∈ tabsK tb k) : ∃ (j : Nat) (x : TB), j < k ∧ tb[j]? = some x ∧ u = toTab tb x := by
  obtain ⟨x, hx, rfl⟩ := List.mem_map.mp h
  obtain ⟨j, hj⟩ := List.getElem?_of_mem hx
  have hlt := get_lt hj
  rw [List.length_take] at hlt
  rw [List.getElem?_take_of_lt (by omega)] at hj
  exact ⟨j, x, by omega, hj, rfl⟩
theorem tabOf_K {names : List Str} {tb : List TB} (h : For names tb) (nd : names.Nodup) {t k : Nat} {x : TB} (hx : tb[t]? = some x) (ht : t < k) : tabOf (tabsK tb k) x.nm = some (toTab tb x) := by
  refine tabOf_mem (t := toTab tb x) (List.mem_map.mpr ⟨x, List.mem_of_getElem? (i := t) (by rw [List.getElem?_take_of_lt ht]; exact hx), rfl⟩) fun u hu e => ?_
  obtain ⟨j, y, hj, hy, rfl⟩ := tabsK_mem hu
  have g1 := h.nm j _ hy
  have g2 := h.nm t _ hx
  have e : y.nm = x.nm := e
  rw [e] at g1
  have := nd_get nd g1 g2
  subst this
  rw [hx] at hy
  cases hy
  rfl
theorem tabOf_no {names : List Str} {tb : List TB} (h : For names tb) (nd : names.Nodup) {t k : Nat} {x : TB} (hx : tb[t]? = some x) (ht : k ≤ t) : tabOf (tabsK tb k) x.nm = none := by
  unfold tabOf
  rw [List.find?_eq_none]
  intro u hu e
  obtain ⟨j, y, hj, hy, rfl⟩ := tabsK_mem hu
  have e : y.nm = x.nm := of_decide_eq_true e
  have g1 := h.nm j _ hy
  have g2 := h.nm t _ hx
  rw [e] at g1
  have := nd_get nd g1 g2
  omega
theorem chainK {names : List Str} {tb : List TB} (h : For names tb) (nd : names.Nodup) {t : Nat} {cs : List Nat} (hc : ChI tb t cs) : ∀ {k : Nat}, t < k → ChainOf (tabsK tb k) (nmI tb t) (cs.map (nmI tb)) := by
  induction hc with
  | @root t x h1 h2 =>
    intro k hk
    rw [nmI_of h1]
    show ChainOf _ _ [nmI tb t]
    rw [nmI_of h1]
    refine .root (tabOf_K h nd h1 hk) ?_
    show (if x.par < 0 then none else _) = none
    rw [if_pos h2]
  | @up t p x cs h1 h2 h3 ih =>
    intro k hk
    have hp := (h.par t x h1).1
    rw [List.map_cons, nmI_of h1]
    refine .up (p := nmI tb p) (tabOf_K h nd h1 hk) ?_ (ih (by omega))
    show (if x.par < 0 then none else some (nmI tb x.par.toNat)) = _
    rw [if_neg (by omega), h2]
    rfl
/-- the positions of a chain, name by name -/
def pths (tb : List TB) : List Nat → List (List Str)
  | [] => []
  | [t] => (colI tb t).map fun c => [c]
  | t :: p :: r => ((colI tb t).map fun c => [c]) ++ (pths tb (p :: r)).map (nmI tb p :: ·)
def plc (tb : List TB) (cs : List Nat) : List Str := (pths tb cs).map (Txt.join dotS)
theorem pths_ne (tb : List TB) : ∀ (cs : List Nat), ∀ q ∈ pths tb cs, q ≠ []
  | [], q, h => by cases h
  | [t], q, h => by
    obtain ⟨c, _, rfl⟩ := List.mem_map.mp h
    simp
  | t :: p :: r, q, h => by
    rcases List.mem_append.mp h with h | h
    · obtain ⟨c, _, rfl⟩ := List.mem_map.mp h
      simp
    · obtain ⟨c, _, rfl⟩ := List.mem_map.mp h
      simp
theorem join_one (y a : Str) : Txt.join y [a] = a := by rw [TL.join_eq]; rfl
theorem join_two {y a : Str} {r : List Str} (h : r ≠ []) : Txt.join y (a :: r) = a ++ y ++ Txt.join y r := by
  rw [TL.join_eq, TL.join_eq]
  cases r with
  | nil => exact absurd rfl h
  | cons b r => rfl
theorem plc_one (tb : List TB) (t : Nat) : plc tb [t] = colI tb t := by
  show ((colI tb t).map fun c => [c]).map (Txt.join dotS) = _
  rw [List.map_map]
  have : (Txt.join dotS ∘ fun c : Str => [c]) = id := funext fun c => join_one dotS c
  rw [this, List.map_id]
theorem plc_two (tb : List TB) (t p : Nat) (r : List Nat) : plc tb (t :: p :: r) = colI tb t ++ (plc tb (p :: r)).map fun z => nmI tb p ++ dotS ++ z := by
  show (((colI tb t).map fun c => [c]) ++ (pths tb (p :: r)).map (nmI tb p :: ·)).map (Txt.join dotS) = _
  have e0 : ((colI tb t).map fun c => [c]).map (Txt.join dotS) = colI tb t := plc_one tb t
  rw [List.map_append, e0]
  congr 1
  unfold plc
  rw [List.map_map, List.map_map]
  refine List.map_congr_left fun q hq => ?_
  exact join_two (pths_ne tb _ q hq)
theorem posK {names : List Str} {tb : List TB} (h : For names tb) (nd : names.Nodup) {t : Nat} {cs : List Nat} (hc : ChI tb t cs) : ∀ {k : Nat}, t < k → ∀ q ∈ pths tb cs, PosOk (tabsK tb k) (nmI tb t) q := by
  induction hc with
  | @root t x h1 h2 =>
    intro k hk q hq
    obtain ⟨c, hcm, rfl⟩ := List.mem_map.mp hq
    rw [colI_of h1] at hcm
    rw [nmI_of h1]
    exact .last (tabOf_K h nd h1 hk) hcm
  | @up t p x cs h1 h2 h3 ih =>
    intro k hk q hq
    have hp := (h.par t x h1).1
    obtain ⟨r, rfl⟩ := h3.head
    rw [nmI_of h1]
    rcases List.mem_append.mp hq with hq | hq
    · obtain ⟨c, hcm, rfl⟩ := List.mem_map.mp hq
      rw [colI_of h1] at hcm
      exact .last (tabOf_K h nd h1 hk) hcm
    · obtain ⟨q', hq', rfl⟩ := List.mem_map.mp hq
      refine .up (tabOf_K h nd h1 hk) ?_ (pths_ne tb _ q' hq') (ih (by omega) q' hq')
      show (if x.par < 0 then none else some (nmI tb x.par.toNat)) = _
      rw [if_neg (by omega), h2]
      rfl
theorem dots_nil : dots [] = Str.ofString "" := by unfold dots; rw [TL.join_eq]; rfl
theorem dots_cons (a : Str) (r : List Str) : dots (a :: r) = a ++ dotS ++ dots r := by
  unfold dots
  cases r with
  | nil =>
    rw [List.map_cons, List.map_nil, join_one, TL.join_eq]
    refine str_ext ?_
    rw [app_list (a ++ dotS)]
    show _ = _ ++ (Str.ofString "").cps.toList
    have : (Str.ofString "").cps.toList = [] := by decide +kernel
    rw [this, List.append_nil]
  | cons b r =>
    rw [List.map_cons, join_two (by simp)]
    refine str_ext ?_
    rw [app_list, app_list (a ++ dotS), app_list (a ++ dotS)]
    have : (Str.ofString "").cps.toList = [] := by decide +kernel
    rw [this, List.append_nil]
theorem empty_app (c : Str) : Str.ofString "" ++ c = c := by
  refine str_ext ?_
  rw [app_list]
  have : (Str.ofString "").cps.toList = [] := by decide +kernel
  rw [this]
  rfl
theorem app_assoc (a b c : Str) : a ++ b ++ c = a ++ (b ++ c) := by
  refine str_ext ?_
  rw [app_list, app_list, app_list, app_list, List.append_assoc]
theorem colsOf_K {names : List Str} {tb : List TB} (h : For names tb) (nd : names.Nodup) {t k : Nat} (ht : t < tb.length) (hk : t < k) : colsOf (tabsK tb k) (nmI tb t) = colI tb t := by
  have h1 : tb[t]? = some tb[t] := List.getElem?_eq_getElem ht
  unfold colsOf
  rw [nmI_of h1, tabOf_K h nd h1 hk, colI_of h1]
  rfl
theorem flatMap_cg {α β : Type} {f g : α → List β} : ∀ {l : List α}, (∀ a ∈ l, f a = g a) → l.flatMap f = l.flatMap g
  | [], _ => rfl
  | a :: l, h => by rw [List.flatMap_cons, List.flatMap_cons, h a List.mem_cons_self, flatMap_cg fun b hb => h b (List.mem_cons_of_mem _ hb)]
theorem posP_plc {names : List Str} {tb : List TB} (h : For names tb) (nd : names.Nodup) {k : Nat} : ∀ (cs : List Nat), (∀ c ∈ cs, c < tb.length ∧ c < k) → posP (tabsK tb k) (cs.map (nmI tb)) cs.length = plc tb cs
  | [], _ => rfl
  | [t], hh => by
    have := hh t (List.mem_singleton.mpr rfl)
    rw [plc_one]
    show ((colsOf (tabsK tb k) (nmI tb t)).map fun c => dots [] ++ c) ++ [] = _
    rw [List.append_nil, colsOf_K h nd this.1 this.2]
    have e : (fun c : Str => dots [] ++ c) = id := funext fun c => by rw [dots_nil, empty_app]; rfl
    rw [e, List.map_id]
  | t :: p :: r, hh => by
    have h1 := hh t List.mem_cons_self
    have ih := posP_plc h nd (p :: r) fun c hc => hh c (List.mem_cons_of_mem _ hc)
    rw [plc_two, ← ih]
    unfold posP
    rw [show (t :: p :: r).length = (p :: r).length + 1 from rfl, List.range_succ_eq_map, List.flatMap_cons, List.flatMap_map]
    have e1 : ((colsOf (tabsK tb k) (((t :: p :: r).map (nmI tb)).getD 0 Str.empty)).map fun c => dots ((((t :: p :: r).map (nmI tb)).drop 1).take 0) ++ c) = colI tb t := by
      show ((colsOf (tabsK tb k) (nmI tb t)).map fun c => dots [] ++ c) = _
      rw [colsOf_K h nd h1.1 h1.2]
      have e : (fun c : Str => dots [] ++ c) = id := funext fun c => by rw [dots_nil, empty_app]; rfl
      rw [e, List.map_id]
    rw [e1, List.map_flatMap]
    congr 1
    refine flatMap_cg fun j hj => ?_
    rw [List.map_map]
    show (colsOf (tabsK tb k) (((p :: r).map (nmI tb)).getD j Str.empty)).map _ = _
    refine List.map_congr_left fun c _ => ?_
    show dots (((p :: r).map (nmI tb)).take (j + 1)) ++ c = nmI tb p ++ dotS ++ (dots ((((p :: r).map (nmI tb)).drop 1).take j) ++ c)
    rw [List.map_cons, List.take_succ_cons, dots_cons]
    show nmI tb p ++ dotS ++ dots ((r.map (nmI tb)).take j) ++ c = nmI tb p ++ dotS ++ (dots ((r.map (nmI tb)).take j) ++ c)
    rw [app_assoc]
end OA

/-! ### the lines of a drawn schema can be read -/
namespace OA
open PySem PySem.Spec PyProof.Rows L2
theorem Name.isName {w : Str} (h : Name 12 w) : isNameB w = true := by
  obtain ⟨c, r, e, hc⟩ := h.first
  have hl := h.len
  have h1 : 1 ≤ w.length := by rw [len_list, e]; exact Nat.le_add_left _ _
  unfold isNameB
  rw [decide_eq_true h1, decide_eq_true hl]
  have h2 : w.cps.toList.all (fun c => decide (c ∈ sgnL)) = true := by
    rw [List.all_eq_true]
    intro d hd
    refine decide_eq_true ?_
    rcases h.all d hd with g | g
    · unfold Low at g
      exact List.mem_map.mpr ⟨d - 97, List.mem_range.mpr (by omega), by unfold sg; rw [if_pos (by omega)]; omega⟩
    · exact List.mem_map.mpr ⟨d - 22, List.mem_range.mpr (by omega), by unfold sg; rw [if_neg (by omega)]; omega⟩
  rw [h2, e]
  show (true && true && decide (c ∈ letL) && true) = true
  unfold Low at hc
  rw [decide_eq_true (show c ∈ letL from List.mem_map.mpr ⟨c - 97, List.mem_range.mpr (by omega), by omega⟩)]
  rfl
theorem Name.no {m : Nat} {w : Str} (h : Name m w) {c : Nat} (hc : ¬ Alnum c) : c ∉ w.cps.toList := fun hm => hc (h.all c hm)
theorem Name.ne0 {m : Nat} {w : Str} (h : Name m w) : w ≠ Str.ofString "" := fun e => by
  obtain ⟨c, r, e1, _⟩ := h.first
  rw [e] at e1
  have : (Str.ofString "").cps.toList = [] := by decide +kernel
  rw [this] at e1
  cases e1
/-- a word of a line: no blank, no newline, not empty, short -/
structure Wd (w : Str) : Prop where
  sp : 32 ∉ w.cps.toList
  nl : 10 ∉ w.cps.toList
  ne : w ≠ Str.ofString ""
  len : w.length ≤ 60
theorem Name.wd {w : Str} (h : Name 12 w) : Wd w := ⟨h.no (by unfold Alnum Low; omega), h.no (by unfold Alnum Low; omega), h.ne0, by have := h.len; omega⟩
theorem wd_root : Wd (Str.ofString "root") := ⟨by decide +kernel, by decide +kernel, by decide +kernel, by decide +kernel⟩
theorem wd_table : Wd (Str.ofString "table") := ⟨by decide +kernel, by decide +kernel, by decide +kernel, by decide +kernel⟩
theorem wd_owner : Wd (Str.ofString "owner") := ⟨by decide +kernel, by decide +kernel, by decide +kernel, by decide +kernel⟩
theorem wd_follow : Wd (Str.ofString "follow") := ⟨by decide +kernel, by decide +kernel, by decide +kernel, by decide +kernel⟩
theorem split_spc {ws : List Str} (ne : ws ≠ []) (h : ∀ w ∈ ws, 32 ∉ w.cps.toList) : Txt.split (Txt.join spc ws) spc = ws := TL.split_join (s := 32) (S := []) (by decide +kernel) (by decide +kernel) ne h
theorem split_dot {ws : List Str} (ne : ws ≠ []) (h : ∀ w ∈ ws, 46 ∉ w.cps.toList) : Txt.split (Txt.join dotS ws) dotS = ws := TL.split_join (s := 46) (S := []) (by decide +kernel) (by decide +kernel) ne h
theorem split_nl {ws : List Str} (ne : ws ≠ []) (h : ∀ w ∈ ws, 10 ∉ w.cps.toList) : Txt.split (Txt.join nlS ws) nlS = ws := TL.split_join (s := 10) (S := []) (by decide +kernel) (by decide +kernel) ne h
theorem splitW_join {ws : List Str} (ne : ws ≠ []) (h : ∀ w ∈ ws, Wd w) : splitW (Txt.join spc ws) = ws := by
  unfold splitW
  rw [split_spc ne fun w hw => (h w hw).sp, if_neg fun hm => (h _ hm).ne rfl]
theorem join_mem {y : Str} {c : Nat} : ∀ {ws : List Str}, c ∈ (Txt.join y ws).cps.toList → c ∈ y.cps.toList ∨ ∃ w ∈ ws, c ∈ w.cps.toList
  | [], h => by rw [TL.join_eq] at h; cases h
  | [a], h => by rw [join_one] at h; exact .inr ⟨a, List.mem_singleton.mpr rfl, h⟩
  | a :: b :: r, h => by
    rw [join_two (by simp), app_list, app_list] at h
    rcases List.mem_append.mp h with h | h
    · rcases List.mem_append.mp h with h | h
      · exact .inr ⟨a, List.mem_cons_self, h⟩
      · exact .inl h
    · rcases join_mem h with h | ⟨w, hw, h⟩
      · exact .inl h
      · exact .inr ⟨w, List.mem_cons_of_mem _ hw, h⟩
theorem joinW_nl {ws : List Str} (h : ∀ w ∈ ws, Wd w) : 10 ∉ (Txt.join spc ws).cps.toList := fun hm => by
  rcases join_mem hm with g | ⟨w, hw, g⟩
  · revert g; decide +kernel
  · exact (h w hw).nl g
theorem joinW_len {ws : List Str} {n : Nat} (h : ∀ w ∈ ws, Wd w) (hn : ws.length ≤ n) : (Txt.join spc ws).length ≤ n * 61 := by
  have h1 := join_len spc ws
  have h2 : (ws.map (·.length)).sum ≤ (ws.map (·.length)).length * 60 := sum_le (B := 60) fun x hx => by
    obtain ⟨w, hw, rfl⟩ := List.mem_map.mp hx
    exact (h w hw).len
  rw [List.length_map] at h2
  have e : spc.length = 1 := by decide +kernel
  rw [e] at h1
  omega
/-- what the law draws of owners and follows -/
structure OwOk (tb : List TB) (ow : List (Nat × Str)) : Prop where
  nd : (ow.map (·.1)).Nodup
  ok : ∀ e ∈ ow, ∃ cs, ChI tb e.1 cs ∧ e.2 ∈ plc tb cs
structure FoOk (tb : List TB) (fo : List (Nat × Str × Str)) : Prop where
  nd : (fo.map fun e => (e.1, e.2.1)).Nodup
  ok : ∀ e ∈ fo, ∃ (x y : TB) (p : Nat), tb[e.1]? = some x ∧ x.par = (p : Int) ∧ e.2.1 ∈ x.cols ∧ tb[p]? = some y ∧ e.2.2 ∈ y.cols
def tlW (tb : List TB) (t : Nat) (x : TB) : List Str := if x.par < 0 then Str.ofString "root" :: x.nm :: x.cols else Str.ofString "table" :: x.nm :: nmI tb x.par.toNat :: x.cols
def ownW (tb : List TB) (e : Nat × Str) : List Str := [Str.ofString "owner", nmI tb e.1, e.2]
def folW (tb : List TB) (e : Nat × Str × Str) : List Str := [Str.ofString "follow", nmI tb e.1, e.2.1, e.2.2]
def ofT {β : Type} (l : List (Nat × β)) (t : Nat) : List (Nat × β) := l.filter fun e => decide (e.1 = t)
def extW (tb : List TB) (ow : List (Nat × Str)) (fo : List (Nat × Str × Str)) (t : Nat) : List (List Str) := (ofT ow t).map (ownW tb) ++ (ofT fo t).map (folW tb)
inductive Blk (tb : List TB) (ow : List (Nat × Str)) (fo : List (Nat × Str × Str)) : Nat → List Nat → List (List Str) → Prop
  | nil : Blk tb ow fo 0 [] []
  | tab {k : Nat} {D : List Nat} {ls : List (List Str)} {x : TB} : Blk tb ow fo k D ls → tb[k]? = some x → Blk tb ow fo (k + 1) D (ls ++ [tlW tb k x])
  | ext {k t : Nat} {D : List Nat} {ls : List (List Str)} : Blk tb ow fo k D ls → t < k → t ∉ D → Blk tb ow fo k (D ++ [t]) (ls ++ extW tb ow fo t)
def ownN (tb : List TB) (e : Nat × Str) : Str × Str := (nmI tb e.1, e.2)
def folN (tb : List TB) (e : Nat × Str × Str) : (Str × Str) × Str := ((nmI tb e.1, e.2.1), e.2.2)
def schK (tb : List TB) (ow : List (Nat × Str)) (fo : List (Nat × Str × Str)) (k : Nat) (D : List Nat) : Sch := ⟨tabsK tb k, (D.flatMap (ofT ow)).map (ownN tb), (D.flatMap (ofT fo)).map (folN tb)⟩
theorem ReadsL.app {s s1 s2 : Sch} {a b : List (List Str)} (h : ReadsL s a s1) (g : ReadsL s1 b s2) : ReadsL s (a ++ b) s2 := by
  induction h with
  | nil => exact g
  | cons h1 _ ih => exact .cons h1 (ih g)
theorem ofT_mem {β : Type} {l : List (Nat × β)} {t : Nat} {e : Nat × β} (h : e ∈ ofT l t) : e ∈ l ∧ e.1 = t := by
  obtain ⟨h1, h2⟩ := List.mem_filter.mp h
  exact ⟨h1, of_decide_eq_true h2⟩
theorem find_no {α : Type} {p : α → Bool} {l : List α} (h : ∀ a ∈ l, p a = false) : l.find? p = none := by
  rw [List.find?_eq_none]
  intro a ha
  rw [h a ha]
  exact Bool.false_ne_true
section
variable {names : List Str} {tb : List TB} (F : For names tb) (W : Words 12 12 names)
include F W
theorem nameAt {t : Nat} {x : TB} (h : tb[t]? = some x) : Name 12 x.nm := W.all _ (List.mem_of_getElem? (F.nm t x h))
theorem nameC {t : Nat} {x : TB} (h : tb[t]? = some x) {c : Str} (hc : c ∈ x.cols) : Name 12 c := W.all _ ((F.cols t x h).2.2.2 c hc)
theorem nameI {t : Nat} (h : t < tb.length) : Name 12 (nmI tb t) := by
  have h1 : tb[t]? = some tb[t] := List.getElem?_eq_getElem h
  rw [nmI_of h1]
  exact nameAt F W h1
theorem lenTB : tb.length ≤ 12 := by
  rcases Nat.lt_or_ge 12 tb.length with h | h
  · have h1 := F.nm 12 _ (List.getElem?_eq_getElem h)
    have := get_lt h1
    rw [W.len] at this
    omega
  · exact h
theorem pathNames {t : Nat} {cs : List Nat} (hc : ChI tb t cs) : ∀ q ∈ pths tb cs, q.length ≤ cs.length ∧ ∀ z ∈ q, Name 12 z := by
  induction hc with
  | @root t x h1 h2 =>
    intro q hq
    obtain ⟨c, hcm, rfl⟩ := List.mem_map.mp hq
    rw [colI_of h1] at hcm
    refine ⟨Nat.le_refl _, fun z hz => ?_⟩
    rw [List.mem_singleton.mp hz]
    exact nameC F W h1 hcm
  | @up t p x cs h1 h2 h3 ih =>
    intro q hq
    obtain ⟨r, rfl⟩ := h3.head
    rcases List.mem_append.mp hq with hq | hq
    · obtain ⟨c, hcm, rfl⟩ := List.mem_map.mp hq
      rw [colI_of h1] at hcm
      refine ⟨by show 1 ≤ _ + 1; omega, fun z hz => ?_⟩
      rw [List.mem_singleton.mp hz]
      exact nameC F W h1 hcm
    · obtain ⟨q', hq', rfl⟩ := List.mem_map.mp hq
      obtain ⟨g1, g2⟩ := ih q' hq'
      refine ⟨by show q'.length + 1 ≤ _ + 1; omega, fun z hz => ?_⟩
      rcases List.mem_cons.mp hz with e | e
      · rw [e]; exact nameI F W h3.lt
      · exact g2 z e
theorem plcW {t : Nat} {cs : List Nat} (hc : ChI tb t cs) {z : Str} (hz : z ∈ plc tb cs) : ∃ q ∈ pths tb cs, z = Txt.join dotS q ∧ Txt.split z dotS = q ∧ q.length ≤ 4 ∧ (∀ y ∈ q, Name 12 y) ∧ Wd z := by
  obtain ⟨q, hq, rfl⟩ := List.mem_map.mp hz
  obtain ⟨g1, g2⟩ := pathNames F W hc q hq
  obtain ⟨cs', hc', hl'⟩ := F.ch t hc.lt
  have e := hc.uniq hc'
  subst e
  have ne := pths_ne tb cs q hq
  have nl : ∀ c, ¬ Alnum c → c ≠ 46 → c ∉ (Txt.join dotS q).cps.toList := fun c h1 h2 hm => by
    rcases join_mem hm with g | ⟨w, hw, g⟩
    · have e : dotS.cps.toList = [46] := by decide +kernel
      rw [e] at g
      exact h2 (List.mem_singleton.mp g)
    · exact (g2 w hw).no h1 g
  refine ⟨q, hq, rfl, split_dot ne fun w hw => (g2 w hw).no (by unfold Alnum Low; omega), by omega, g2, nl 32 (by unfold Alnum Low; omega) (by decide), nl 10 (by unfold Alnum Low; omega) (by decide), ?_, ?_⟩
  · intro e0
    cases q with
    | nil => exact absurd rfl ne
    | cons a r =>
      obtain ⟨c, r', e1, _⟩ := (g2 a List.mem_cons_self).first
      have : (Txt.join dotS (a :: r)).cps.toList = [] := by rw [e0]; decide +kernel
      cases r with
      | nil => rw [join_one, e1] at this; cases this
      | cons b r => rw [join_two (by simp), app_list, app_list, e1] at this; cases this
  · have h1 := join_len dotS q
    have h2 : (q.map (·.length)).sum ≤ (q.map (·.length)).length * 12 := sum_le (B := 12) fun x hx => by
      obtain ⟨w, hw, rfl⟩ := List.mem_map.mp hx
      exact (g2 w hw).len
    rw [List.length_map] at h2
    have e : dotS.length = 1 := by decide +kernel
    rw [e] at h1
    omega
theorem reads_own {k : Nat} {fols : List ((Str × Str) × Str)} : ∀ (l pre : List (Nat × Str)), (∀ e ∈ l, e.1 < k ∧ ∃ cs, ChI tb e.1 cs ∧ e.2 ∈ plc tb cs) → (∀ e ∈ pre, e.1 < tb.length) → ((pre ++ l).map (·.1)).Nodup → ReadsL ⟨tabsK tb k, pre.map (ownN tb), fols⟩ (l.map (ownW tb)) ⟨tabsK tb k, (pre ++ l).map (ownN tb), fols⟩
  | [], pre, _, _, _ => by rw [List.append_nil]; exact .nil
  | e :: l, pre, h, hp, nd => by
    obtain ⟨hk, cs, hc, hm⟩ := h e List.mem_cons_self
    obtain ⟨q, hq, e1, e2, q4, qn, wz⟩ := plcW F W hc hm
    obtain ⟨x, hx⟩ : ∃ x, tb[e.1]? = some x := ⟨_, List.getElem?_eq_getElem hc.lt⟩
    have nn := nameI F W hc.lt
    have ih := reads_own (k := k) (fols := fols) l (pre ++ [e]) (fun e he => h e (List.mem_cons_of_mem _ he)) (fun a ha => by
      rcases List.mem_append.mp ha with ha | ha
      · exact hp a ha
      · rw [List.mem_singleton.mp ha]; exact hc.lt) (by rw [List.append_assoc]; exact nd)
    rw [List.append_assoc, List.singleton_append] at ih
    refine .cons ?_ ih
    have v := ValidLine.owner (s := ⟨tabsK tb k, pre.map (ownN tb), fols⟩) (t := nmI tb e.1) (z := e.2) nn.isName (by rw [e2, List.all_eq_true]; exact fun y hy => (qn y hy).isName) (by have := wz.len; omega) (by rw [e2]; omega) (by rw [e2]; exact fun y hy => by have := (qn y hy).len; omega) (by
      show (tabOf (tabsK tb k) (nmI tb e.1)).isSome = true
      rw [nmI_of hx, tabOf_K F W.nd hx hk]
      rfl) (by
      refine find_no fun a ha => ?_
      obtain ⟨b, hb, rfl⟩ := List.mem_map.mp ha
      refine decide_eq_false fun ee => ?_
      have := nmI_inj F W.nd (hp b hb) hc.lt ee
      rw [List.map_append, List.nodup_append] at nd
      exact nd.2.2 b.1 (List.mem_map.mpr ⟨b, hb, rfl⟩) e.1 (List.mem_map.mpr ⟨e, List.mem_cons_self, rfl⟩) this) (by rw [e2]; exact posK F W.nd hc hk q hq)
    rw [List.map_append]
    exact v
theorem reads_fol {k : Nat} {owns : List (Str × Str)} : ∀ (l pre : List (Nat × Str × Str)), (∀ e ∈ l, e.1 < k ∧ ∃ (x y : TB) (p : Nat), tb[e.1]? = some x ∧ x.par = (p : Int) ∧ e.2.1 ∈ x.cols ∧ tb[p]? = some y ∧ e.2.2 ∈ y.cols) → (∀ e ∈ pre, e.1 < tb.length) → ((pre ++ l).map fun e => (e.1, e.2.1)).Nodup → ReadsL ⟨tabsK tb k, owns, pre.map (folN tb)⟩ (l.map (folW tb)) ⟨tabsK tb k, owns, (pre ++ l).map (folN tb)⟩
  | [], pre, _, _, _ => by rw [List.append_nil]; exact .nil
  | e :: l, pre, h, hp, nd => by
    obtain ⟨hk, x, y, p, hx, hpar, hc, hy, hu⟩ := h e List.mem_cons_self
    have hlt := get_lt hx
    have hpl := (F.par _ _ hx).1
    have ih := reads_fol (k := k) (owns := owns) l (pre ++ [e]) (fun e he => h e (List.mem_cons_of_mem _ he)) (fun a ha => by
      rcases List.mem_append.mp ha with ha | ha
      · exact hp a ha
      · rw [List.mem_singleton.mp ha]; exact hlt) (by rw [List.append_assoc]; exact nd)
    rw [List.append_assoc, List.singleton_append] at ih
    refine .cons ?_ ih
    have v := ValidLine.follow (s := ⟨tabsK tb k, owns, pre.map (folN tb)⟩) (t := nmI tb e.1) (c := e.2.1) (u := e.2.2) (p := nmI tb p) (tb := toTab tb x) (tp := toTab tb y) (nameI F W hlt).isName (nameC F W hx hc).isName (nameC F W hy hu).isName (by
      show tabOf (tabsK tb k) (nmI tb e.1) = _
      rw [nmI_of hx, tabOf_K F W.nd hx hk]) hc (by
      refine find_no fun a ha => ?_
      obtain ⟨b, hb, rfl⟩ := List.mem_map.mp ha
      refine decide_eq_false fun ee => ?_
      have ee : (nmI tb b.1, b.2.1) = (nmI tb e.1, e.2.1) := ee
      injection ee with ee1 ee2
      have := nmI_inj F W.nd (hp b hb) hlt ee1
      rw [List.map_append, List.nodup_append] at nd
      exact nd.2.2 (b.1, b.2.1) (List.mem_map.mpr ⟨b, hb, rfl⟩) (e.1, e.2.1) (List.mem_map.mpr ⟨e, List.mem_cons_self, rfl⟩) (by rw [this, ee2])) (by
      show (if x.par < 0 then none else some (nmI tb x.par.toNat)) = _
      rw [if_neg (by omega), hpar]
      rfl) (by
      show tabOf (tabsK tb k) (nmI tb p) = _
      rw [nmI_of hy, tabOf_K F W.nd hy (by omega)]) hu
    rw [List.map_append]
    exact v
theorem Blk.reads {ow : List (Nat × Str)} {fo : List (Nat × Str × Str)} (O : OwOk tb ow) (Fo : FoOk tb fo) (six : tb.length ≤ 6) {k : Nat} {D : List Nat} {ls : List (List Str)} (h : Blk tb ow fo k D ls) : k ≤ tb.length ∧ (∀ t ∈ D, t < k) ∧ ((D.flatMap (ofT ow)).map (·.1)).Nodup ∧ ((D.flatMap (ofT fo)).map fun e => (e.1, e.2.1)).Nodup ∧ ReadsL ⟨[], [], []⟩ ls (schK tb ow fo k D) := by
  induction h with
  | nil => exact ⟨Nat.zero_le _, (fun t h => nomatch h), List.nodup_nil, List.nodup_nil, ReadsL.nil⟩
  | @tab k D ls x _ hx ih =>
    obtain ⟨h1, h2, h3, h4, h5⟩ := ih
    have hk := get_lt hx
    refine ⟨hk, fun t ht => Nat.lt_succ_of_lt (h2 t ht), h3, h4, h5.app (.cons ?_ .nil)⟩
    obtain ⟨c1, c2, c3, c4⟩ := F.cols k x hx
    have cne : x.cols ≠ [] := fun e => by rw [e] at c1; exact absurd c1 (by decide)
    have tl : (tabsK tb k).length < 6 := by unfold tabsK; rw [List.length_map, List.length_take]; omega
    have tk : tabsK tb (k + 1) = tabsK tb k ++ [toTab tb x] := by
      unfold tabsK
      rw [take_more hx, List.map_append]
      rfl
    unfold tlW schK
    rw [tk]
    by_cases hp : x.par < 0
    · rw [if_pos hp]
      have v := ValidLine.root (s := schK tb ow fo k D) (t := x.nm) (cols := x.cols) cne (by
        rw [List.all_eq_true]
        intro z hz
        rcases List.mem_cons.mp hz with e | e
        · rw [e]; exact (nameAt F W hx).isName
        · exact (nameC F W hx e).isName) (tabOf_no F W.nd hx (Nat.le_refl _)) c3 c2 tl
      have e : toTab tb x = ⟨x.nm, none, x.cols⟩ := by unfold toTab; rw [if_pos hp]
      rw [e]
      exact v
    · rw [if_neg hp]
      have hpp := F.par k x hx
      obtain ⟨p, hpe⟩ : ∃ p : Nat, x.par = (p : Int) := ⟨x.par.toNat, by omega⟩
      have ep : x.par.toNat = p := by omega
      rw [ep]
      obtain ⟨cs, hcs, hl4⟩ := F.ch k hk
      obtain ⟨ds, hds, hd4⟩ : ∃ ds, ChI tb p ds ∧ ds.length < 4 := by
        cases hcs with
        | root g1 g2 => rw [hx] at g1; cases g1; exact absurd g2 hp
        | @up _ p' x' ds g1 g2 g3 =>
          rw [hx] at g1
          cases g1
          have : p = p' := by omega
          subst this
          have hl4 : ds.length + 1 ≤ 4 := hl4
          exact ⟨ds, g3, by omega⟩
      have v := ValidLine.table (s := schK tb ow fo k D) (t := x.nm) (p := nmI tb p) (cols := x.cols) (cs := ds.map (nmI tb)) cne (by
        rw [List.all_eq_true]
        intro z hz
        rcases List.mem_cons.mp hz with e | e
        · rw [e]; exact (nameAt F W hx).isName
        · rcases List.mem_cons.mp e with e | e
          · rw [e]; exact (nameI F W (by omega)).isName
          · exact (nameC F W hx e).isName) (tabOf_no F W.nd hx (Nat.le_refl _)) (chainK F W.nd hds (by omega)) (by rw [List.length_map]; exact hd4) c3 c2 tl
      have e : toTab tb x = ⟨x.nm, some (nmI tb p), x.cols⟩ := by unfold toTab; rw [if_neg hp, ep]
      rw [e]
      exact v
  | @ext k t D ls _ ht hn ih =>
    obtain ⟨h1, h2, h3, h4, h5⟩ := ih
    have fl : ∀ {β : Type} (l : List (Nat × β)), (D ++ [t]).flatMap (ofT l) = D.flatMap (ofT l) ++ ofT l t := fun l => by rw [List.flatMap_append, List.flatMap_cons, List.flatMap_nil, List.append_nil]
    have inD : ∀ {β : Type} (l : List (Nat × β)), ∀ e ∈ D.flatMap (ofT l), e.1 ∈ D := fun l e he => by
      obtain ⟨d, hd, he⟩ := List.mem_flatMap.mp he
      rw [(ofT_mem he).2]
      exact hd
    have n3 : ((D.flatMap (ofT ow) ++ ofT ow t).map (·.1)).Nodup := by
      rw [List.map_append, List.nodup_append]
      refine ⟨h3, O.nd.sublist (List.filter_sublist.map _), fun a ha b hb e => ?_⟩
      obtain ⟨u, hu, rfl⟩ := List.mem_map.mp ha
      obtain ⟨v, hv, rfl⟩ := List.mem_map.mp hb
      have := inD ow u hu
      rw [e, (ofT_mem hv).2] at this
      exact hn this
    have n4 : ((D.flatMap (ofT fo) ++ ofT fo t).map fun e => (e.1, e.2.1)).Nodup := by
      rw [List.map_append, List.nodup_append]
      refine ⟨h4, Fo.nd.sublist (List.filter_sublist.map _), fun a ha b hb e => ?_⟩
      obtain ⟨u, hu, rfl⟩ := List.mem_map.mp ha
      obtain ⟨v, hv, rfl⟩ := List.mem_map.mp hb
      have := inD fo u hu
      injection e with e1 e2
      rw [e1, (ofT_mem hv).2] at this
      exact hn this
    refine ⟨h1, fun d hd => ?_, by rw [fl]; exact n3, by rw [fl]; exact n4, h5.app ?_⟩
    · rcases List.mem_append.mp hd with hd | hd
      · exact h2 d hd
      · rw [List.mem_singleton.mp hd]; exact ht
    · unfold extW schK
      rw [fl, fl]
      refine ReadsL.app (reads_own F W (ofT ow t) (D.flatMap (ofT ow)) (fun e he => ?_) (fun e he => ?_) n3) (reads_fol F W (ofT fo t) (D.flatMap (ofT fo)) (fun e he => ?_) (fun e he => ?_) n4)
      · obtain ⟨g1, g2⟩ := ofT_mem he
        exact ⟨by omega, O.ok e g1⟩
      · have := h2 _ (inD ow e he)
        omega
      · obtain ⟨g1, g2⟩ := ofT_mem he
        exact ⟨by omega, Fo.ok e g1⟩
      · have := h2 _ (inD fo e he)
        omega
theorem Blk.wd {ow : List (Nat × Str)} {fo : List (Nat × Str × Str)} (O : OwOk tb ow) (Fo : FoOk tb fo) {k : Nat} {D : List Nat} {ls : List (List Str)} (h : Blk tb ow fo k D ls) : ∀ l ∈ ls, l ≠ [] ∧ l.length ≤ 7 ∧ ∀ w ∈ l, Wd w := by
  induction h with
  | nil => intro l hl; cases hl
  | @tab k D ls x _ hx ih =>
    intro l hl
    rcases List.mem_append.mp hl with hl | hl
    · exact ih l hl
    · rw [List.mem_singleton.mp hl]
      obtain ⟨c1, c2, c3, c4⟩ := F.cols k x hx
      have hpp := F.par k x hx
      have hk := get_lt hx
      unfold tlW
      by_cases hp : x.par < 0
      · rw [if_pos hp]
        refine ⟨by simp, by simp; omega, fun w hw => ?_⟩
        rcases List.mem_cons.mp hw with e | hw
        · rw [e]; exact wd_root
        · rcases List.mem_cons.mp hw with e | hw
          · rw [e]; exact (nameAt F W hx).wd
          · exact (nameC F W hx hw).wd
      · rw [if_neg hp]
        refine ⟨by simp, by simp; omega, fun w hw => ?_⟩
        rcases List.mem_cons.mp hw with e | hw
        · rw [e]; exact wd_table
        · rcases List.mem_cons.mp hw with e | hw
          · rw [e]; exact (nameAt F W hx).wd
          · rcases List.mem_cons.mp hw with e | hw
            · rw [e]; exact (nameI F W (by omega)).wd
            · exact (nameC F W hx hw).wd
  | @ext k t D ls _ ht hn ih =>
    intro l hl
    rcases List.mem_append.mp hl with hl | hl
    · exact ih l hl
    · rcases List.mem_append.mp hl with hl | hl
      · obtain ⟨e, he, rfl⟩ := List.mem_map.mp hl
        obtain ⟨cs, hc, hz⟩ := O.ok e (ofT_mem he).1
        obtain ⟨_, _, _, _, _, _, wz⟩ := plcW F W hc hz
        refine ⟨by simp [ownW], by simp [ownW], fun w hw => ?_⟩
        rcases List.mem_cons.mp hw with e | hw
        · rw [e]; exact wd_owner
        · rcases List.mem_cons.mp hw with e | hw
          · rw [e]; exact (nameI F W hc.lt).wd
          · rw [List.mem_singleton.mp hw]; exact wz
      · obtain ⟨e, he, rfl⟩ := List.mem_map.mp hl
        obtain ⟨x, y, p, hx, _, hc, hy, hu⟩ := Fo.ok e (ofT_mem he).1
        refine ⟨by simp [folW], by simp [folW], fun w hw => ?_⟩
        rcases List.mem_cons.mp hw with e | hw
        · rw [e]; exact wd_follow
        · rcases List.mem_cons.mp hw with e | hw
          · rw [e]; exact (nameI F W (get_lt hx)).wd
          · rcases List.mem_cons.mp hw with e | hw
            · rw [e]; exact (nameC F W hx hc).wd
            · rw [List.mem_singleton.mp hw]; exact (nameC F W hy hu).wd
end
end OA

/-! ### a drawn forest in the heap; get_chain, get_places, table_line -/
namespace OA
open PySem PySem.Spec PyProof.Rows L2
def TBr (H : Hp) (a : Addr) (x : TB) : Prop := ∃ c, H a = some (.tup [.str x.nm, .int x.par, .ref c]) ∧ H c = some (.lst (x.cols.map V.str))
abbrev TBx (H : Hp) (as : List Addr) (tb : List TB) : Prop := Paired (TBr H) as tb
def TBs (H : Hp) (v : V) (tb : List TB) : Prop := ∃ D as, v = .ref D ∧ H D = some (.lst (as.map V.ref)) ∧ TBx H as tb
theorem TBr.mono {H H' : Hp} {a : Addr} {x : TB} (s : Same H H') (h : TBr H a x) : TBr H' a x := by
  obtain ⟨c, h1, h2⟩ := h
  exact ⟨c, s _ _ h1, s _ _ h2⟩
theorem TBs.mono {H H' : Hp} {v : V} {tb : List TB} (s : Same H H') (h : TBs H v tb) : TBs H' v tb := by
  obtain ⟨D, as, e, h1, h2⟩ := h
  exact ⟨D, as, e, s _ _ h1, Paired.mapP h2 fun a x => TBr.mono s⟩
theorem paired_get2 {α β : Type} {F : α → β → Prop} : ∀ {as : List α} {bs : List β}, Paired F as bs → ∀ {i : Nat} {b : β}, bs[i]? = some b → ∃ a, as[i]? = some a ∧ F a b
  | _, _, .nil, i, b, h => by simp at h
  | _, _, .cons (a := a) h r, 0, b', e => by
    have := Option.some.inj e
    subst this
    exact ⟨a, rfl, h⟩
  | _, _, .cons h r, i + 1, b', e => by
    obtain ⟨a, h1, h2⟩ := paired_get2 r (i := i) (b := b') e
    exact ⟨a, h1, h2⟩
theorem TBs.at {H : Hp} {v : V} {tb : List TB} (h : TBs H v tb) : ∃ (D : Addr) (as : List Addr), v = .ref D ∧ H D = some (.lst (as.map V.ref)) ∧ as.length = tb.length ∧ ∀ (t : Nat) (x : TB), tb[t]? = some x → ∃ a c, (as.map V.ref)[t]? = some (.ref a) ∧ H a = some (.tup [.str x.nm, .int x.par, .ref c]) ∧ H c = some (.lst (x.cols.map V.str)) := by
  obtain ⟨D, as, e, h1, h2⟩ := h
  refine ⟨D, as, e, h1, Paired.length h2, fun t x hx => ?_⟩
  obtain ⟨a, ha, c, g1, g2⟩ := paired_get2 h2 hx
  exact ⟨a, c, by rw [List.getElem?_map, ha]; rfl, g1, g2⟩
abbrev natV (n : Nat) : V := .int (n : Int)
def spGC (d : Nat) : Sp := fun vs H Q _ => ∃ (v : V) (t : Nat) (tb : List TB) (cs : List Nat), vs = [v, .int (t : Int)] ∧ TBs H v tb ∧ ChI tb t cs ∧ cs.length ≤ d ∧ d ≤ 1000 ∧ ∀ (p : Addr) (H' : Hp), Same H H' → H p = none → H' p = some (.lst (cs.map natV)) → Q (.ref p) H'
/-- short texts -/
structure Shrt (tb : List TB) : Prop where
  nm : ∀ x ∈ tb, x.nm.length ≤ 100
  cl : ∀ x ∈ tb, x.cols.length ≤ 100
  cn : ∀ x ∈ tb, ∀ c ∈ x.cols, c.length ≤ 100
theorem plc_short {tb : List TB} (S : Shrt tb) {t : Nat} {cs : List Nat} (h : ChI tb t cs) : (plc tb cs).length ≤ cs.length * 100 ∧ ∀ z ∈ plc tb cs, z.length ≤ cs.length * 200 := by
  induction h with
  | @root t x h1 h2 =>
    have hm := List.mem_of_getElem? h1
    rw [plc_one, colI_of h1]
    exact ⟨by have := S.cl x hm; simpa using this, fun z hz => by have := S.cn x hm z hz; show _ ≤ 1 * 200; omega⟩
  | @up t p x cs h1 h2 h3 ih =>
    have hm := List.mem_of_getElem? h1
    obtain ⟨r, rfl⟩ := h3.head
    obtain ⟨i1, i2⟩ := ih
    obtain ⟨y, hy⟩ : ∃ y, tb[p]? = some y := ⟨_, List.getElem?_eq_getElem h3.lt⟩
    rw [plc_two, colI_of h1]
    have hc := S.cl x hm
    refine ⟨?_, fun z hz => ?_⟩
    · rw [List.length_append, List.length_map]
      simp only [List.length_cons] at *
      omega
    · rcases List.mem_append.mp hz with hz | hz
      · have := S.cn x hm z hz
        simp only [List.length_cons]
        omega
      · obtain ⟨u, hu, rfl⟩ := List.mem_map.mp hz
        have g1 := i2 u hu
        have g2 := S.nm y (List.mem_of_getElem? hy)
        have g3 : dotS.length = 1 := by decide +kernel
        rw [app_len, app_len, nmI_of hy]
        simp only [List.length_cons] at *
        omega
def spGP (d : Nat) : Sp := fun vs H Q _ => ∃ (v : V) (t : Nat) (tb : List TB) (cs : List Nat), vs = [v, .int (t : Int)] ∧ TBs H v tb ∧ ChI tb t cs ∧ cs.length ≤ d ∧ d ≤ 100 ∧ Shrt tb ∧ ∀ (p : Addr) (H' : Hp), Same H H' → H p = none → H' p = some (.lst ((plc tb cs).map V.str)) → Q (.ref p) H'
def spTL : Sp := fun vs H Q _ => ∃ (v : V) (t : Nat) (tb : List TB) (x : TB), vs = [v, .int (t : Int)] ∧ TBs H v tb ∧ tb[t]? = some x ∧ Shrt tb ∧ (x.par < 0 ∨ x.par < tb.length) ∧ ∀ H', Same H H' → Q (.str (Txt.join spc (tlW tb t x))) H'
def pre2 (z : Str) : V → V
  | .str x => .str (z ++ x)
  | v => v
theorem map_pre2 (z : Str) : ∀ xs : List Str, (xs.map V.str).map (pre2 z) = (xs.map fun c => z ++ c).map V.str
  | [] => rfl
  | x :: xs => by rw [List.map_cons, List.map_cons, List.map_cons, List.map_cons, map_pre2 z xs]; rfl
section
variable {P : Program} {w : World} {K : PySem.W.Frag} {mg : Str → Option Value} {base : Heap}
theorem sc_get_chain : FnScope ["_law_tb", "_law_t"] ["_law_tb", "_law_t"] (defScope (topS 34)) := ⟨rfl, rfl, rfl, by decide +kernel, rfl, by decide +kernel, by decide +kernel⟩
theorem ok_get_chain1 {f : Addr} {fd : FuncData} {d k : Nat} (F : Fun K "_law_get_chain" "_law_get_chain" (topS 34) f fd) (T : Txt K mg) (c_get_chain : Callee P w K mg base "_law_get_chain" ["_law_tb", "_law_t"] (spGC d) k) : FnOk P w K mg base CX0 (k + 1) f fd ["_law_tb", "_law_t"] (spGC (d + 1)) := by
  refine F.ok sc_get_chain (fun vs H Q E h => ?_) (fun cdv A outer s H vs Q E hr h => ?_)
  · obtain ⟨v, t, tb, cs, rfl, _⟩ := h
    rfl
  · obtain ⟨v, t, tb, cs, rfl, B, hc, hd, hd2, k⟩ := h
    refine ⟨_, (pss_one (ps_ret (pe_op op_cat (pe_lst (pa_cons (pv 1) pa_nil)) (pe_ifExp (pt_cmpR o_ge (pe_ix (ix_tpl K) (pe_ix (ix_lst K) (pv 0) (pv 1) (fun _ _ => rfl)) pe_int (fun _ _ => rfl)) pe_int (nomark _)) (pe_co c_get_chain hr (Nat.le_refl _) (by rfl) (pa_cons (pv 0) (pa_cons (pe_ix (ix_tpl K) (pe_ix (ix_lst K) (pv 0) (pv 1) (fun _ _ => rfl)) pe_int (fun _ _ => rfl)) pa_nil))) (pe_lst pa_nil))))), ?_⟩
    obtain ⟨D, as, rfl, hD, el, hat⟩ := B.at
    refine ⟨_, rfl, by show 1 ≤ sizeLine; decide, fun l nl => ?_⟩
    have t1 : Same H (upd H l (.lst [.int (t : Int)])) := same_loc (Same.refl H) nl _
    have hl : (upd H l (.lst [.int (t : Int)])) l = some (.lst [.int (t : Int)]) := upd_same
    generalize upd H l (.lst [.int (t : Int)]) = H1 at t1 hl
    obtain ⟨x, hx⟩ : ∃ x, tb[t]? = some x := ⟨_, List.getElem?_eq_getElem hc.lt⟩
    obtain ⟨a, c, ga, hta, hcl⟩ := hat t x hx
    refine ⟨_, rfl, _, rfl, D, _, _, .ref a, rfl, rfl, SqL.of (t1 _ _ hD), atI_nat ga, a, _, _, .int x.par, rfl, rfl, SqT.of (t1 _ _ hta), rfl, _, _, rfl, rfl, _, rfl, ?_⟩
    cases hc with
    | root h1 h2 =>
      rw [hx] at h1
      cases h1
      rw [show decide ((0 : Int) ≤ x.par) = false from decide_eq_false (by omega)]
      refine iteF ?_
      refine ⟨by decide, fun q nq => ?_⟩
      have lq : l ≠ q := ne_of_none hl nq
      refine ⟨l, q, _, _, rfl, rfl, by rw [upd_ne lq]; exact hl, upd_same, by show 1 ≤ sizeLine; decide, fun p np => ?_⟩
      have nq' : H q = none := t1.free nq
      have np1 : H1 p = none := by
        by_cases e : p = q
        · rw [e, upd_same] at np; cases np
        · rw [upd_ne e] at np; exact np
      exact k p _ ((t1.trans (same_loc (Same.refl H1) nq _)).trans (same_loc (Same.refl _) np _)) (t1.free np1) upd_same
    | @up _ p x' cs h1 h2 h3 =>
      rw [hx] at h1
      cases h1
      rw [show decide ((0 : Int) ≤ x.par) = true from decide_eq_true (by omega)]
      refine iteT ?_
      refine ⟨_, rfl, _, rfl, _, rfl, D, _, _, .ref a, rfl, rfl, SqL.of (t1 _ _ hD), atI_nat ga, a, _, _, .int x.par, rfl, rfl, SqT.of (t1 _ _ hta), rfl, .ref D, p, tb, cs, by rw [h2]; rfl, B.mono t1, h3, Nat.le_of_succ_le_succ hd, by omega, fun q H2 t2 nq hq => ?_⟩
      refine ⟨l, q, _, _, rfl, rfl, t2 _ _ hl, hq, ?_, fun r nr => ?_⟩
      · refine sz_le ?_
        have hd : cs.length + 1 ≤ d + 1 := hd
        rw [List.length_map]
        show 1 + cs.length ≤ _
        omega
      · have t12 := t1.trans t2
        exact k r _ (t12.trans (same_loc (Same.refl _) nr _)) (t12.free nr) upd_same
theorem FnOk.none {f : Addr} {fd : FuncData} {ps : List Str} {sp : Sp} {k : Nat} (h : ∀ vs H Q E, ¬ sp vs H Q E) : FnOk P w K mg base CX0 k f fd ps sp := ⟨fun vs H Q E q => (h vs H Q E q).elim, fun A outer s H args us vs Q E _ _ _ _ q => (h vs H Q E q).elim⟩
theorem ok_get_chain {f : Addr} {fd : FuncData} (F : Fun K "_law_get_chain" "_law_get_chain" (topS 34) f fd) (T : Txt K mg) (c : ∀ sp k, FnOk P w K mg base CX0 k f fd ["_law_tb", "_law_t"] sp → Callee P w K mg base "_law_get_chain" ["_law_tb", "_law_t"] sp k) : ∀ d, FnOk P w K mg base CX0 d f fd ["_law_tb", "_law_t"] (spGC d)
  | 0 => FnOk.none fun vs H Q E ⟨v, t, tb, cs, _, _, hc, hl, _⟩ => by
    obtain ⟨r, rfl⟩ := hc.head
    exact absurd hl (by simp)
  | d + 1 => ok_get_chain1 F T (c _ _ (ok_get_chain F T c d))
theorem sc_get_places : FnScope ["_law_tb", "_law_t", "_law_name", "_law_parent", "_law_columns", "_law_place"] ["_law_tb", "_law_t"] (defScope (topS 35)) := ⟨rfl, rfl, rfl, by decide +kernel, rfl, by decide +kernel, by decide +kernel⟩
set_option maxHeartbeats 1000000 in
theorem ok_get_places1 {f : Addr} {fd : FuncData} {d k : Nat} (F : Fun K "_law_get_places" "_law_get_places" (topS 35) f fd) (T : Txt K mg) (c_get_places : Callee P w K mg base "_law_get_places" ["_law_tb", "_law_t"] (spGP d) k) : FnOk P w K mg base CX0 (k + 1) f fd ["_law_tb", "_law_t"] (spGP (d + 1)) := by
  refine F.ok sc_get_places (fun vs H Q E h => ?_) (fun cdv A outer s H vs Q E hr h => ?_)
  · obtain ⟨v, t, tb, cs, rfl, _⟩ := h
    rfl
  · obtain ⟨v, t, tb, cs, rfl, B, hc, hd, hd2, S, k⟩ := h
    refine ⟨_, (pss_cons (ps_asg (pe_ix (ix_lst K) (pv 0) (pv 1) (fun _ _ => rfl)) (g_tup K (n := 3) rfl (pgs_cons (pg_name (i := 2) sc_get_places.nd rfl (Or.inl rfl)) (pgs_cons (pg_name (i := 3) sc_get_places.nd rfl (Or.inr rfl)) (pgs_cons (pg_name (i := 4) sc_get_places.nd rfl (Or.inl rfl)) pgs_nil)))))
      (pss_cons (ps_if (pt_cmpR o_lt (pv 3) pe_int (nomark _)) (pss_one (ps_ret (pe_callTy (c_list K) (by rfl) T.n_list (by decide +kernel) (pa_cons (pv 4) pa_nil)))) pss_nil)
      (pss_one (ps_ret (pe_op op_cat (pv 4) (pe_lc (own := [("_law_place", 5)]) (by rfl) sc_get_places.nd (i_list K (pe_co c_get_places hr (Nat.le_refl _) (by rfl) (pa_cons (pv 0) (pa_cons (pv 3) pa_nil)))) (blkOk_by (own := [("_law_place", 5)]) (N := ["_law_tb", "_law_t", "_law_name", "_law_parent", "_law_columns", "_law_place"]) (sc := defScope (topS 35)) (by decide +kernel)) (fun _ _ _ _ _ => (pg_name (i := 5) sc_get_places.nd rfl (Or.inl rfl))) (fun _ _ _ _ _ => pts_nil) (fun _ _ _ _ _ => (pe_op o_adds (pe_op o_adds (pe_ix (ix_tpl K) (pe_ix (ix_lst K) (pv 0) (pv 3) (fun _ _ => rfl)) pe_int (fun _ _ => rfl)) pe_str) (pv 5))))))))), ?_⟩
    obtain ⟨D, as, rfl, hD, el, hat⟩ := B.at
    obtain ⟨x, hx⟩ : ∃ x, tb[t]? = some x := ⟨_, List.getElem?_eq_getElem hc.lt⟩
    obtain ⟨a, c, ga, hta, hcl⟩ := hat t x hx
    refine ⟨_, rfl, _, rfl, D, _, _, .ref a, rfl, rfl, SqL.of hD, atI_nat ga, ?_⟩
    refine ⟨a, _, rfl, SqT.of hta, rfl, _, _, rfl, _, _, rfl, _, _, rfl, rfl, ?_⟩
    refine ⟨_, rfl, _, _, rfl, rfl, _, rfl, ?_⟩
    have short := plc_short S hc
    cases hc with
    | root h1 h2 =>
      rw [hx] at h1
      cases h1
      rw [show decide (x.par < (0 : Int)) = true from decide_eq_true h2]
      refine iteT ?_
      refine ⟨_, rfl, c, _, rfl, .inl (SqL.of hcl), fun p np => ?_⟩
      refine k p _ (same_loc (Same.refl H) np _) np ?_
      rw [plc_one, colI_of hx]
      exact upd_same
    | @up _ p x' cs h1 h2 h3 =>
      rw [hx] at h1
      cases h1
      rw [show decide (x.par < (0 : Int)) = false from decide_eq_false (by omega)]
      refine iteF ?_
      obtain ⟨y, hy⟩ : ∃ y, tb[p]? = some y := ⟨_, List.getElem?_eq_getElem h3.lt⟩
      obtain ⟨a2, c2, ga2, hta2, _⟩ := hat p y hy
      obtain ⟨r, rfl⟩ := h3.head
      have hd' : (p :: r).length ≤ d := Nat.le_of_succ_le_succ hd
      obtain ⟨sh1, sh2⟩ := plc_short S h3
      refine at_next ?_
      dsimp only [gName]
      refine at_ret (at_op ?_)
      refine ⟨_, rfl, lc_via ?_⟩
      refine ⟨_, rfl, _, rfl, .ref D, p, tb, p :: r, by rw [h2]; rfl, B, h3, hd', by omega, S, fun q H1 t1 nq hq => ?_⟩
      refine lc_mp (a := q) (xs := (plc tb (p :: r)).map V.str) (pre2 (nmI tb p ++ dotS)) (fun R r => r) hq (by rw [List.length_map]; omega) (fun z hz H2 t2 R r => ?_) fun E2 H2 t2 nE hE => ?_
      · obtain ⟨u, hu, rfl⟩ := List.mem_map.mp hz
        have t12 := t1.trans t2
        have g1 := sh2 u hu
        have g2 := S.nm y (List.mem_of_getElem? hy)
        have g3 : dotS.length = 1 := by decide +kernel
        refine ⟨_, rfl, _, rfl, D, _, _, .ref a2, rfl, rfl, SqL.of (t12 _ _ hD), by rw [h2]; exact atI_nat ga2, a2, _, _, .str y.nm, rfl, rfl, SqT.of (t12 _ _ hta2), rfl, _, _, rfl, rfl, sz_le (by show _ + 1 ≤ _; omega), _, rfl, _, _, rfl, rfl, sz_le (by rw [app_len]; show _ + 1 + _ ≤ _; omega), ?_⟩
        have := r H2 (Same.refl H2)
        unfold pre2 at this
        rw [nmI_of hy] at this
        exact this
      · rw [map_pre2] at hE
        have t12 := t1.trans t2
        refine ⟨c, E2, _, _, rfl, rfl, t12 _ _ hcl, hE, sz_le (by rw [List.length_map, List.length_map, List.length_map]; have := S.cl x (List.mem_of_getElem? hx); omega), fun q2 nq2 => ?_⟩
        refine k q2 _ (t12.trans (same_loc (Same.refl _) nq2 _)) (t12.free nq2) ?_
        rw [plc_two, colI_of hx, List.map_append]
        exact upd_same
theorem ok_get_places {f : Addr} {fd : FuncData} (F : Fun K "_law_get_places" "_law_get_places" (topS 35) f fd) (T : Txt K mg) (c : ∀ sp k, FnOk P w K mg base CX0 k f fd ["_law_tb", "_law_t"] sp → Callee P w K mg base "_law_get_places" ["_law_tb", "_law_t"] sp k) : ∀ d, FnOk P w K mg base CX0 d f fd ["_law_tb", "_law_t"] (spGP d)
  | 0 => FnOk.none fun vs H Q E ⟨v, t, tb, cs, _, _, hc, hl, _⟩ => by
    obtain ⟨r, rfl⟩ := hc.head
    exact absurd hl (by simp)
  | d + 1 => ok_get_places1 F T (c _ _ (ok_get_places F T c d))
theorem sc_table_line : FnScope ["_law_tb", "_law_t", "_law_name", "_law_parent", "_law_columns"] ["_law_tb", "_law_t"] (defScope (topS 36)) := ⟨rfl, rfl, rfl, by decide +kernel, rfl, by decide +kernel, by decide +kernel⟩
set_option maxHeartbeats 1000000 in
theorem ok_table_line {f : Addr} {fd : FuncData} (F : Fun K "_law_table_line" "_law_table_line" (topS 36) f fd) (T : Txt K mg) : FnOk P w K mg base CX0 1 f fd ["_law_tb", "_law_t"] spTL := by
  refine F.ok sc_table_line (fun vs H Q E h => ?_) (fun cdv A outer s H vs Q E hr h => ?_)
  · obtain ⟨v, t, tb, x, rfl, _⟩ := h
    rfl
  · obtain ⟨v, t, tb, x, rfl, B, hx, S, hp, k⟩ := h
    refine ⟨_, (pss_cons (ps_asg (pe_ix (ix_lst K) (pv 0) (pv 1) (fun _ _ => rfl)) (g_tup K (n := 3) rfl (pgs_cons (pg_name (i := 2) sc_table_line.nd rfl (Or.inl rfl)) (pgs_cons (pg_name (i := 3) sc_table_line.nd rfl (Or.inl rfl)) (pgs_cons (pg_name (i := 4) sc_table_line.nd rfl (Or.inl rfl)) pgs_nil)))))
      (pss_one (ps_ret (e_join K pe_str (pe_op op_cat (pe_ifExp (pt_cmpR o_lt (pv 3) pe_int (nomark _)) (pe_lst (pa_cons pe_str (pa_cons (pv 2) pa_nil))) (pe_lst (pa_cons pe_str (pa_cons (pv 2) (pa_cons (pe_ix (ix_tpl K) (pe_ix (ix_lst K) (pv 0) (pv 3) (fun _ _ => rfl)) pe_int (fun _ _ => rfl)) pa_nil))))) (pv 4)))))), ?_⟩
    obtain ⟨D, as, rfl, hD, el, hat⟩ := B.at
    obtain ⟨a, c, ga, hta, hcl⟩ := hat t x hx
    have hm := List.mem_of_getElem? hx
    have c1 := S.cl x hm
    refine ⟨_, rfl, _, rfl, D, _, _, .ref a, rfl, rfl, SqL.of hD, atI_nat ga, ?_⟩
    refine ⟨a, _, rfl, SqT.of hta, rfl, _, _, rfl, _, _, rfl, _, _, rfl, rfl, ?_⟩
    have key : ∀ (ws : List Str) (l : Addr) (H1 : Hp), Same H H1 → H1 l = some (.lst (ws.map V.str)) → ws.length ≤ 3 → (∀ z ∈ ws, z.length ≤ 100) → tlW tb t x = ws ++ x.cols → tOp rCat (fun _ _ R => R (.ref l) H1) (tVar 4) [some (.ref D), some (.int (t : Int)), some (.str x.nm), some (.int x.par), some (.ref c)] H1 (fun y H' => rJoin K (.str (Str.ofString " ")) [y] H' Q) := fun ws l H1 t1 hl wl wz ew => by
      refine ⟨_, rfl, l, c, _, _, rfl, rfl, hl, t1 _ _ hcl, sz_le (by rw [List.length_map, List.length_map]; omega), fun p np => ?_⟩
      rw [← List.map_append, ← ew]
      refine ⟨_, p, _, rfl, rfl, .inl (SqL.of upd_same), ?_, ?_⟩
      · have e0 : (Str.ofString " ").length = 1 := by decide +kernel
        have h1 : (((ws ++ x.cols)).map (·.length)).sum ≤ (((ws ++ x.cols)).map (·.length)).length * 100 := sum_le (B := 100) fun y hy => by
          obtain ⟨z, hz, rfl⟩ := List.mem_map.mp hy
          rcases List.mem_append.mp hz with hz | hz
          · exact wz z hz
          · exact S.cn x hm z hz
        rw [List.length_map, List.length_append] at h1
        rw [e0, ew, List.length_append]
        omega
      · exact k _ (t1.trans (same_loc (Same.refl H1) np _))
    refine ⟨⟨_, rfl⟩, _, rfl, _, _, rfl, rfl, _, rfl, ?_⟩
    by_cases h0 : x.par < 0
    · rw [decide_eq_true h0]
      refine iteT ?_
      refine ⟨_, rfl, by show 2 ≤ sizeLine; decide, fun l nl => ?_⟩
      refine key [Str.ofString "root", x.nm] l _ (same_loc (Same.refl H) nl _) upd_same (by simp) (fun z hz => ?_) (by unfold tlW; rw [if_pos h0]; rfl)
      rcases List.mem_cons.mp hz with e | e
      · rw [e]; decide +kernel
      · rw [List.mem_singleton.mp e]; exact S.nm x hm
    · rw [decide_eq_false h0]
      refine iteF ?_
      obtain ⟨p, ep⟩ : ∃ p : Nat, x.par = (p : Int) := ⟨x.par.toNat, by omega⟩
      obtain ⟨y, hy⟩ : ∃ y, tb[p]? = some y := ⟨_, List.getElem?_eq_getElem (by omega)⟩
      obtain ⟨a2, c2, ga2, hta2, _⟩ := hat p y hy
      refine ⟨_, rfl, _, rfl, _, rfl, D, _, _, .ref a2, rfl, rfl, SqL.of hD, by rw [ep]; exact atI_nat ga2, a2, _, _, .str y.nm, rfl, rfl, SqT.of hta2, rfl, by show 3 ≤ sizeLine; decide, fun l nl => ?_⟩
      refine key [Str.ofString "table", x.nm, y.nm] l _ (same_loc (Same.refl H) nl _) upd_same (by simp) (fun z hz => ?_) (by
        unfold tlW
        rw [if_neg h0, ep]
        show Str.ofString "table" :: x.nm :: nmI tb p :: x.cols = _
        rw [nmI_of hy]
        rfl)
      rcases List.mem_cons.mp hz with e | e
      · rw [e]; decide +kernel
      · rcases List.mem_cons.mp e with e | e
        · rw [e]; exact S.nm x hm
        · rw [List.mem_singleton.mp e]; exact S.nm y (List.mem_of_getElem? hy)
end
end OA

/-! ### forest -/
namespace OA
open PySem PySem.Spec PyProof.Rows L2
def spForest : Sp := fun vs H Q _ => ∃ (G : Hp) (st inn : Addr) (v : V) (names : List Str) (m : Nat), vs = [.ref st, v, .int m] ∧ Same G H ∧ StAt G H st inn ∧ Ss G v names ∧ Words 12 12 names ∧ 1 ≤ m ∧ m ≤ 12 ∧
  ∀ (v' : V) (tb : List TB) (G' H' : Hp), Stp (F2 st inn) G H G' H' → StAt G' H' st inn → TBs G' v' tb → For names tb → 1 ≤ tb.length → tb.length ≤ m → Q v' H'
theorem colsDrawn {names : List Str} (W : Words 12 12 names) {f n : Nat} (h1 : 1 ≤ n) (h2 : n ≤ 4) {cs : List Str} (e : cs = (List.range n).map fun c => names.getD ((f + c) % 12) Str.empty) : 1 ≤ cs.length ∧ cs.length ≤ 4 ∧ cs.Nodup ∧ ∀ c ∈ cs, c ∈ names := by
  subst e
  have gd : ∀ i, i < 12 → names[i]? = some (names.getD i Str.empty) := fun i hi => by
    have : i < names.length := by rw [W.len]; exact hi
    rw [List.getD_eq_getElem?_getD, List.getElem?_eq_getElem this]
    rfl
  refine ⟨by simpa using h1, by simpa using h2, nodup_range_map fun i j hi hj e => ?_, fun c hc => ?_⟩
  · have g1 := gd ((f + i) % 12) (Nat.mod_lt _ (by decide))
    have g2 := gd ((f + j) % 12) (Nat.mod_lt _ (by decide))
    rw [e] at g1
    have := nd_get W.nd g1 g2
    exact mod_inj (by omega) (by omega) this
  · obtain ⟨i, _, rfl⟩ := List.mem_map.mp hc
    exact List.mem_of_getElem? (gd _ (Nat.mod_lt _ (by decide)))
theorem TBx.snoc {H : Hp} {as : List Addr} {tb : List TB} {a : Addr} {x : TB} (h : TBx H as tb) (g : TBr H a x) : TBx H (as ++ [a]) (tb ++ [x]) := by
  induction h with
  | nil => exact .cons g .nil
  | cons h1 _ ih => exact .cons h1 ih
section
variable {P : Program} {w : World} {K : PySem.W.Frag} {mg : Str → Option Value} {base : Heap}
theorem sc_forest : FnScope ["_law_state", "_law_names", "_law_most", "_law_tables", "_law_k", "_law_parents", "_law_first", "_law_columns", "_law_c", "_law_t"] ["_law_state", "_law_names", "_law_most"] (defScope (topS 22)) := ⟨rfl, rfl, rfl, by decide +kernel, rfl, by decide +kernel, by decide +kernel⟩
set_option maxHeartbeats 8000000 in
theorem ok_forest {f : Addr} {fd : FuncData} (F : Fun K "_law_forest" "_law_forest" (topS 22) f fd) (T : Txt K mg) (c_draw : Callee P w K mg base "_law_draw" ["_law_st", "_law_limit"] spDraw 1) (c_get_chain : Callee P w K mg base "_law_get_chain" ["_law_tb", "_law_t"] (spGC 4) 4) : FnOk P w K mg base CX0 5 f fd ["_law_state", "_law_names", "_law_most"] spForest := by
  refine F.ok sc_forest (fun vs H Q E h => ?_) (fun cdv A outer s H vs Q E hr h => ?_)
  · obtain ⟨G, st, inn, v, names, m, rfl, _⟩ := h
    rfl
  · obtain ⟨G, st, inn, v, names, m, rfl, gh, S, ⟨nA, rfl, hn⟩, W, m1, m2, k⟩ := h
    refine ⟨_, (pss_cons (ps_set (i := 3) sc_forest.nd rfl (Or.inr rfl) (pe_lst pa_nil))
      (pss_cons (ps_for PassesOwn.never rfl (pi_range1 (by rfl) T.n_range (pa_cons (pe_op o_add pe_int (pe_co c_draw hr (by decide) (by rfl) (pa_cons (pv 0) (pa_cons (pv 2) pa_nil)))) pa_nil)) (pg_name (i := 4) sc_forest.nd rfl (Or.inl rfl))
      (pss_cons (ps_set (i := 5) sc_forest.nd rfl (Or.inl rfl) (pe_op op_cat (pe_lst (pa_cons (pe_un un_neg pe_int) pa_nil)) (pe_lc (own := [("_law_t", 9)]) (by rfl) sc_forest.nd (pi_range1 (by rfl) T.n_range (pa_cons (pv 4) pa_nil)) (blkOk_by (own := [("_law_t", 9)]) (N := ["_law_state", "_law_names", "_law_most", "_law_tables", "_law_k", "_law_parents", "_law_first", "_law_columns", "_law_c", "_law_t"]) (sc := defScope (topS 22)) (by decide +kernel)) (fun _ _ _ _ _ => (pg_name (i := 9) sc_forest.nd rfl (Or.inl rfl))) (fun _ _ _ _ _ => (pts_one (pt_cmpR o_lt (pe_callB (c_len K) (by rfl) T.n_len (by decide +kernel) (pa_cons (pe_co c_get_chain hr (by decide) (by rfl) (pa_cons (pv 3) (pa_cons (pv 9) pa_nil))) pa_nil)) pe_int (nomark _)))) (fun _ _ _ _ _ => (pv 9)))))
      (pss_cons (ps_set (i := 6) sc_forest.nd rfl (Or.inr rfl) (pe_co c_draw hr (by decide) (by rfl) (pa_cons (pv 0) (pa_cons pe_int pa_nil))))
      (pss_cons (ps_setLc (i := 7) (own := [("_law_c", 8)]) (by rfl) sc_forest.nd rfl rfl (sw_true rfl rfl rfl (by decide +kernel)) (pi_range1 (by rfl) T.n_range (pa_cons (pe_op o_add pe_int (pe_co c_draw hr (by decide) (by rfl) (pa_cons (pv 0) (pa_cons pe_int pa_nil)))) pa_nil)) (blkOk_by (own := [("_law_c", 8)]) (N := ["_law_state", "_law_names", "_law_most", "_law_tables", "_law_k", "_law_parents", "_law_first", "_law_columns", "_law_c", "_law_t"]) (sc := defScope (topS 22)) (by decide +kernel)) (fun _ _ _ _ _ => (pg_name (i := 8) sc_forest.nd rfl (Or.inl rfl))) (fun _ _ _ _ _ => pts_nil) (fun _ _ _ _ _ => (pe_ix (ix_lst K) (pv 1) (pe_op o_mod (pe_callTy c_int (by rfl) T.n_int (by decide +kernel) (pa_cons (pe_op o_add (pv 6) (pv 8)) pa_nil)) pe_int) (fun _ _ => rfl))))
      (pss_one (ps_expr (e_bm K PySem.F.plainAttrs_list PySem.F.slot_list_append PySem.F.type_list_append mt_append (pv 3) (pa_cons (pe_tup (pa_cons (pe_ix (ix_lst K) (pv 1) (pv 4) (fun _ _ => rfl)) (pa_cons (pe_ix (ix_lst K) (pv 5) (pe_co c_draw hr (by decide) (by rfl) (pa_cons (pv 0) (pa_cons (pe_callB (c_len K) (by rfl) T.n_len (by decide +kernel) (pa_cons (pv 5) pa_nil)) pa_nil))) (fun _ _ => rfl)) (pa_cons (pv 7) pa_nil)))) pa_nil))))))))
      (pss_one (ps_ret (pv 3))))), ?_⟩
    refine ⟨by decide, fun D nD => ?_⟩
    have off : ¬ F2 st inn D := S.off nD
    refine ⟨_, rfl, _, rfl, G, st, inn, _, rfl, gh.trans (same_loc (Same.refl H) nD _), S.new nD gh _, by omega, by omega, fun r0 H1 s1 S1 r00 r01 => ?_⟩
    obtain ⟨z, rfl⟩ := Int.eq_ofNat_of_zero_le r00
    have hz : (1 : Int) + (z : Int) = ((1 + z : Nat) : Int) := by omega
    have s1' : Stp (F2 st inn) G H G H1 := (Stp.put gh nD _).trans s1
    have cD1 : Cell G H1 D (.lst []) := s1.cell (Cell.new gh nD _) off
    refine ⟨_, _, rfl, rfl, (1 + z : Nat), by rw [hz], by omega, by omega, for_range (lo := 0) (n := 1 + z) (fun i σ H' => ∃ (x4 x5 x6 x7 x8 : Option V) (G' : Hp) (as : List Addr) (tb : List TB), σ = [some (.ref st), some (.ref nA), some (.int m), some (.ref D), x4, x5, x6, x7, x8, none] ∧ Stp (F2 st inn) G H G' H' ∧ StAt G' H' st inn ∧ Cell G' H' D (.lst (as.map V.ref)) ∧ TBx G' as tb ∧ For names tb ∧ tb.length = i) ?_ ?_ ?_⟩
    · exact ⟨none, none, none, none, none, G, [], [], rfl, s1', S1, cD1, .nil, For.nil names, rfl⟩
    · rintro i σ H2 hi ⟨x4, x5, x6, x7, x8, G2, as, tb, rfl, s2, S2, c2, B2, FF, el⟩
      have hB : TBs H2 (.ref D) tb := ⟨D, as, rfl, c2.at_, Paired.mapP B2 fun a x => TBr.mono s2.gh⟩
      have all : as.length = tb.length := Paired.length B2
      -- parents
      refine ⟨_, rfl, by show 1 ≤ sizeLine; decide, fun l nl => ?_⟩
      have t3 : Same H2 (upd H2 l (.lst [.int (-1)])) := same_loc (Same.refl H2) nl _
      have hl : (upd H2 l (.lst [.int (-1)])) l = some (.lst [.int (-1)]) := upd_same
      have eL : upd H2 l (.lst [V.int (-(1 : Int))]) = upd H2 l (.lst [.int (-1)]) := rfl
      rw [eL]
      generalize upd H2 l (.lst [.int (-1)]) = H3 at t3 hl
      refine ⟨_, rfl, (i : Nat), by show [V.int (0 + (i : Int))] = [V.int ((i : Nat) : Int)]; rw [Int.zero_add], by omega, by omega, fun E1 nE => ?_⟩
      refine lc_range (lo := 0) (n := i) (fun j H' => ∃ ps : List Nat, Same H3 H' ∧ H' E1 = some (.lst (ps.map natV)) ∧ ps.length ≤ j ∧ ∀ p ∈ ps, ∃ cs, ChI tb p cs ∧ cs.length < 4) ?_ ?_ ?_
      · exact ⟨[], same_loc (Same.refl H3) nE _, upd_same, Nat.le_refl _, fun p h => by cases h⟩
      · rintro j H4 hj ⟨ps, t4, h4, pl, pc⟩
        obtain ⟨cs, hc, hc4⟩ := FF.ch j (by omega)
        have t34 := t3.trans t4
        refine ⟨rfl, ?_⟩
        refine ⟨_, rfl, _, rfl, .ref D, j, tb, cs, by show [V.ref D, V.int (0 + (j : Int))] = _; rw [Int.zero_add], hB.mono t34, hc, hc4, by decide, fun q H5 t5 nq hq => ?_⟩
        refine ⟨q, _, rfl, .inl (SqL.of hq), _, _, rfl, rfl, _, rfl, ?_⟩
        rw [List.length_map]
        refine ite2 (fun h1 => ?_) (fun h1 => ?_)
        · have h1' : cs.length < 4 := by have := of_decide_eq_true h1; omega
          refine ⟨_, rfl, _, t5 _ _ h4, sz_lt (by rw [List.length_map]; omega), ps ++ [j], same_loc (t4.trans t5) nE _, ?_, ?_, ?_⟩
          · rw [upd_same, List.map_append]
            show some (HO.lst (ps.map natV ++ [V.int (0 + (j : Int))])) = _
            rw [Int.zero_add]
            rfl
          · rw [List.length_append]
            exact Nat.succ_le_succ pl
          · intro p hp
            rcases List.mem_append.mp hp with hp | hp
            · exact pc p hp
            · rw [List.mem_singleton.mp hp]
              exact ⟨cs, hc, h1'⟩
        · exact ⟨ps, t4.trans t5, t5 _ _ h4, by omega, pc⟩
      rintro H4 ⟨ps, t4, h4, pl, pc⟩
      refine ⟨l, E1, _, _, rfl, rfl, t4 _ _ hl, h4, sz_le (by rw [List.length_map]; show 1 + _ ≤ _; omega), fun pp np => ?_⟩
      have t24 : Same H2 H4 := t3.trans t4
      have np2 : H2 pp = none := t24.free np
      have s4 : Stp (F2 st inn) G H G2 (upd H4 pp (.lst ([V.int (-1)] ++ ps.map natV))) := (s2.trans (Stp.same s2.gh t24)).trans (Stp.put (s2.gh.trans t24) np _)
      have S4 : StAt G2 (upd H4 pp (.lst ([V.int (-1)] ++ ps.map natV))) st inn := (S2.keep0 (Stp.same s2.gh t24)).new np (s2.gh.trans t24) _
      have c4 : Cell G2 (upd H4 pp (.lst ([V.int (-1)] ++ ps.map natV))) D (.lst (as.map V.ref)) := ((Stp.same (F := F0) s2.gh t24).cell c2 id).off (ne_of_none (t24 _ _ c2.at_) np) _
      have cp4 : Cell G2 (upd H4 pp (.lst ([V.int (-1)] ++ ps.map natV))) pp (.lst ([V.int (-1)] ++ ps.map natV)) := Cell.new (s2.gh.trans t24) np _
      have offp : ¬ F2 st inn pp := S2.off np2
      have np0 : H pp = none := s2.new np2
      generalize upd H4 pp (.lst ([V.int (-1)] ++ ps.map natV)) = H5 at s4 S4 c4 cp4
      -- first
      refine ⟨_, rfl, G2, st, inn, _, rfl, s4.gh, S4, by decide, by decide, fun r1 H6 s6 S6 r10 r11 => ?_⟩
      obtain ⟨ff, rfl⟩ := Int.eq_ofNat_of_zero_le r10
      have s6' := s4.trans s6
      have c6 := s6.cell c4 off
      have cp6 := s6.cell cp4 offp
      -- columns
      refine ⟨_, rfl, G2, st, inn, _, rfl, s6.gh, S6, by decide, by decide, fun r2 H7 s7 S7 r20 r21 => ?_⟩
      obtain ⟨nn, rfl⟩ := Int.eq_ofNat_of_zero_le r20
      have s7' := s6'.trans s7
      have c7 := s7.cell c6 off
      have cp7 := s7.cell cp6 offp
      have hnn : (1 : Int) + (nn : Int) = ((1 + nn : Nat) : Int) := by omega
      refine ⟨_, _, rfl, rfl, (1 + nn : Nat), by rw [hnn], by omega, by omega, fun C nC => ?_⟩
      have nC0 : H C = none := s7'.new nC
      have offC : ¬ F2 st inn C := S.off nC0
      have gd : ∀ j, j < 12 → names[j]? = some (names.getD j Str.empty) := fun j hj => by
        have : j < names.length := by rw [W.len]; exact hj
        rw [List.getD_eq_getElem?_getD, List.getElem?_eq_getElem this]
        rfl
      refine lc_range (lo := 0) (n := 1 + nn) (fun j H' => Same (upd H7 C (.lst [])) (upd H' C (.lst [])) ∧ H' C = some (.lst (((List.range j).map fun c => names.getD ((ff + c) % 12) Str.empty).map V.str))) ?_ ?_ ?_
      · exact ⟨fun b o e => by by_cases hb : b = C; (· rw [hb, upd_same] at e ⊢; exact e); (· rw [upd_ne hb, upd_ne hb]; rw [upd_ne hb] at e; exact e), upd_same⟩
      · rintro j H8 hj ⟨t8, h8⟩
        have hnA : H8 nA = some (.lst (names.map V.str)) := by
          have e1 : H7 nA = some (.lst (names.map V.str)) := s7'.gh _ _ (s7'.gg _ _ hn)
          have e2 : nA ≠ C := ne_of_none e1 nC
          have := t8 nA _ (by rw [upd_ne e2]; exact e1)
          rw [upd_ne e2] at this
          exact this
        have hmod : (↑ff + (0 + (j : Int))) % (12 : Int) = (((ff + j) % 12 : Nat) : Int) := by
          rw [Int.zero_add]
          exact (Int.natCast_emod (ff + j) 12).symm
        refine ⟨rfl, yes_of ?_⟩
        refine ⟨_, rfl, _, rfl, _, rfl, _, _, rfl, rfl, .inl ⟨_, rfl, _, _, rfl, rfl, by decide, nA, _, _, .str (names.getD ((ff + j) % 12) Str.empty), rfl, rfl, SqL.of hnA, ?_, _, h8, ?_, ?_, ?_⟩⟩
        · exact at_of hmod (by rw [List.getElem?_map, gd _ (Nat.mod_lt _ (by decide))]; rfl)
        · rw [List.length_map, List.length_map, List.length_range]
          exact sz_lt (by omega)
        · intro b o e
          have := t8 b o e
          by_cases hb : b = C
          · rw [hb, upd_same]; rw [hb, upd_same] at this; exact this
          · rw [upd_ne hb, upd_ne hb]; rw [upd_ne hb] at this; exact this
        · rw [upd_same, List.range_succ, List.map_append, List.map_append]
          rfl
      rintro H8 ⟨t8, h8⟩
      -- H8 is H7 and the columns
      have s8 : Stp (F2 st inn) G2 H7 G2 H8 := by
        refine Stp.same s7.gh fun b o e => ?_
        have hb : b ≠ C := ne_of_none e nC
        have := t8 b o (by rw [upd_ne hb]; exact e)
        rw [upd_ne hb] at this
        exact this
      have s8' := s7'.trans s8
      have S8 : StAt G2 H8 st inn := S7.keep0 ⟨s8.gg, s8.gh, s8.nw, fun b o e _ => by
        have hb : b ≠ C := ne_of_none e nC
        have := t8 b o (by rw [upd_ne hb]; exact e)
        rw [upd_ne hb] at this
        exact this, s8.al⟩
      have c8 := s8.cell c7 off
      have cp8 := s8.cell cp7 offp
      have cC8 : Cell G2 H8 C (.lst (((List.range (1 + nn)).map fun c => names.getD ((ff + c) % 12) Str.empty).map V.str)) := ⟨h8, (s7.gh).free nC⟩
      have hcols := colsDrawn W (f := ff) (n := 1 + nn) (by omega) (by omega) rfl
      generalize ((List.range (1 + nn)).map fun c => names.getD ((ff + c) % 12) Str.empty) = cols at cC8 hcols h8
      have hnA8 : H8 nA = some (.lst (names.map V.str)) := s8'.gh _ _ (s8'.gg _ _ hn)
      -- the row
      refine ⟨_, rfl, Or.inl ⟨rfl, _, SqL.of c8.at_⟩, ?_⟩
      refine ⟨_, rfl, _, rfl, nA, _, _, .str (names.getD i Str.empty), rfl, rfl, SqL.of hnA8, at_of (j := i) (by omega) (by rw [List.getElem?_map, gd i (by omega)]; rfl), ?_⟩
      refine ⟨_, rfl, _, rfl, _, rfl, pp, _, rfl, .inl (SqL.of cp8.at_), G2, st, inn, _, rfl, s8.gh, S8, ?_, ?_, fun r3 H9 s9 S9 r30 r31 => ?_⟩
      · rw [List.length_append, List.length_map]; show (0 : Int) < ((1 + ps.length : Nat) : Int); omega
      · rw [List.length_append, List.length_map]; show ((1 + ps.length : Nat) : Int) < 1073741824; omega
      have s9' := s8'.trans s9
      have c9 := s9.cell c8 off
      have cp9 := s9.cell cp8 offp
      have cC9 := s9.cell cC8 offC
      obtain ⟨q, rfl⟩ := Int.eq_ofNat_of_zero_le r30
      rw [List.length_append, List.length_map] at r31
      have r31 : (q : Int) < ((1 + ps.length : Nat) : Int) := r31
      obtain ⟨par, hpar, parOk⟩ : ∃ par : Int, ([V.int (-1)] ++ ps.map natV)[q]? = some (.int par) ∧ (par = -1 ∨ ∃ (p : Nat) (cs : List Nat), par = (p : Int) ∧ ChI tb p cs ∧ cs.length < 4) := by
        cases q with
        | zero => exact ⟨-1, rfl, .inl rfl⟩
        | succ q =>
          have hq : q < ps.length := by omega
          have e : ps[q]? = some ps[q] := List.getElem?_eq_getElem hq
          refine ⟨(ps[q] : Nat), ?_, .inr ⟨ps[q], ?_⟩⟩
          · show (ps.map natV)[q]? = _
            rw [List.getElem?_map, e]
            rfl
          · obtain ⟨cs, h1, h2⟩ := pc _ (List.mem_of_getElem? e)
            exact ⟨cs, rfl, h1, h2⟩
      refine ⟨pp, _, _, .int par, rfl, rfl, SqL.of cp9.at_, at_of rfl hpar, _, rfl, by show 3 ≤ sizeLine; decide, fun R nR => ?_⟩
      have nR0 : H R = none := s9'.new nR
      have offR : ¬ F2 st inn R := S.off nR0
      refine ⟨D, as.map V.ref, _, rfl, rfl, ?_, sz_lt (by rw [List.length_map]; omega), ?_⟩
      · rw [upd_ne (ne_of_none c9.at_ nR)]
        exact c9.at_
      -- the row and its columns stand still
      have CR : C ≠ R := ne_of_none cC9.at_ nR
      have DR : D ≠ R := ne_of_none c9.at_ nR
      have DC : D ≠ C := ne_of_none c7.at_ nC
      have s10 := s9'.trans (Stp.put (F := F2 st inn) s9.gh nR (HO.tup [.str (names.getD i Str.empty), .int par, .ref C]))
      have cR := Cell.new s9.gh nR (HO.tup [.str (names.getD i Str.empty), .int par, .ref C])
      have s11 := s10.freeze cR nR0
      have cC := (cC9.off CR (HO.tup [.str (names.getD i Str.empty), .int par, .ref C])).lay CR (HO.tup [.str (names.getD i Str.empty), .int par, .ref C])
      have s12 := s11.freeze cC nC0
      have cD := ((c9.off DR (HO.tup [.str (names.getD i Str.empty), .int par, .ref C])).lay DR (HO.tup [.str (names.getD i Str.empty), .int par, .ref C])).lay DC (.lst (cols.map V.str))
      have s13 := s12.loc cD nD (.lst (as.map V.ref ++ [V.ref R]))
      refine ⟨_, _, _, _, _, _, as ++ [R], tb ++ [⟨names.getD i Str.empty, par, cols⟩], rfl, s13, ((((S9.new nR s9.gh _).frz offR _).frz offC _).write off _), ?_, ?_, ?_, ?_⟩
      · rw [List.map_append]
        exact cD.set _
      · refine TBx.snoc (Paired.mapP B2 fun a x => TBr.mono (Same.trans (Same.lay (s9.gh.free nR) _) (Same.lay cC.no _))) ⟨C, ?_, upd_same⟩
        rw [upd_ne CR.symm]
        exact upd_same
      · refine FF.snoc ?_ hcols parOk
        rw [el]
        exact gd i (by omega)
      · rw [List.length_append, el]
        rfl
    · rintro σ H2 ⟨x4, x5, x6, x7, x8, G2, as, tb, rfl, s2, S2, c2, B2, FF, el⟩
      refine ⟨_, rfl, ?_⟩
      exact k (.ref D) tb _ H2 (s2.freeze c2 nD) (S2.frz off _) ⟨D, as, rfl, upd_same, Paired.mapP B2 fun a x => TBr.mono (Same.lay c2.no _)⟩ FF (by omega) (by omega)
end
end OA

/-! ### get_owners, all_follows -/
namespace OA
open PySem PySem.Spec PyProof.Rows L2
abbrev Rwx {β : Type} (f : β → List V) (H : Hp) (as : List Addr) (l : List β) : Prop := Paired (fun a e => H a = some (.tup (f e))) as l
def Rws {β : Type} (f : β → List V) (H : Hp) (v : V) (l : List β) : Prop := ∃ D as, v = .ref D ∧ H D = some (.lst (as.map V.ref)) ∧ Rwx f H as l
def owF (e : Nat × Str) : List V := [.int (e.1 : Int), .str e.2]
def foF (e : Nat × Str × Str) : List V := [.int (e.1 : Int), .str e.2.1, .str e.2.2]
theorem Rwx.mono {β : Type} {f : β → List V} {H H' : Hp} {as : List Addr} {l : List β} (s : Same H H') (h : Rwx f H as l) : Rwx f H' as l := Paired.mapP h fun a e q => s _ _ q
theorem Rws.mono {β : Type} {f : β → List V} {H H' : Hp} {v : V} {l : List β} (s : Same H H') (h : Rws f H v l) : Rws f H' v l := by
  obtain ⟨D, as, e, h1, h2⟩ := h
  exact ⟨D, as, e, s _ _ h1, Rwx.mono s h2⟩
theorem Rwx.snoc {β : Type} {f : β → List V} {H : Hp} {as : List Addr} {l : List β} {a : Addr} {x : β} (h : Rwx f H as l) (g : H a = some (.tup (f x))) : Rwx f H (as ++ [a]) (l ++ [x]) := by
  induction h with
  | nil => exact .cons g .nil
  | cons h1 _ ih => exact .cons h1 ih
/-- a new row that stands still, and a list that grows by it -/
theorem row_add {F : Addr → Prop} {G H G1 H1 : Hp} {st inn D R : Addr} {xs ys : List V} {o : HO} (s : Stp F G H G1 H1) (S : StAt G1 H1 st inn) (c : Cell G1 H1 D (.lst xs)) (nD : H D = none) (off : ¬ F2 st inn D) (nR : H1 R = none) :
    Stp F G H (upd G1 R o) (upd (upd H1 R o) D (.lst ys)) ∧ StAt (upd G1 R o) (upd (upd H1 R o) D (.lst ys)) st inn ∧ Cell (upd G1 R o) (upd (upd H1 R o) D (.lst ys)) D (.lst ys) ∧ (upd G1 R o) R = some o ∧ Same G1 (upd G1 R o) := by
  have DR : D ≠ R := ne_of_none c.at_ nR
  have nR0 : H R = none := s.new nR
  have s10 := s.trans (Stp.put (F := F) s.gh nR o)
  have s11 := s10.freeze (Cell.new s.gh nR o) nR0
  have cD := (c.off DR o).lay DR o
  exact ⟨s11.loc cD nD _, ((S.new nR s.gh o).frz (S.off nR) o).write off _, cD.set _, upd_same, Same.lay (s.gh.free nR) o⟩
theorem For.shrt {names : List Str} {tb : List TB} (F : For names tb) (W : Words 12 12 names) : Shrt tb := by
  refine ⟨fun x hx => ?_, fun x hx => ?_, fun x hx c hc => ?_⟩
  · obtain ⟨t, ht⟩ := List.getElem?_of_mem hx
    have := (nameAt F W ht).len
    omega
  · obtain ⟨t, ht⟩ := List.getElem?_of_mem hx
    have := (F.cols t x ht).2.1
    omega
  · obtain ⟨t, ht⟩ := List.getElem?_of_mem hx
    have := (nameC F W ht hc).len
    omega
theorem plc_pos {names : List Str} {tb : List TB} (F : For names tb) {t : Nat} {cs : List Nat} (h : ChI tb t cs) : 1 ≤ (plc tb cs).length := by
  obtain ⟨x, hx⟩ : ∃ x, tb[t]? = some x := ⟨_, List.getElem?_eq_getElem h.lt⟩
  have := (F.cols t x hx).1
  cases h with
  | root _ _ => rw [plc_one, colI_of hx]; exact this
  | up _ _ h3 =>
    obtain ⟨r, rfl⟩ := h3.head
    rw [plc_two, colI_of hx, List.length_append]
    omega
def spOwners : Sp := fun vs H Q _ => ∃ (G : Hp) (st inn : Addr) (v : V) (names : List Str) (tb : List TB), vs = [.ref st, v] ∧ Same G H ∧ StAt G H st inn ∧ TBs G v tb ∧ For names tb ∧ Words 12 12 names ∧
  ∀ (v' : V) (ow : List (Nat × Str)) (G' H' : Hp), Stp (F2 st inn) G H G' H' → StAt G' H' st inn → Rws owF G' v' ow → OwOk tb ow → ow.length ≤ tb.length → Q v' H'
def spFollows : Sp := fun vs H Q _ => ∃ (G : Hp) (st inn : Addr) (v : V) (names : List Str) (tb : List TB) (m : Nat), vs = [.ref st, v, .int m] ∧ Same G H ∧ StAt G H st inn ∧ TBs G v tb ∧ For names tb ∧ Words 12 12 names ∧ 1 ≤ m ∧ m ≤ 1000 ∧
  ∀ (v' : V) (fo : List (Nat × Str × Str)) (G' H' : Hp), Stp (F2 st inn) G H G' H' → StAt G' H' st inn → Rws foF G' v' fo → FoOk tb fo → fo.length ≤ 4 * tb.length → Q v' H'
theorem nodup_snoc {α : Type} {l : List α} {a : α} (h : l.Nodup) (g : a ∉ l) : (l ++ [a]).Nodup := by
  rw [List.nodup_append]
  refine ⟨h, by simp, fun x hx y hy e => ?_⟩
  rw [List.mem_singleton.mp hy] at e
  rw [e] at hx
  exact g hx
section
variable {P : Program} {w : World} {K : PySem.W.Frag} {mg : Str → Option Value} {base : Heap}
theorem sc_get_owners : FnScope ["_law_st", "_law_tb", "_law_owners", "_law_t", "_law_places", "_law_place"] ["_law_st", "_law_tb"] (defScope (topS 37)) := ⟨rfl, rfl, rfl, by decide +kernel, rfl, by decide +kernel, by decide +kernel⟩
set_option maxHeartbeats 8000000 in
theorem ok_get_owners {f : Addr} {fd : FuncData} (F : Fun K "_law_get_owners" "_law_get_owners" (topS 37) f fd) (T : Txt K mg) (c_draw : Callee P w K mg base "_law_draw" ["_law_st", "_law_limit"] spDraw 1) (c_get_places : Callee P w K mg base "_law_get_places" ["_law_tb", "_law_t"] (spGP 4) 4) : FnOk P w K mg base CX0 5 f fd ["_law_st", "_law_tb"] spOwners := by
  refine F.ok sc_get_owners (fun vs H Q E h => ?_) (fun cdv A outer s H vs Q E hr h => ?_)
  · obtain ⟨G, st, inn, v, names, tb, rfl, _⟩ := h
    rfl
  · obtain ⟨G, st, inn, v, names, tb, rfl, gh, S, B, FF, W, k⟩ := h
    refine ⟨_, (pss_cons (ps_set (i := 2) sc_get_owners.nd rfl (Or.inl rfl) (pe_lst pa_nil))
      (pss_cons (ps_for PassesOwn.never rfl (pi_range1 (by rfl) T.n_range (pa_cons (pe_callB (c_len K) (by rfl) T.n_len (by decide +kernel) (pa_cons (pv 1) pa_nil)) pa_nil)) (pg_name (i := 3) sc_get_owners.nd rfl (Or.inl rfl))
      (pss_cons (ps_set (i := 4) sc_get_owners.nd rfl (Or.inl rfl) (pe_co c_get_places hr (by decide) (by rfl) (pa_cons (pv 1) (pa_cons (pv 3) pa_nil))))
      (pss_cons (ps_set (i := 5) sc_get_owners.nd rfl (Or.inl rfl) (pe_ix (ix_lst K) (pv 4) (pe_co c_draw hr (by decide) (by rfl) (pa_cons (pv 0) (pa_cons (pe_callB (c_len K) (by rfl) T.n_len (by decide +kernel) (pa_cons (pv 4) pa_nil)) pa_nil))) (fun _ _ => rfl)))
      (pss_one (ps_if (pt_cmpR o_gt (pe_co c_draw hr (by decide) (by rfl) (pa_cons (pv 0) (pa_cons pe_int pa_nil))) pe_int (nomark _)) (pss_one (ps_expr (e_bm K PySem.F.plainAttrs_list PySem.F.slot_list_append PySem.F.type_list_append mt_append (pv 2) (pa_cons (pe_tup (pa_cons (pv 3) (pa_cons (pv 5) pa_nil))) pa_nil)))) pss_nil)))))
      (pss_one (ps_ret (pv 2))))), ?_⟩
    have l12 := lenTB FF W
    obtain ⟨tA, as0, rfl, htA, el, _⟩ := B.at
    refine ⟨by decide, fun D nD => ?_⟩
    have off : ¬ F2 st inn D := S.off nD
    have s1 : Stp (F2 st inn) G H G (upd H D (.lst [])) := Stp.put gh nD _
    have S1 : StAt G (upd H D (.lst [])) st inn := S.new nD gh _
    have c1 : Cell G (upd H D (.lst [])) D (.lst []) := Cell.new gh nD _
    generalize upd H D (.lst []) = H1 at s1 S1 c1
    refine ⟨_, rfl, tA, _, rfl, .inl (SqL.of (s1.gh _ _ htA)), tb.length, by rw [List.length_map, el], by omega, by omega, for_range (lo := 0) (n := tb.length) (fun i σ H' => ∃ (x3 x4 x5 : Option V) (G' : Hp) (as : List Addr) (ow : List (Nat × Str)), σ = [some (.ref st), some (.ref tA), some (.ref D), x3, x4, x5] ∧ Stp (F2 st inn) G H G' H' ∧ StAt G' H' st inn ∧ Cell G' H' D (.lst (as.map V.ref)) ∧ Rwx owF G' as ow ∧ OwOk tb ow ∧ (∀ e ∈ ow, e.1 < i) ∧ ow.length ≤ i) ?_ ?_ ?_⟩
    · exact ⟨none, none, none, G, [], [], rfl, s1, S1, c1, .nil, ⟨List.nodup_nil, fun e h => by cases h⟩, fun e h => (by cases h), Nat.le_refl _⟩
    · rintro i σ H2 hi ⟨x3, x4, x5, G2, as, ow, rfl, s2, S2, c2, R2, O2, o2, ol⟩
      obtain ⟨cs, hc, hc4⟩ := FF.ch i hi
      have sh := plc_short (FF.shrt W) hc
      have pos := plc_pos FF hc
      refine ⟨_, rfl, _, rfl, .ref tA, i, tb, cs, by show [V.ref tA, V.int (0 + (i : Int))] = _; rw [Int.zero_add], B.mono (s2.gg.trans s2.gh), hc, hc4, by decide, FF.shrt W, fun p H3 t3 np hp => ?_⟩
      have s3 : Stp (F2 st inn) G2 H2 G2 H3 := Stp.same s2.gh t3
      have s3' := s2.trans s3
      have S3 : StAt G2 H3 st inn := S2.keep0 (Stp.same s2.gh t3)
      have c3 := s3.cell c2 off
      have cp : Cell G2 H3 p (.lst ((plc tb cs).map V.str)) := ⟨hp, s2.gh.free np⟩
      have offp : ¬ F2 st inn p := S2.off np
      refine ⟨_, rfl, _, rfl, _, rfl, p, _, rfl, .inl (SqL.of hp), G2, st, inn, _, rfl, s3.gh, S3, by rw [List.length_map]; omega, by rw [List.length_map]; omega, fun r1 H4 s4 S4 r10 r11 => ?_⟩
      obtain ⟨q, rfl⟩ := Int.eq_ofNat_of_zero_le r10
      rw [List.length_map] at r11
      have s4' := s3'.trans s4
      have c4 := s4.cell c3 off
      have cp4 := s4.cell cp offp
      obtain ⟨z, hz⟩ : ∃ z, (plc tb cs)[q]? = some z := ⟨_, List.getElem?_eq_getElem (by omega)⟩
      refine ⟨p, _, _, .str z, rfl, rfl, SqL.of cp4.at_, at_of rfl (by rw [List.getElem?_map, hz]; rfl), ?_⟩
      refine ⟨_, rfl, G2, st, inn, _, rfl, s4.gh, S4, by decide, by decide, fun r2 H5 s5 S5 r20 r21 => ?_⟩
      have s5' := s4'.trans s5
      have c5 := s5.cell c4 off
      refine ⟨_, _, rfl, rfl, _, rfl, ?_⟩
      refine ite2 (fun h1 => ?_) (fun h1 => ?_)
      · refine ⟨_, rfl, Or.inl ⟨rfl, _, SqL.of c5.at_⟩, _, rfl, _, rfl, by show 2 ≤ sizeLine; decide, fun R nR => ?_⟩
        obtain ⟨a1, a2, a3, a4, a5⟩ := row_add (o := .tup (owF (i, z))) (ys := as.map V.ref ++ [V.ref R]) s5' S5 c5 nD off nR
        have al : as.length = ow.length := Paired.length R2
        have ei : V.int (0 + (i : Int)) = V.int (i : Int) := by rw [Int.zero_add]
        have eR : (HO.tup [V.int (0 + (i : Int)), V.str z]) = .tup (owF (i, z)) := by rw [ei]; rfl
        rw [eR]
        refine ⟨D, as.map V.ref, _, rfl, rfl, by rw [upd_ne (ne_of_none c5.at_ nR)]; exact c5.at_, sz_lt (by rw [List.length_map]; omega), ?_⟩
        refine ⟨_, _, _, _, as ++ [R], ow ++ [(i, z)], rfl, a1, a2, by rw [List.map_append]; exact a3, Rwx.snoc (Rwx.mono a5 R2) a4, ⟨?_, ?_⟩, ?_, ?_⟩
        · rw [List.map_append]
          refine nodup_snoc O2.nd fun hm => ?_
          obtain ⟨e, he, e1⟩ := List.mem_map.mp hm
          have := o2 e he
          have e1 : e.1 = i := e1
          omega
        · intro e he
          rcases List.mem_append.mp he with he | he
          · exact O2.ok e he
          · rw [List.mem_singleton.mp he]
            exact ⟨cs, hc, List.mem_of_getElem? hz⟩
        · intro e he
          rcases List.mem_append.mp he with he | he
          · have := o2 e he; omega
          · rw [List.mem_singleton.mp he]; exact Nat.lt_succ_self i
        · rw [List.length_append]; exact Nat.succ_le_succ ol
      · exact ⟨_, _, _, _, as, ow, rfl, s5', S5, c5, R2, O2, fun e he => Nat.lt_succ_of_lt (o2 e he), by omega⟩
    · rintro σ H2 ⟨x3, x4, x5, G2, as, ow, rfl, s2, S2, c2, R2, O2, o2, ol⟩
      exact ⟨_, rfl, k (.ref D) ow _ H2 (s2.freeze c2 nD) (S2.frz off _) ⟨D, as, rfl, upd_same, Rwx.mono (Same.lay c2.no _) R2⟩ O2 ol⟩
theorem sc_all_follows : FnScope ["_law_state", "_law_tables", "_law_chance", "_law_follows", "_law_t", "_law_uppers", "_law_column"] ["_law_state", "_law_tables", "_law_chance"] (defScope (topS 25)) := ⟨rfl, rfl, rfl, by decide +kernel, rfl, by decide +kernel, by decide +kernel⟩
set_option maxHeartbeats 8000000 in
theorem ok_all_follows {f : Addr} {fd : FuncData} (F : Fun K "_law_all_follows" "_law_all_follows" (topS 25) f fd) (T : Txt K mg) (c_draw : Callee P w K mg base "_law_draw" ["_law_st", "_law_limit"] spDraw 1) : FnOk P w K mg base CX0 2 f fd ["_law_state", "_law_tables", "_law_chance"] spFollows := by
  refine F.ok sc_all_follows (fun vs H Q E h => ?_) (fun cdv A outer s H vs Q E hr h => ?_)
  · obtain ⟨G, st, inn, v, names, tb, m, rfl, _⟩ := h
    rfl
  · obtain ⟨G, st, inn, v, names, tb, m, rfl, gh, S, B, FF, W, m1, m2, k⟩ := h
    refine ⟨_, (pss_cons (ps_set (i := 3) sc_all_follows.nd rfl (Or.inl rfl) (pe_lst pa_nil))
      (pss_cons (ps_for PassesOwn.never rfl (pi_range1 (by rfl) T.n_range (pa_cons (pe_callB (c_len K) (by rfl) T.n_len (by decide +kernel) (pa_cons (pv 1) pa_nil)) pa_nil)) (pg_name (i := 4) sc_all_follows.nd rfl (Or.inl rfl))
      (pss_one (ps_if (pt_cmpR o_ge (pe_ix (ix_tpl K) (pe_ix (ix_lst K) (pv 1) (pv 4) (fun _ _ => rfl)) pe_int (fun _ _ => rfl)) pe_int (nomark _)) (pss_cons (ps_set (i := 5) sc_all_follows.nd rfl (Or.inl rfl) (pe_ix (ix_tpl K) (pe_ix (ix_lst K) (pv 1) (pe_ix (ix_tpl K) (pe_ix (ix_lst K) (pv 1) (pv 4) (fun _ _ => rfl)) pe_int (fun _ _ => rfl)) (fun _ _ => rfl)) pe_int (fun _ _ => rfl)))
      (pss_one (ps_for PassesOwn.never rfl (i_list K (pe_ix (ix_tpl K) (pe_ix (ix_lst K) (pv 1) (pv 4) (fun _ _ => rfl)) pe_int (fun _ _ => rfl))) (pg_name (i := 6) sc_all_follows.nd rfl (Or.inl rfl))
      (pss_one (ps_if (pt_cmpR op_eq (pe_co c_draw hr (by decide) (by rfl) (pa_cons (pv 0) (pa_cons (pv 2) pa_nil))) pe_int (nomark _)) (pss_one (ps_expr (e_bm K PySem.F.plainAttrs_list PySem.F.slot_list_append PySem.F.type_list_append mt_append (pv 3) (pa_cons (pe_tup (pa_cons (pv 4) (pa_cons (pv 6) (pa_cons (pe_ix (ix_lst K) (pv 5) (pe_co c_draw hr (by decide) (by rfl) (pa_cons (pv 0) (pa_cons (pe_callB (c_len K) (by rfl) T.n_len (by decide +kernel) (pa_cons (pv 5) pa_nil)) pa_nil))) (fun _ _ => rfl)) pa_nil)))) pa_nil)))) pss_nil))))) pss_nil)))
      (pss_one (ps_ret (pv 3))))), ?_⟩
    have l12 := lenTB FF W
    obtain ⟨tA, as0, rfl, htA, el, hat⟩ := B.at
    refine ⟨by decide, fun D nD => ?_⟩
    have off : ¬ F2 st inn D := S.off nD
    have s1 : Stp (F2 st inn) G H G (upd H D (.lst [])) := Stp.put gh nD _
    have S1 : StAt G (upd H D (.lst [])) st inn := S.new nD gh _
    have c1 : Cell G (upd H D (.lst [])) D (.lst []) := Cell.new gh nD _
    generalize upd H D (.lst []) = H1 at s1 S1 c1
    refine ⟨_, rfl, tA, _, rfl, .inl (SqL.of (s1.gh _ _ htA)), tb.length, by rw [List.length_map, el], by omega, by omega, for_range (lo := 0) (n := tb.length) (fun i σ H' => ∃ (x4 x5 x6 : Option V) (G' : Hp) (as : List Addr) (fo : List (Nat × Str × Str)), σ = [some (.ref st), some (.ref tA), some (.int m), some (.ref D), x4, x5, x6] ∧ Stp (F2 st inn) G H G' H' ∧ StAt G' H' st inn ∧ Cell G' H' D (.lst (as.map V.ref)) ∧ Rwx foF G' as fo ∧ FoOk tb fo ∧ (∀ e ∈ fo, e.1 < i) ∧ fo.length ≤ 4 * i) ?_ ?_ ?_⟩
    · exact ⟨none, none, none, G, [], [], rfl, s1, S1, c1, .nil, ⟨List.nodup_nil, fun e h => by cases h⟩, fun e h => (by cases h), Nat.le_refl _⟩
    · rintro i σ H2 hi ⟨x4, x5, x6, G2, as, fo, rfl, s2, S2, c2, R2, O2, o2, ol⟩
      obtain ⟨x, hx⟩ : ∃ x, tb[i]? = some x := ⟨_, List.getElem?_eq_getElem hi⟩
      obtain ⟨a, c, ga, hta, hcl⟩ := hat i x hx
      have g2 := s2.gg.trans s2.gh
      have i0 : (0 : Int) + (i : Int) = ((i : Nat) : Int) := Int.zero_add _
      refine ⟨_, rfl, _, rfl, tA, _, _, .ref a, rfl, rfl, SqL.of (g2 _ _ htA), at_of i0 ga, a, _, _, .int x.par, rfl, rfl, SqT.of (g2 _ _ hta), rfl, _, _, rfl, rfl, _, rfl, ?_⟩
      refine ite2 (fun h1 => ?_) (fun h1 => ?_)
      · have hp0 : 0 ≤ x.par := of_decide_eq_true h1
        have hp1 := (FF.par i x hx).1
        obtain ⟨p, ep⟩ : ∃ p : Nat, x.par = (p : Int) := ⟨x.par.toNat, by omega⟩
        obtain ⟨y, hy⟩ : ∃ y, tb[p]? = some y := ⟨_, List.getElem?_eq_getElem (by omega)⟩
        obtain ⟨a2, c2', ga2, hta2, hcl2⟩ := hat p y hy
        have yc := FF.cols p y hy
        have xc := FF.cols i x hx
        refine ⟨_, rfl, _, rfl, _, rfl, tA, _, _, .ref a, rfl, rfl, SqL.of (g2 _ _ htA), at_of i0 ga, a, _, _, .int x.par, rfl, rfl, SqT.of (g2 _ _ hta), rfl, tA, _, _, .ref a2, rfl, rfl, SqL.of (g2 _ _ htA), at_of ep ga2, a2, _, _, .ref c2', rfl, rfl, SqT.of (g2 _ _ hta2), rfl, ?_⟩
        refine ⟨_, rfl, _, rfl, tA, _, _, .ref a, rfl, rfl, SqL.of (g2 _ _ htA), at_of i0 ga, a, _, _, .ref c, rfl, rfl, SqT.of (g2 _ _ hta), rfl, c, rfl, ⟨_, SqL.of (g2 _ _ hcl)⟩, ?_⟩
        refine for_list (K := K) (a := c) (xs := x.cols.map V.str) (fun j σ H' => ∃ (x6 : Option V) (G' : Hp) (as : List Addr) (fo : List (Nat × Str × Str)), σ = [some (.ref st), some (.ref tA), some (.int m), some (.ref D), some (.int (0 + (i : Int))), some (.ref c2'), x6] ∧ Stp (F2 st inn) G H G' H' ∧ StAt G' H' st inn ∧ Cell G' H' D (.lst (as.map V.ref)) ∧ Rwx foF G' as fo ∧ FoOk tb fo ∧ (∀ e ∈ fo, e.1 < i ∨ (e.1 = i ∧ e.2.1 ∈ x.cols.take j)) ∧ fo.length ≤ 4 * i + j) ?_ ?_ ?_ ?_
        · exact ⟨_, G2, as, fo, rfl, s2, S2, c2, R2, O2, fun e he => .inl (o2 e he), ol⟩
        · rintro j σ H3 _ ⟨x6, G3, as, fo, _, s3, _⟩
          exact SqL.of (s3.gh _ _ (s3.gg _ _ hcl))
        · rintro j v σ H3 hj ⟨x6, G3, as, fo, rfl, s3, S3, c3, R3, O3, o3, ol3⟩
          obtain ⟨u, hu, rfl⟩ := map_get hj
          have hjl := get_lt hu
          refine ⟨_, rfl, _, rfl, G3, st, inn, _, rfl, s3.gh, S3, by omega, by omega, fun r1 H4 s4 S4 r10 r11 => ?_⟩
          have s4' := s3.trans s4
          have c4 := s4.cell c3 off
          refine ⟨rfl, _, rfl, ?_⟩
          refine ite2 (fun h2 => ?_) (fun h2 => ?_)
          · refine ⟨_, rfl, Or.inl ⟨rfl, _, SqL.of c4.at_⟩, _, rfl, _, rfl, _, rfl, _, rfl, _, rfl, c2', _, rfl, .inl (SqL.of (s4'.gh _ _ (s4'.gg _ _ hcl2))), G3, st, inn, _, rfl, s4.gh, S4, by rw [List.length_map]; omega, by rw [List.length_map]; omega, fun r2 H5 s5 S5 r20 r21 => ?_⟩
            rw [List.length_map] at r21
            obtain ⟨q, rfl⟩ := Int.eq_ofNat_of_zero_le r20
            have s5' := s4'.trans s5
            have c5 := s5.cell c4 off
            obtain ⟨z, hz⟩ : ∃ z, y.cols[q]? = some z := ⟨_, List.getElem?_eq_getElem (by omega)⟩
            refine ⟨c2', _, _, .str z, rfl, rfl, SqL.of (s5'.gh _ _ (s5'.gg _ _ hcl2)), at_of rfl (by rw [List.getElem?_map, hz]; rfl), by show 3 ≤ sizeLine; decide, fun R nR => ?_⟩
            obtain ⟨a1, a2, a3, a4, a5⟩ := row_add (o := .tup (foF (i, u, z))) (ys := as.map V.ref ++ [V.ref R]) s5' S5 c5 nD off nR
            have al : as.length = fo.length := Paired.length R3
            have eR : (HO.tup [V.int (0 + (i : Int)), V.str u, V.str z]) = .tup (foF (i, u, z)) := by rw [Int.zero_add]; rfl
            rw [eR]
            refine ⟨D, as.map V.ref, _, rfl, rfl, by rw [upd_ne (ne_of_none c5.at_ nR)]; exact c5.at_, sz_lt (by rw [List.length_map]; omega), ?_⟩
            refine ⟨_, _, as ++ [R], fo ++ [(i, u, z)], rfl, a1, a2, by rw [List.map_append]; exact a3, Rwx.snoc (Rwx.mono a5 R3) a4, ⟨?_, ?_⟩, ?_, ?_⟩
            · rw [List.map_append]
              refine nodup_snoc O3.nd fun hm => ?_
              obtain ⟨e, he, e1⟩ := List.mem_map.mp hm
              have e1 : (e.1, e.2.1) = (i, u) := e1
              injection e1 with e1 e2
              rcases o3 e he with h | ⟨_, h⟩
              · omega
              · rw [e2] at h
                exact nd_take xc.2.2.1 hu h
            · intro e he
              rcases List.mem_append.mp he with he | he
              · exact O3.ok e he
              · rw [List.mem_singleton.mp he]
                exact ⟨x, y, p, hx, ep, List.mem_of_getElem? hu, hy, List.mem_of_getElem? hz⟩
            · intro e he
              rw [take_more hu]
              rcases List.mem_append.mp he with he | he
              · rcases o3 e he with h | ⟨h, h'⟩
                · exact .inl h
                · exact .inr ⟨h, List.mem_append_left _ h'⟩
              · rw [List.mem_singleton.mp he]
                exact .inr ⟨rfl, List.mem_append_right _ (List.mem_singleton.mpr rfl)⟩
            · rw [List.length_append]; show _ + 1 ≤ _; omega
          · refine ⟨_, _, as, fo, rfl, s4', S4, c4, R3, O3, fun e he => ?_, by omega⟩
            rcases o3 e he with h | ⟨h, h'⟩
            · exact .inl h
            · exact .inr ⟨h, by rw [take_more hu]; exact List.mem_append_left _ h'⟩
        · rintro σ H3 ⟨x6, G3, as, fo, rfl, s3, S3, c3, R3, O3, o3, ol3⟩
          rw [List.length_map] at ol3
          refine ⟨_, _, _, G3, as, fo, rfl, s3, S3, c3, R3, O3, fun e he => ?_, by omega⟩
          rcases o3 e he with h | ⟨h, _⟩ <;> omega
      · exact ⟨_, _, _, G2, as, fo, rfl, s2, S2, c2, R2, O2, fun e he => Nat.lt_succ_of_lt (o2 e he), by omega⟩
    · rintro σ H2 ⟨x4, x5, x6, G2, as, fo, rfl, s2, S2, c2, R2, O2, o2, ol⟩
      exact ⟨_, rfl, k (.ref D) fo _ H2 (s2.freeze c2 nD) (S2.frz off _) ⟨D, as, rfl, upd_same, Rwx.mono (Same.lay c2.no _) R2⟩ O2 ol⟩
end
end OA

/-! ### extra_lines, schema_lines, are_words -/
namespace OA
open PySem PySem.Spec PyProof.Rows L2
theorem own_line (a b : Str) : Str.ofString "owner " ++ a ++ Str.ofString " " ++ b = Txt.join spc [Str.ofString "owner", a, b] := by
  rw [join_two (by simp), join_two (by simp), join_one]
  refine str_ext ?_
  rw [app_list, app_list, app_list, app_list, app_list, app_list, app_list]
  have e : (Str.ofString "owner ").cps.toList = (Str.ofString "owner").cps.toList ++ spc.cps.toList := by decide +kernel
  have e2 : (Str.ofString " ").cps.toList = spc.cps.toList := rfl
  rw [e, e2]
  simp only [List.append_assoc]
theorem fol_line (a b c : Str) : Str.ofString "follow " ++ a ++ Str.ofString " " ++ b ++ Str.ofString " " ++ c = Txt.join spc [Str.ofString "follow", a, b, c] := by
  rw [join_two (by simp), join_two (by simp), join_two (by simp), join_one]
  refine str_ext ?_
  rw [app_list, app_list, app_list, app_list, app_list, app_list, app_list, app_list, app_list, app_list, app_list]
  have e : (Str.ofString "follow ").cps.toList = (Str.ofString "follow").cps.toList ++ spc.cps.toList := by decide +kernel
  have e2 : (Str.ofString " ").cps.toList = spc.cps.toList := rfl
  rw [e, e2]
  simp only [List.append_assoc]
def spExtra : Sp := fun vs H Q _ => ∃ (v vo vf : V) (t : Nat) (tb : List TB) (ow : List (Nat × Str)) (fo : List (Nat × Str × Str)), vs = [v, vo, vf, .int (t : Int)] ∧ TBs H v tb ∧ Rws owF H vo ow ∧ Rws foF H vf fo ∧ Shrt tb ∧ t < tb.length ∧ ow.length ≤ 1000 ∧ fo.length ≤ 1000 ∧ (∀ e ∈ ow, e.2.length ≤ 100) ∧ (∀ e ∈ fo, e.2.1.length ≤ 100 ∧ e.2.2.length ≤ 100) ∧
  ∀ (p : Addr) (H' : Hp), Same H H' → H p = none → H' p = some (.lst (((extW tb ow fo t).map (Txt.join spc)).map V.str)) → Q (.ref p) H'
theorem rw_get {β : Type} {f : β → List V} {H : Hp} {as : List Addr} {l : List β} (h : Rwx f H as l) {i : Nat} {v : V} (e : (as.map V.ref)[i]? = some v) : ∃ a x, v = .ref a ∧ l[i]? = some x ∧ H a = some (.tup (f x)) := by
  obtain ⟨a, ha, rfl⟩ := map_get e
  obtain ⟨x, hx, hf⟩ := LiI.paired_get h ha
  exact ⟨a, x, rfl, hx, hf⟩
theorem ofT_more {β : Type} {l : List (Nat × β)} {i t : Nat} {e : Nat × β} (h : l[i]? = some e) : ofT (l.take (i + 1)) t = if e.1 = t then ofT (l.take i) t ++ [e] else ofT (l.take i) t := by
  unfold ofT
  rw [take_more h, List.filter_append]
  by_cases g : e.1 = t
  · rw [if_pos g, List.filter_cons, if_pos (decide_eq_true g)]; rfl
  · rw [if_neg g, List.filter_cons, if_neg (by simpa using g)]; simp
theorem ofT_len {β : Type} (l : List (Nat × β)) (t : Nat) : (ofT l t).length ≤ l.length := List.length_filter_le _ _
section
variable {P : Program} {w : World} {K : PySem.W.Frag} {mg : Str → Option Value} {base : Heap}
theorem sc_extra_lines : FnScope ["_law_tables", "_law_owners", "_law_follows", "_law_t", "_law_lines", "_law_k", "_law_column", "_law_upper", "_law_place"] ["_law_tables", "_law_owners", "_law_follows", "_law_t"] (defScope (topS 24)) := ⟨rfl, rfl, rfl, by decide +kernel, rfl, by decide +kernel, by decide +kernel⟩
set_option maxHeartbeats 8000000 in
theorem ok_extra_lines {f : Addr} {fd : FuncData} (F : Fun K "_law_extra_lines" "_law_extra_lines" (topS 24) f fd) (T : Txt K mg) : FnOk P w K mg base CX0 1 f fd ["_law_tables", "_law_owners", "_law_follows", "_law_t"] spExtra := by
  refine F.ok sc_extra_lines (fun vs H Q E h => ?_) (fun cdv A outer s H vs Q E hr h => ?_)
  · obtain ⟨v, vo, vf, t, tb, ow, fo, rfl, _⟩ := h
    rfl
  · obtain ⟨v, vo, vf, t, tb, ow, fo, rfl, B, ⟨oA, os, rfl, hoA, RO⟩, ⟨fA, fs, rfl, hfA, RF⟩, Sh, ht, ol, fl, os1, fs1, k⟩ := h
    refine ⟨_, (pss_cons (ps_setLc (i := 4) (own := [("_law_k", 5), ("_law_place", 8)]) (by rfl) sc_extra_lines.nd rfl rfl (sw_true rfl rfl rfl (by decide +kernel)) (i_list K (pv 1)) (blkOk_by (own := [("_law_k", 5), ("_law_place", 8)]) (N := ["_law_tables", "_law_owners", "_law_follows", "_law_t", "_law_lines", "_law_k", "_law_column", "_law_upper", "_law_place"]) (sc := defScope (topS 24)) (by decide +kernel)) (fun _ _ _ _ _ => (g_tup K (n := 2) rfl (pgs_cons (pg_name (i := 5) sc_extra_lines.nd rfl (Or.inl rfl)) (pgs_cons (pg_name (i := 8) sc_extra_lines.nd rfl (Or.inl rfl)) pgs_nil)))) (fun _ _ _ _ _ => (pts_one (pt_cmpR op_eq (pv 5) (pv 3) (nomark _)))) (fun _ _ _ _ _ => (pe_op o_adds (pe_op o_adds (pe_op o_adds pe_str (pe_ix (ix_tpl K) (pe_ix (ix_lst K) (pv 0) (pv 5) (fun _ _ => rfl)) pe_int (fun _ _ => rfl))) pe_str) (pv 8))))
      (pss_cons (ps_for PassesOwn.never rfl (i_list K (pv 2)) (g_tup K (n := 3) rfl (pgs_cons (pg_name (i := 5) sc_extra_lines.nd rfl (Or.inl rfl)) (pgs_cons (pg_name (i := 6) sc_extra_lines.nd rfl (Or.inl rfl)) (pgs_cons (pg_name (i := 7) sc_extra_lines.nd rfl (Or.inl rfl)) pgs_nil))))
      (pss_one (ps_if (pt_cmpR op_eq (pv 5) (pv 3) (nomark _)) (pss_one (ps_expr (e_bm K PySem.F.plainAttrs_list PySem.F.slot_list_append PySem.F.type_list_append mt_append (pv 4) (pa_cons (pe_op o_adds (pe_op o_adds (pe_op o_adds (pe_op o_adds (pe_op o_adds pe_str (pe_ix (ix_tpl K) (pe_ix (ix_lst K) (pv 0) (pv 5) (fun _ _ => rfl)) pe_int (fun _ _ => rfl))) pe_str) (pv 6)) pe_str) (pv 7)) pa_nil)))) pss_nil)))
      (pss_one (ps_ret (pv 4))))), ?_⟩
    obtain ⟨tA, as0, rfl, htA, el, hat⟩ := B.at
    obtain ⟨x, hx⟩ : ∃ x, tb[t]? = some x := ⟨_, List.getElem?_eq_getElem ht⟩
    obtain ⟨a, c, ga, hta, hcl⟩ := hat t x hx
    have hnm := Sh.nm x (List.mem_of_getElem? hx)
    have osl : os.length = ow.length := Paired.length RO
    have fsl : fs.length = fo.length := Paired.length RF
    refine ⟨_, rfl, oA, rfl, ⟨_, SqL.of hoA⟩, fun D nD => ?_⟩
    refine lc_list (K := K) (a := oA) (xs := os.map V.ref) (fun j H' => Same H H' ∧ H' D = some (.lst ((((ofT (ow.take j) t).map (ownW tb)).map (Txt.join spc)).map V.str))) ?_ ?_ ?_ ?_
    · exact ⟨same_loc (Same.refl H) nD _, upd_same⟩
    · rintro j H' _ ⟨s, _⟩
      exact SqL.of (s _ _ hoA)
    · rintro j y H1 hj ⟨t1, h1⟩
      obtain ⟨ra, e, rfl, he, hra⟩ := rw_get RO hj
      have hjl := get_lt he
      have hem := List.mem_of_getElem? he
      refine ⟨ra, _, rfl, SqT.of (t1 _ _ hra), rfl, _, _, rfl, _, _, rfl, rfl, rfl, ?_⟩
      refine ⟨_, rfl, _, rfl, rfl, _, rfl, ?_⟩
      rw [show ofT (ow.take (j + 1)) t = _ from ofT_more he]
      refine ite2 (fun h2 => ?_) (fun h2 => ?_)
      · have e2 : e.1 = t := by
          have := V.int.inj (of_decide_eq_true h2)
          omega
        rw [if_pos e2]
        have l6 : (Str.ofString "owner ").length = 6 := by decide +kernel
        have l1 : (Str.ofString " ").length = 1 := by decide +kernel
        have l3 := os1 e hem
        refine ⟨_, rfl, _, rfl, tA, _, _, .ref a, rfl, rfl, SqL.of (t1 _ _ htA), at_of (j := t) (by rw [← e2]) ga, a, _, _, .str x.nm, rfl, rfl, SqT.of (t1 _ _ hta), rfl, _, _, rfl, rfl, sz_le (by omega), _, _, rfl, rfl, sz_le (by rw [app_len]; omega), _, rfl, _, _, rfl, rfl, sz_le (by rw [app_len, app_len]; omega), _, h1, sz_lt ?_, same_loc t1 nD _, ?_⟩
        · have := ofT_len (ow.take j) t
          rw [List.length_take] at this
          simp only [List.length_map]
          omega
        · rw [upd_same, List.map_append, List.map_append, List.map_append, own_line]
          show _ = some (HO.lst (_ ++ [V.str (Txt.join spc (ownW tb e))]))
          unfold ownW
          rw [e2, nmI_of hx]
      · have e2 : ¬ e.1 = t := fun z => h2 (decide_eq_true (by rw [z]))
        rw [if_neg e2]
        exact ⟨t1, h1⟩
    rintro H1 ⟨t1, h1⟩
    rw [List.length_map, osl, List.take_length] at h1
    -- the follow lines
    refine ⟨_, rfl, fA, rfl, ⟨_, SqL.of (t1 _ _ hfA)⟩, ?_⟩
    refine for_list (K := K) (a := fA) (xs := fs.map V.ref) (fun j σ H' => ∃ (x5 x6 x7 : Option V), σ = [some (.ref tA), some (.ref oA), some (.ref fA), some (.int (t : Int)), some (.ref D), x5, x6, x7, none] ∧ Same H H' ∧ H' D = some (.lst ((((ofT ow t).map (ownW tb) ++ (ofT (fo.take j) t).map (folW tb)).map (Txt.join spc)).map V.str))) ?_ ?_ ?_ ?_
    · refine ⟨_, _, _, rfl, t1, ?_⟩
      rw [h1]
      show _ = some (HO.lst ((((ofT ow t).map (ownW tb) ++ []).map _).map _))
      rw [List.append_nil]
    · rintro j σ H' _ ⟨_, _, _, _, s, _⟩
      exact SqL.of (s _ _ hfA)
    · rintro j y σ H2 hj ⟨x5, x6, x7, rfl, t2, h2⟩
      obtain ⟨ra, e, rfl, he, hra⟩ := rw_get RF hj
      have hjl := get_lt he
      have hem := List.mem_of_getElem? he
      refine ⟨ra, _, rfl, SqT.of (t2 _ _ hra), rfl, _, _, rfl, _, _, rfl, _, _, rfl, rfl, ?_⟩
      refine ⟨_, rfl, _, rfl, rfl, _, rfl, ?_⟩
      refine ite2 (fun h3 => ?_) (fun h3 => ?_)
      · have e2 : e.1 = t := by
          have := V.int.inj (of_decide_eq_true h3)
          omega
        have l6 : (Str.ofString "follow ").length = 7 := by decide +kernel
        have l1 : (Str.ofString " ").length = 1 := by decide +kernel
        have l3 := fs1 e hem
        refine ⟨_, rfl, Or.inl ⟨rfl, _, SqL.of h2⟩, _, rfl, _, rfl, tA, _, _, .ref a, rfl, rfl, SqL.of (t2 _ _ htA), at_of (j := t) (by rw [← e2]) ga, a, _, _, .str x.nm, rfl, rfl, SqT.of (t2 _ _ hta), rfl, _, _, rfl, rfl, sz_le (by omega), _, _, rfl, rfl, sz_le (by rw [app_len]; omega), _, rfl, _, _, rfl, rfl, sz_le (by rw [app_len, app_len]; omega), _, _, rfl, rfl, sz_le (by rw [app_len, app_len, app_len]; omega), _, rfl, _, _, rfl, rfl, sz_le (by rw [app_len, app_len, app_len, app_len]; omega), D, _, _, rfl, rfl, h2, sz_lt ?_, ?_⟩
        · have g1 := ofT_len (fo.take j) t
          have g2 := ofT_len ow t
          rw [List.length_take] at g1
          simp only [List.length_map, List.length_append]
          omega
        · refine ⟨_, _, _, rfl, same_loc t2 nD _, ?_⟩
          rw [upd_same, ofT_more he, if_pos e2, List.map_append (l₁ := ofT (fo.take j) t), ← List.append_assoc, List.map_append (l₂ := [e].map (folW tb)), List.map_append (l₂ := ([e].map (folW tb)).map (Txt.join spc)), fol_line]
          show _ = some (HO.lst (_ ++ [V.str (Txt.join spc (folW tb e))]))
          unfold folW
          rw [e2, nmI_of hx]
      · have e2 : ¬ e.1 = t := fun z => h3 (decide_eq_true (by rw [z]))
        refine ⟨_, _, _, rfl, t2, ?_⟩
        rw [ofT_more he, if_neg e2]
        exact h2
    · rintro σ H2 ⟨x5, x6, x7, rfl, t2, h2⟩
      rw [List.length_map, fsl, List.take_length] at h2
      exact ⟨_, rfl, k D H2 t2 nD h2⟩
end
end OA

/-! ### schema_lines, are_words -/
namespace OA
open PySem PySem.Spec PyProof.Rows L2
def rem {β : Type} (l : List (Nat × β)) (D : List Nat) : List (Nat × β) := l.filter fun e => decide (e.1 ∉ D)
theorem rem_nil {β : Type} (l : List (Nat × β)) : rem l [] = l := by
  unfold rem
  rw [List.filter_eq_self]
  intro a _
  exact decide_eq_true (by simp)
theorem rem_step {β : Type} (l : List (Nat × β)) (D : List Nat) (t : Nat) : (rem l D).filter (fun e => !decide (e.1 = t)) = rem l (D ++ [t]) := by
  unfold rem
  rw [List.filter_filter]
  refine List.filter_congr fun e _ => ?_
  by_cases h1 : e.1 = t <;> by_cases h2 : e.1 ∈ D <;> simp [h1, h2]
theorem ofT_rem {β : Type} (l : List (Nat × β)) (D : List Nat) (t : Nat) : ofT (rem l D) t = if t ∈ D then [] else ofT l t := by
  unfold ofT rem
  rw [List.filter_filter]
  by_cases h : t ∈ D
  · rw [if_pos h, List.filter_eq_nil_iff]
    intro e _ g
    rw [Bool.and_eq_true] at g
    have g1 := of_decide_eq_true g.1
    have g2 := of_decide_eq_true g.2
    rw [g1] at g2
    exact g2 h
  · rw [if_neg h]
    refine List.filter_congr fun e _ => ?_
    by_cases h1 : e.1 = t
    · rw [decide_eq_true h1, h1, decide_eq_true h]; rfl
    · rw [decide_eq_false h1]; rfl
theorem extW_rem (tb : List TB) (ow : List (Nat × Str)) (fo : List (Nat × Str × Str)) (D : List Nat) (t : Nat) : extW tb (rem ow D) (rem fo D) t = if t ∈ D then [] else extW tb ow fo t := by
  unfold extW
  rw [ofT_rem, ofT_rem]
  by_cases h : t ∈ D
  · rw [if_pos h, if_pos h, if_pos h]; rfl
  · rw [if_neg h, if_neg h, if_neg h]
theorem rem_mem {β : Type} {l : List (Nat × β)} {D : List Nat} {e : Nat × β} (h : e ∈ rem l D) : e ∈ l := (List.mem_filter.mp h).1
theorem rem_len {β : Type} (l : List (Nat × β)) (D : List Nat) : (rem l D).length ≤ l.length := List.length_filter_le _ _
theorem extW_len (tb : List TB) (ow : List (Nat × Str)) (fo : List (Nat × Str × Str)) (t : Nat) : (extW tb ow fo t).length ≤ ow.length + fo.length := by
  unfold extW
  rw [List.length_append, List.length_map, List.length_map]
  have := ofT_len ow t
  have := ofT_len fo t
  omega
/-- [row for row in rows if row[0] != t] -/
theorem filt_rows {β : Type} {f : Nat × β → List V} {H : Hp} (g : V → Bool) : ∀ {as : List Addr} {l : List (Nat × β)}, Rwx f H as l → (∀ a e, a ∈ as → H a = some (.tup (f e)) → e ∈ l → ∀ t : Nat, True) → ∀ (q : Nat × β → Bool), (∀ a e, H a = some (.tup (f e)) → e ∈ l → g (.ref a) = q e) → ∃ as', (as.map V.ref).filter g = as'.map V.ref ∧ Rwx f H as' (l.filter q)
  | _, _, .nil, _, _, _ => ⟨[], rfl, .nil⟩
  | a :: as, e :: l, .cons h r, hh, q, hq => by
    obtain ⟨as', e1, e2⟩ := filt_rows g r (fun _ _ _ _ _ _ => trivial) q fun a e h1 h2 => hq a e h1 (List.mem_cons_of_mem _ h2)
    have := hq a e h List.mem_cons_self
    rw [List.map_cons, List.filter_cons, List.filter_cons, this]
    cases q e with
    | true => exact ⟨a :: as', by rw [if_pos rfl, e1]; rfl, by rw [if_pos rfl]; exact .cons h e2⟩
    | false => exact ⟨as', by rw [if_neg Bool.false_ne_true, e1], by rw [if_neg Bool.false_ne_true]; exact e2⟩
def spSLines : Sp := fun vs H Q _ => ∃ (G : Hp) (st inn : Addr) (v vo vf : V) (names : List Str) (tb : List TB) (ow : List (Nat × Str)) (fo : List (Nat × Str × Str)), vs = [.ref st, v, vo, vf] ∧ Same G H ∧ StAt G H st inn ∧ TBs G v tb ∧ Rws owF G vo ow ∧ Rws foF G vf fo ∧ For names tb ∧ Words 12 12 names ∧ OwOk tb ow ∧ FoOk tb fo ∧ ow.length ≤ 12 ∧ fo.length ≤ 48 ∧
  ∀ (p : Addr) (D : List Nat) (wss : List (List Str)) (G' H' : Hp), Stp (F2 st inn) G H G' H' → StAt G' H' st inn → H p = none → Cell G' H' p (.lst ((wss.map (Txt.join spc)).map V.str)) → Blk tb ow fo tb.length D wss → (∀ t, t < tb.length → t ∈ D) → wss.length ≤ tb.length * (1 + 2 * (ow.length + fo.length)) → Q (.ref p) H'
def ne0 (H : Hp) (t : Nat) : V → Bool
  | .ref a => match H a with
    | some (.tup (x :: _)) => !decide (x = V.int (t : Int))
    | _ => false
  | _ => false
theorem ne0_at {H : Hp} {t : Nat} {a : Addr} {x : V} {r : List V} (h : H a = some (.tup (x :: r))) : ne0 H t (.ref a) = !decide (x = V.int (t : Int)) := by
  show (match H a with | some (.tup (x :: _)) => !decide (x = V.int (t : Int)) | _ => false) = _
  rw [h]
section
variable {P : Program} {w : World} {K : PySem.W.Frag} {mg : Str → Option Value} {base : Heap}
theorem sc_schema_lines : FnScope ["_law_state", "_law_tables", "_law_owners", "_law_follows", "_law_lines", "_law_t", "_law_row"] ["_law_state", "_law_tables", "_law_owners", "_law_follows"] (defScope (topS 23)) := ⟨rfl, rfl, rfl, by decide +kernel, rfl, by decide +kernel, by decide +kernel⟩
set_option maxHeartbeats 8000000 in
theorem ok_schema_lines {f : Addr} {fd : FuncData} (F : Fun K "_law_schema_lines" "_law_schema_lines" (topS 23) f fd) (T : Txt K mg) (c_draw : Callee P w K mg base "_law_draw" ["_law_st", "_law_limit"] spDraw 1) (c_table_line : Callee P w K mg base "_law_table_line" ["_law_tb", "_law_t"] spTL 1) (c_extra_lines : Callee P w K mg base "_law_extra_lines" ["_law_tables", "_law_owners", "_law_follows", "_law_t"] spExtra 1) : FnOk P w K mg base CX0 2 f fd ["_law_state", "_law_tables", "_law_owners", "_law_follows"] spSLines := by
  refine F.ok sc_schema_lines (fun vs H Q E h => ?_) (fun cdv A outer s H vs Q E hr h => ?_)
  · obtain ⟨G, st, inn, v, vo, vf, names, tb, ow, fo, rfl, _⟩ := h
    rfl
  · obtain ⟨G, st, inn, v, vo, vf, names, tb, ow, fo, rfl, gh, S, B, RO, RF, FF, W, OO, FO, ol, fl, k⟩ := h
    refine ⟨_, (pss_cons (ps_set (i := 4) sc_schema_lines.nd rfl (Or.inl rfl) (pe_lst pa_nil))
      (pss_cons (ps_for PassesOwn.never rfl (pi_range1 (by rfl) T.n_range (pa_cons (pe_callB (c_len K) (by rfl) T.n_len (by decide +kernel) (pa_cons (pv 1) pa_nil)) pa_nil)) (pg_name (i := 5) sc_schema_lines.nd rfl (Or.inr rfl))
      (pss_cons (ps_expr (e_bm K PySem.F.plainAttrs_list PySem.F.slot_list_append PySem.F.type_list_append mt_append (pv 4) (pa_cons (pe_co c_table_line hr (by decide) (by rfl) (pa_cons (pv 1) (pa_cons (pv 5) pa_nil))) pa_nil)))
      (pss_one (ps_if (pt_cmpR op_eq (pe_co c_draw hr (by decide) (by rfl) (pa_cons (pv 0) (pa_cons pe_int pa_nil))) pe_int (nomark _)) (pss_cons (ps_set (i := 4) sc_schema_lines.nd rfl (Or.inl rfl) (pe_op op_cat (pv 4) (pe_co c_extra_lines hr (by decide) (by rfl) (pa_cons (pv 1) (pa_cons (pv 2) (pa_cons (pv 3) (pa_cons (pv 5) pa_nil)))))))
      (pss_cons (ps_setLc (i := 2) (own := [("_law_row", 6)]) (by rfl) sc_schema_lines.nd rfl rfl (sw_true rfl rfl rfl (by decide +kernel)) (i_list K (pv 2)) (blkOk_by (own := [("_law_row", 6)]) (N := ["_law_state", "_law_tables", "_law_owners", "_law_follows", "_law_lines", "_law_t", "_law_row"]) (sc := defScope (topS 23)) (by decide +kernel)) (fun _ _ _ _ _ => (pg_name (i := 6) sc_schema_lines.nd rfl (Or.inl rfl))) (fun _ _ _ _ _ => (pts_one (pt_cmpR op_ne (pe_ix (ix_tpl K) (pv 6) pe_int (fun _ _ => rfl)) (pv 5) (nomark _)))) (fun _ _ _ _ _ => (pv 6)))
      (pss_one (ps_setLc (i := 3) (own := [("_law_row", 6)]) (by rfl) sc_schema_lines.nd rfl rfl (sw_true rfl rfl rfl (by decide +kernel)) (i_list K (pv 3)) (blkOk_by (own := [("_law_row", 6)]) (N := ["_law_state", "_law_tables", "_law_owners", "_law_follows", "_law_lines", "_law_t", "_law_row"]) (sc := defScope (topS 23)) (by decide +kernel)) (fun _ _ _ _ _ => (pg_name (i := 6) sc_schema_lines.nd rfl (Or.inl rfl))) (fun _ _ _ _ _ => (pts_one (pt_cmpR op_ne (pe_ix (ix_tpl K) (pv 6) pe_int (fun _ _ => rfl)) (pv 5) (nomark _)))) (fun _ _ _ _ _ => (pv 6)))))) pss_nil))))
      (pss_cons (ps_for PassesOwn.never rfl (pi_range1 (by rfl) T.n_range (pa_cons (pe_callB (c_len K) (by rfl) T.n_len (by decide +kernel) (pa_cons (pv 1) pa_nil)) pa_nil)) (pg_name (i := 5) sc_schema_lines.nd rfl (Or.inr rfl))
      (pss_one (ps_set (i := 4) sc_schema_lines.nd rfl (Or.inl rfl) (pe_op op_cat (pv 4) (pe_co c_extra_lines hr (by decide) (by rfl) (pa_cons (pv 1) (pa_cons (pv 2) (pa_cons (pv 3) (pa_cons (pv 5) pa_nil)))))))))
      (pss_one (ps_ret (pv 4)))))), ?_⟩
    have l12 := lenTB FF W
    have Sh := FF.shrt W
    obtain ⟨tA, as0, rfl, htA, el, hat⟩ := B.at
    have os1 : ∀ e ∈ ow, e.2.length ≤ 100 := fun e he => by
      obtain ⟨cs, hc, hz⟩ := OO.ok e he
      obtain ⟨_, _, _, _, _, _, wz⟩ := plcW FF W hc hz
      have := wz.len
      omega
    have fs1 : ∀ e ∈ fo, e.2.1.length ≤ 100 ∧ e.2.2.length ≤ 100 := fun e he => by
      obtain ⟨x, y, p, hx, _, hc, hy, hu⟩ := FO.ok e he
      have := (nameC FF W hx hc).len
      have := (nameC FF W hy hu).len
      omega
    have mulB : ∀ j : Nat, (j + 1) * (1 + (ow.length + fo.length)) = j * (1 + (ow.length + fo.length)) + 1 + (ow.length + fo.length) := fun j => by rw [Nat.add_mul]; omega
    have mul2 : ∀ j : Nat, (j + 1) * (ow.length + fo.length) = j * (ow.length + fo.length) + (ow.length + fo.length) := fun j => by rw [Nat.add_mul]; omega
    have mulM : ∀ j : Nat, j ≤ 12 → j * (1 + (ow.length + fo.length)) ≤ 12 * 61 := fun j hj => Nat.mul_le_mul hj (by omega)
    have mulN : ∀ j : Nat, j ≤ 12 → j * (ow.length + fo.length) ≤ 12 * 60 := fun j hj => Nat.mul_le_mul hj (by omega)
    refine ⟨by decide, fun L0 nL0 => ?_⟩
    have s1 : Stp (F2 st inn) G H G (upd H L0 (.lst [])) := Stp.put gh nL0 _
    have S1 : StAt G (upd H L0 (.lst [])) st inn := S.new nL0 gh _
    have c1 : Cell G (upd H L0 (.lst [])) L0 (.lst []) := Cell.new gh nL0 _
    generalize upd H L0 (.lst []) = H1 at s1 S1 c1
    refine ⟨_, rfl, tA, _, rfl, .inl (SqL.of (s1.gh _ _ htA)), tb.length, by rw [List.length_map, el], by omega, by omega, for_range (lo := 0) (n := tb.length) (fun i σ H' => ∃ (x5 : Option V) (G' : Hp) (L : Addr) (vo' vf' : V) (D : List Nat) (wss : List (List Str)), σ = [some (.ref st), some (.ref tA), some vo', some vf', some (.ref L), x5, none] ∧ Stp (F2 st inn) G H G' H' ∧ StAt G' H' st inn ∧ H L = none ∧ Cell G' H' L (.lst ((wss.map (Txt.join spc)).map V.str)) ∧ Rws owF G' vo' (rem ow D) ∧ Rws foF G' vf' (rem fo D) ∧ Blk tb ow fo i D wss ∧ (∀ t ∈ D, t < i) ∧ wss.length ≤ i * (1 + (ow.length + fo.length))) ?_ ?_ ?_⟩
    · exact ⟨none, G, L0, vo, vf, [], [], rfl, s1, S1, nL0, c1, by rw [rem_nil]; exact RO, by rw [rem_nil]; exact RF, .nil, fun t h => (by cases h), Nat.zero_le _⟩
    · rintro i σ H2 hi ⟨x5, G2, L, vo', vf', D, wss, rfl, s2, S2, nL, c2, RO2, RF2, B2, d2, wl⟩
      obtain ⟨x, hx⟩ : ∃ x, tb[i]? = some x := ⟨_, List.getElem?_eq_getElem hi⟩
      have i0 : (0 : Int) + (i : Int) = ((i : Nat) : Int) := Int.zero_add _
      have offL : ¬ F2 st inn L := S.off nL
      have mB := mulB i
      have mM := mulM (i + 1) (by omega)
      have hpx := FF.par i x hx
      -- the table's line
      refine ⟨_, rfl, Or.inl ⟨rfl, _, SqL.of c2.at_⟩, _, rfl, _, rfl, .ref tA, i, tb, x, by rw [i0]; rfl, B.mono (s2.gg.trans s2.gh), hx, Sh, .inr (by omega), fun H3 t3 => ?_⟩
      have s3 : Stp (F2 st inn) G2 H2 G2 H3 := Stp.same s2.gh t3
      have s3' := s2.trans s3
      have S3 : StAt G2 H3 st inn := S2.keep0 (Stp.same s2.gh t3)
      have c3 := s3.cell c2 offL
      refine ⟨L, _, _, rfl, rfl, c3.at_, sz_lt (by simp only [List.length_map]; omega), ?_⟩
      have s4 := s3'.loc c3 nL (.lst ((wss.map (Txt.join spc)).map V.str ++ [V.str (Txt.join spc (tlW tb i x))]))
      have S4 := S3.write offL (.lst ((wss.map (Txt.join spc)).map V.str ++ [V.str (Txt.join spc (tlW tb i x))]))
      have c4 := c3.set (.lst ((wss.map (Txt.join spc)).map V.str ++ [V.str (Txt.join spc (tlW tb i x))]))
      generalize upd H3 L (.lst ((wss.map (Txt.join spc)).map V.str ++ [V.str (Txt.join spc (tlW tb i x))])) = H4 at s4 S4 c4
      have e4 : (wss.map (Txt.join spc)).map V.str ++ [V.str (Txt.join spc (tlW tb i x))] = ((wss ++ [tlW tb i x]).map (Txt.join spc)).map V.str := by rw [List.map_append, List.map_append]; rfl
      rw [e4] at c4
      have B4 := B2.tab hx
      have w4 : (wss ++ [tlW tb i x]).length ≤ i * (1 + (ow.length + fo.length)) + 1 := by rw [List.length_append]; exact Nat.succ_le_succ wl
      generalize wss ++ [tlW tb i x] = wss4 at c4 B4 w4
      refine ⟨_, rfl, G2, st, inn, _, rfl, s4.gh, S4, by decide, by decide, fun r1 H5 s5 S5 r10 r11 => ?_⟩
      have s5' := s4.trans s5
      have c5 := s5.cell c4 offL
      refine ⟨rfl, _, rfl, ?_⟩
      refine ite2 (fun h1 => ?_) (fun h1 => ?_)
      · have hiD : i ∉ D := fun hm => absurd (d2 i hm) (Nat.lt_irrefl _)
        refine ⟨_, rfl, _, rfl, _, rfl, _, rfl, _, rfl, .ref tA, vo', vf', i, tb, rem ow D, rem fo D, by rw [i0]; rfl, B.mono (s5'.gg.trans s5'.gh), RO2.mono s5'.gh, RF2.mono s5'.gh, Sh, hi, by have := rem_len ow D; omega, by have := rem_len fo D; omega, fun e he => os1 e (rem_mem he), fun e he => fs1 e (rem_mem he), fun p H6 t6 np hp => ?_⟩
        rw [extW_rem, if_neg hiD] at hp
        have xl := extW_len tb ow fo i
        refine ⟨L, p, _, _, rfl, rfl, t6 _ _ c5.at_, hp, sz_le (by simp only [List.length_map]; omega), fun L2 nL2 => ?_⟩
        have s6 : Stp (F2 st inn) G2 H5 G2 H6 := Stp.same s5.gh t6
        have s6' := s5'.trans s6
        have S6 : StAt G2 H6 st inn := S5.keep0 (Stp.same s5.gh t6)
        rw [← List.map_append, ← List.map_append]
        have B7 := B4.ext (t := i) (Nat.lt_succ_self i) hiD
        have w7 : (wss4 ++ extW tb ow fo i).length ≤ (i + 1) * (1 + (ow.length + fo.length)) := by rw [List.length_append]; omega
        generalize wss4 ++ extW tb ow fo i = wss7 at B7 w7
        have nL20 : H L2 = none := s6'.new nL2
        have s7 := s6'.trans (Stp.put (F := F2 st inn) s6.gh nL2 (.lst ((wss7.map (Txt.join spc)).map V.str)))
        have S7 := S6.new nL2 s6.gh (.lst ((wss7.map (Txt.join spc)).map V.str))
        have c7 := Cell.new s6.gh nL2 (.lst ((wss7.map (Txt.join spc)).map V.str))
        generalize upd H6 L2 (.lst ((wss7.map (Txt.join spc)).map V.str)) = H7 at s7 S7 c7
        have offL2 : ¬ F2 st inn L2 := S.off nL20
        -- what is left of the owners
        obtain ⟨oA, os, rfl, hoA, RO3⟩ := RO2
        obtain ⟨fA, fs, rfl, hfA, RF3⟩ := RF2
        have osl : os.length = (rem ow D).length := Paired.length RO3
        have fsl : fs.length = (rem fo D).length := Paired.length RF3
        have rl1 := rem_len ow D
        have rl2 := rem_len fo D
        obtain ⟨os', eo1, eo2⟩ := filt_rows (ne0 G2 i) RO3 (fun _ _ _ _ _ _ => trivial) (fun e => !decide (e.1 = i)) (fun a e h1 _ => by
          show (match G2 a with | some (.tup (x :: _)) => !decide (x = V.int (i : Int)) | _ => false) = _
          rw [h1]
          show (!decide (V.int (e.1 : Int) = V.int (i : Int))) = _
          congr 1
          exact decide_eq_decide.mpr ⟨fun z => by have := V.int.inj z; omega, fun z => by rw [z]⟩)
        obtain ⟨fs', ef1, ef2⟩ := filt_rows (ne0 G2 i) RF3 (fun _ _ _ _ _ _ => trivial) (fun e => !decide (e.1 = i)) (fun a e h1 _ => by
          show (match G2 a with | some (.tup (x :: _)) => !decide (x = V.int (i : Int)) | _ => false) = _
          rw [h1]
          show (!decide (V.int (e.1 : Int) = V.int (i : Int))) = _
          congr 1
          exact decide_eq_decide.mpr ⟨fun z => by have := V.int.inj z; omega, fun z => by rw [z]⟩)
        rw [rem_step] at eo2 ef2
        dsimp only [gName]
        refine at_seq (at_asg (lc_flt (a := oA) (xs := os.map V.ref) (ne0 G2 i) (by show 6 < 7; decide) (fun R r => ⟨_, rfl, r⟩) (s7.gh _ _ hoA) (by rw [List.length_map]; omega) (fun y hy H8 t8 R r => ?_) fun O2 H8 t8 nO2 hO2 => ?_))
        · obtain ⟨a, ha, rfl⟩ := List.mem_map.mp hy
          obtain ⟨j, hj⟩ := List.getElem?_of_mem ha
          obtain ⟨e, he, hra⟩ := LiI.paired_get RO3 hj
          refine ⟨_, rfl, a, _, _, .int (e.1 : Int), rfl, rfl, SqT.of (t8 _ _ (s7.gh _ _ hra)), rfl, _, rfl, rfl, _, rfl, ?_⟩
          have := r H8 (Same.refl H8)
          rw [ne0_at (show G2 a = some (.tup (owF e)) from hra)] at this
          rw [i0]
          exact this
        have s8 : Stp (F2 st inn) G2 H7 G2 H8 := Stp.same s7.gh t8
        have s8' := s7.trans s8
        have S8 : StAt G2 H8 st inn := S7.keep0 (Stp.same s7.gh t8)
        have c8 := s8.cell c7 offL2
        have nO20 : H O2 = none := s7.new nO2
        have cO : Cell G2 H8 O2 (.lst ((os.map V.ref).filter (ne0 G2 i))) := ⟨hO2, s7.gh.free nO2⟩
        have offO : ¬ F2 st inn O2 := S.off nO20
        dsimp only [gName]
        refine at_asg (lc_flt (a := fA) (xs := fs.map V.ref) (ne0 G2 i) (by show 6 < 7; decide) (fun R r => ⟨_, rfl, r⟩) (s8'.gh _ _ hfA) (by rw [List.length_map]; omega) (fun y hy H9 t9 R r => ?_) fun F2' H9 t9 nF2 hF2 => ?_)
        · obtain ⟨a, ha, rfl⟩ := List.mem_map.mp hy
          obtain ⟨j, hj⟩ := List.getElem?_of_mem ha
          obtain ⟨e, he, hra⟩ := LiI.paired_get RF3 hj
          refine ⟨_, rfl, a, _, _, .int (e.1 : Int), rfl, rfl, SqT.of (t9 _ _ (s8'.gh _ _ hra)), rfl, _, rfl, rfl, _, rfl, ?_⟩
          have := r H9 (Same.refl H9)
          rw [ne0_at (show G2 a = some (.tup (foF e)) from hra)] at this
          rw [i0]
          exact this
        have s9 : Stp (F2 st inn) G2 H8 G2 H9 := Stp.same s8'.gh t9
        have s9' := s8'.trans s9
        have S9 : StAt G2 H9 st inn := S8.keep0 (Stp.same s8'.gh t9)
        have c9 := s9.cell c8 offL2
        have cO9 := s9.cell cO offO
        have nF20 : H F2' = none := s8'.new nF2
        have cF : Cell G2 H9 F2' (.lst ((fs.map V.ref).filter (ne0 G2 i))) := ⟨hF2, s8'.gh.free nF2⟩
        have offF : ¬ F2 st inn F2' := S.off nF20
        have OF : O2 ≠ F2' := ne_of_none cO.at_ nF2
        have LO : L2 ≠ O2 := ne_of_none c7.at_ nO2
        have LF : L2 ≠ F2' := ne_of_none c8.at_ nF2
        have s10 := (s9'.freeze cO9 nO20).freeze (cF.lay OF.symm _) nF20
        have g10 : Same G2 (upd (upd G2 O2 (.lst ((os.map V.ref).filter (ne0 G2 i)))) F2' (.lst ((fs.map V.ref).filter (ne0 G2 i)))) := (Same.lay cO9.no _).trans (Same.lay (cF.lay OF.symm _).no _)
        refine ⟨_, _, L2, .ref O2, .ref F2', D ++ [i], wss7, rfl, s10, (S9.frz offO _).frz offF _, nL20, (c9.lay LO _).lay LF _, ⟨O2, os', rfl, ?_, Rwx.mono g10 eo2⟩, ⟨F2', fs', rfl, ?_, Rwx.mono g10 ef2⟩, B7, ?_, w7⟩
        · rw [upd_ne OF, upd_same, eo1]
        · rw [upd_same, ef1]
        · intro t ht
          rcases List.mem_append.mp ht with ht | ht
          · exact Nat.lt_succ_of_lt (d2 t ht)
          · rw [List.mem_singleton.mp ht]; exact Nat.lt_succ_self i
      · exact ⟨_, G2, L, vo', vf', D, wss4, rfl, s5', S5, nL, c5, RO2, RF2, B4, fun t ht => Nat.lt_succ_of_lt (d2 t ht), by omega⟩
    · -- the second loop
      rintro σ H2 ⟨x5, G2, L, vo', vf', D, wss, rfl, s2, S2, nL, c2, RO2, RF2, B2, d2, wl⟩
      have mM := mulM tb.length l12
      refine ⟨_, rfl, tA, _, rfl, .inl (SqL.of (s2.gh _ _ (s2.gg _ _ htA))), tb.length, by rw [List.length_map, el], by omega, by omega, for_range (lo := 0) (n := tb.length) (fun i σ H' => ∃ (x5 : Option V) (L : Addr) (D2 : List Nat) (wss : List (List Str)), σ = [some (.ref st), some (.ref tA), some vo', some vf', some (.ref L), x5, none] ∧ Stp (F2 st inn) G H G2 H' ∧ StAt G2 H' st inn ∧ H L = none ∧ Cell G2 H' L (.lst ((wss.map (Txt.join spc)).map V.str)) ∧ Blk tb ow fo tb.length D2 wss ∧ (∀ t, t < i → t ∈ D2) ∧ (∀ t, i ≤ t → (t ∈ D2 ↔ t ∈ D)) ∧ wss.length ≤ tb.length * (1 + (ow.length + fo.length)) + i * (ow.length + fo.length)) ?_ ?_ ?_⟩
      · exact ⟨x5, L, D, wss, rfl, s2, S2, nL, c2, B2, fun t h => (by omega), fun t _ => Iff.rfl, by omega⟩
      · rintro i σ H3 hi ⟨x5, L, D2, wss, rfl, s3, S3, nL, c3, B3, dA, dB, wl⟩
        have i0 : (0 : Int) + (i : Int) = ((i : Nat) : Int) := Int.zero_add _
        have m2 := mul2 i
        have mN := mulN (i + 1) (by omega)
        refine ⟨_, rfl, _, rfl, _, rfl, _, rfl, _, rfl, .ref tA, vo', vf', i, tb, rem ow D, rem fo D, by rw [i0]; rfl, B.mono (s3.gg.trans s3.gh), RO2.mono s3.gh, RF2.mono s3.gh, Sh, hi, by have := rem_len ow D; omega, by have := rem_len fo D; omega, fun e he => os1 e (rem_mem he), fun e he => fs1 e (rem_mem he), fun p H6 t6 np hp => ?_⟩
        rw [extW_rem] at hp
        have xl := extW_len tb ow fo i
        have xl2 : (if i ∈ D then [] else extW tb ow fo i).length ≤ ow.length + fo.length := by
          split
          · exact Nat.zero_le _
          · exact xl
        refine ⟨L, p, _, _, rfl, rfl, t6 _ _ c3.at_, hp, sz_le (by simp only [List.length_map]; omega), fun L2 nL2 => ?_⟩
        have s6 : Stp (F2 st inn) G2 H3 G2 H6 := Stp.same s3.gh t6
        have s6' := s3.trans s6
        have S6 : StAt G2 H6 st inn := S3.keep0 (Stp.same s3.gh t6)
        rw [← List.map_append, ← List.map_append]
        have nL20 : H L2 = none := s6'.new nL2
        obtain ⟨D3, B7, dA7, dB7⟩ : ∃ D3, Blk tb ow fo tb.length D3 (wss ++ if i ∈ D then [] else extW tb ow fo i) ∧ (∀ t, t < i + 1 → t ∈ D3) ∧ (∀ t, i + 1 ≤ t → (t ∈ D3 ↔ t ∈ D)) := by
          by_cases h : i ∈ D
          · rw [if_pos h, List.append_nil]
            refine ⟨D2, B3, fun t ht => ?_, fun t ht => dB t (by omega)⟩
            by_cases e : t = i
            · rw [e]; exact (dB i (Nat.le_refl _)).mpr h
            · exact dA t (by omega)
          · rw [if_neg h]
            refine ⟨D2 ++ [i], B3.ext hi (fun z => h ((dB i (Nat.le_refl _)).mp z)), fun t ht => ?_, fun t ht => ?_⟩
            · by_cases e : t = i
              · rw [e]; exact List.mem_append_right _ (List.mem_singleton.mpr rfl)
              · exact List.mem_append_left _ (dA t (by omega))
            · rw [List.mem_append, List.mem_singleton, dB t (by omega)]
              exact ⟨fun z => z.elim id (fun z => by omega), .inl⟩
        refine ⟨_, L2, D3, _, rfl, s6'.trans (Stp.put (F := F2 st inn) s6.gh nL2 _), S6.new nL2 s6.gh _, nL20, Cell.new s6.gh nL2 _, B7, dA7, dB7, by rw [List.length_append]; omega⟩
      · rintro σ H3 ⟨x5, L, D2, wss, rfl, s3, S3, nL, c3, B3, dA, dB, wl⟩
        refine ⟨_, rfl, k L D2 wss G2 H3 s3 S3 nL c3 B3 dA ?_⟩
        have : tb.length * (1 + 2 * (ow.length + fo.length)) = tb.length * (1 + (ow.length + fo.length)) + tb.length * (ow.length + fo.length) := by rw [← Nat.mul_add]; congr 1; omega
        omega
end
end OA

/-! ### the drawn text is read as it was drawn -/
namespace OA
open PySem PySem.Spec PyProof.Rows L2
theorem Blk.len {tb : List TB} {ow : List (Nat × Str)} {fo : List (Nat × Str × Str)} {k : Nat} {D : List Nat} {ls : List (List Str)} (h : Blk tb ow fo k D ls) : k ≤ ls.length := by
  induction h with
  | nil => exact Nat.le_refl _
  | tab _ _ ih => rw [List.length_append]; exact Nat.succ_le_succ ih
  | ext _ _ _ ih => rw [List.length_append]; omega
def txtOf (wss : List (List Str)) : Str := Txt.join nlS (wss.map (Txt.join spc))
theorem find_key {α κ : Type} [DecidableEq κ] (key : α → κ) : ∀ {l : List α} {x : α}, x ∈ l → (∀ y ∈ l, key y = key x → y = x) → (l.find? fun y => decide (key y = key x)) = some x
  | [], _, h, _ => by cases h
  | y :: l, x, h, g => by
    rw [List.find?_cons]
    by_cases e : key y = key x
    · rw [decide_eq_true e, g y List.mem_cons_self e]
    · rw [decide_eq_false e]
      rcases List.mem_cons.mp h with h | h
      · rw [h] at e; exact absurd rfl e
      · exact find_key key h fun z hz => g z (List.mem_cons_of_mem _ hz)
theorem nodup_key {α κ : Type} (key : α → κ) : ∀ {l : List α}, (l.map key).Nodup → ∀ {x y : α}, x ∈ l → y ∈ l → key y = key x → y = x
  | [], _, _, _, h, _, _ => by cases h
  | a :: l, nd, x, y, hx, hy, e => by
    rw [List.map_cons, List.nodup_cons] at nd
    rcases List.mem_cons.mp hx with ex | hx
    · rcases List.mem_cons.mp hy with ey | hy
      · rw [ex, ey]
      · exact absurd (List.mem_map.mpr ⟨y, hy, by rw [e, ex]⟩) nd.1
    · rcases List.mem_cons.mp hy with ey | hy
      · exact absurd (List.mem_map.mpr ⟨x, hx, by rw [← e, ey]⟩) nd.1
      · exact nodup_key key nd.2 hx hy e
section
variable {names : List Str} {tb : List TB} (F : For names tb) (W : Words 12 12 names)
include F W
theorem read_ready {ow : List (Nat × Str)} {fo : List (Nat × Str × Str)} (O : OwOk tb ow) (Fo : FoOk tb fo) (one : 1 ≤ tb.length) (six : tb.length ≤ 6) (ol : ow.length ≤ tb.length) (fl : fo.length ≤ 4 * tb.length) {D : List Nat} {wss : List (List Str)} (h : Blk tb ow fo tb.length D wss) (wl : wss.length ≤ tb.length * (1 + 2 * (ow.length + fo.length))) :
    ((wss.map (Txt.join spc)).map (·.length)).sum + (wss.map (Txt.join spc)).length * (Str.ofString "\n").length ≤ 200000 ∧ (txtOf wss).length ≤ 400000 ∧ (Txt.split (txtOf wss) nlS).length ≤ 1000 ∧ (∀ l ∈ Txt.split (txtOf wss) nlS, l.length ≤ 100000 ∧ (splitW l).length ≤ 1000 ∧ ∀ q ∈ splitW l, q.length ≤ 1000) ∧ ReadsL ⟨[], [], []⟩ ((Txt.split (txtOf wss) nlS).map splitW) (schK tb ow fo tb.length D) := by
  have hw := h.wd F W O Fo
  have hl := h.len
  have hb : tb.length * (1 + 2 * (ow.length + fo.length)) ≤ 6 * 61 := Nat.mul_le_mul six (by omega)
  have wne : wss.map (Txt.join spc) ≠ [] := fun e => by
    have : (wss.map (Txt.join spc)).length = 0 := by rw [e]; rfl
    rw [List.length_map] at this
    omega
  have e0 : (Str.ofString "\n").length = 1 := by decide +kernel
  have sm : ((wss.map (Txt.join spc)).map (·.length)).sum ≤ ((wss.map (Txt.join spc)).map (·.length)).length * 427 := sum_le (B := 427) fun x hx => by
    obtain ⟨l, hl, rfl⟩ := List.mem_map.mp hx
    obtain ⟨ws, hws, rfl⟩ := List.mem_map.mp hl
    have := joinW_len (hw ws hws).2.2 (hw ws hws).2.1
    omega
  rw [List.length_map, List.length_map] at sm
  have sp : Txt.split (txtOf wss) nlS = wss.map (Txt.join spc) := split_nl wne fun l hl => by
    obtain ⟨ws, hws, rfl⟩ := List.mem_map.mp hl
    exact joinW_nl (hw ws hws).2.2
  have sw : (wss.map (Txt.join spc)).map splitW = wss := by
    rw [List.map_map]
    conv => rhs; rw [← List.map_id wss]
    exact List.map_congr_left fun ws hws => splitW_join (hw ws hws).1 (hw ws hws).2.2
  refine ⟨by rw [e0, List.length_map]; omega, ?_, by rw [sp, List.length_map]; omega, fun l hl => ?_, ?_⟩
  · have h1 := join_len nlS (wss.map (Txt.join spc))
    have e1 : nlS.length = 1 := by decide +kernel
    rw [e1, List.length_map] at h1
    unfold txtOf
    omega
  · rw [sp] at hl
    obtain ⟨ws, hws, rfl⟩ := List.mem_map.mp hl
    obtain ⟨g1, g2, g3⟩ := hw ws hws
    have := joinW_len g3 g2
    rw [splitW_join g1 g3]
    exact ⟨by omega, by omega, fun q hq => by have := (g3 q hq).len; omega⟩
  · rw [sp, sw]
    exact (h.reads F W O Fo six).2.2.2.2
theorem shortK {t : Nat} {cs : List Nat} (hc : ChI tb t cs) : ShortC (tabsK tb tb.length) (cs.map (nmI tb)) := by
  obtain ⟨cs', hc', h4⟩ := F.ch t hc.lt
  have := hc.uniq hc'
  subst this
  have ix : ∀ n ∈ cs.map (nmI tb), ∃ (c : Nat) (x : TB), tb[c]? = some x ∧ n = x.nm := fun n hn => by
    obtain ⟨c, hcm, rfl⟩ := List.mem_map.mp hn
    have hx : tb[c]? = some _ := List.getElem?_eq_getElem (hc.allLt c hcm)
    exact ⟨c, _, hx, nmI_of hx⟩
  refine ⟨by rw [List.length_map]; omega, fun n hn => ?_, fun n hn => ?_⟩
  · obtain ⟨c, x, hx, rfl⟩ := ix n hn
    have := (nameAt F W hx).len
    omega
  · obtain ⟨c, x, hx, rfl⟩ := ix n hn
    refine ⟨_, tabOf_K F W.nd hx (get_lt hx), ?_, fun z hz => ?_⟩
    · have := (F.cols c x hx).2.1
      show x.cols.length ≤ 100
      omega
    · have := (nameC F W hx hz).len
      omega
theorem own_find {ow : List (Nat × Str)} (O : OwOk tb ow) {D : List Nat} (nd : ((D.flatMap (ofT ow)).map (·.1)).Nodup) {e : Nat × Str} (he : e ∈ ow) (hD : e.1 ∈ D) : (((D.flatMap (ofT ow)).map (ownN tb)).find? fun o => decide (o.1 = nmI tb e.1)) = some (ownN tb e) := by
  have lt : ∀ e ∈ D.flatMap (ofT ow), e.1 < tb.length := fun e he => by
    obtain ⟨d, _, h⟩ := List.mem_flatMap.mp he
    obtain ⟨cs, hc, _⟩ := O.ok e (ofT_mem h).1
    exact hc.lt
  have hm : e ∈ D.flatMap (ofT ow) := List.mem_flatMap.mpr ⟨e.1, hD, List.mem_filter.mpr ⟨he, decide_eq_true rfl⟩⟩
  refine find_key (fun o : Str × Str => o.1) (x := ownN tb e) (List.mem_map.mpr ⟨e, hm, rfl⟩) fun y hy ey => ?_
  obtain ⟨u, hu, rfl⟩ := List.mem_map.mp hy
  have := nmI_inj F W.nd (lt u hu) (lt e hm) ey
  rw [nodup_key (·.1) nd hm hu this]
end
end OA

/-! ### rows of tables; chains, places, lines of tables as plain ones -/
namespace OA
open PySem PySem.Spec PyProof.Rows L2
def rowD (x : TB) : PD := .tup [.str x.nm, .int x.par, sL x.cols]
def tbD (tb : List TB) : PD := .lst (tb.map rowD)
def owR (e : Nat × Str) : PD := .tup [.int (e.1 : Int), .str e.2]
def foR (e : Nat × Str × Str) : PD := .tup [.int (e.1 : Int), .str e.2.1, .str e.2.2]
def owD (ow : List (Nat × Str)) : PD := .lst (ow.map owR)
def foD (fo : List (Nat × Str × Str)) : PD := .lst (fo.map foR)
theorem rep_TBx {G : Hp} : ∀ {tb : List TB} {vs : List V}, RepL G (tb.map rowD) vs → ∃ as, vs = as.map V.ref ∧ TBx G as tb
  | [], vs, h => by have h : vs = [] := h; exact ⟨[], h, .nil⟩
  | x :: tb, vs, h => by
    obtain ⟨v, r, rfl, ⟨a, us, rfl, g1, g2⟩, h2⟩ := h
    obtain ⟨u1, u2, u3, rfl, e1, e2, ⟨c, ws, rfl, g3, g4⟩⟩ := rep3 g2
    have e1 : u1 = .str x.nm := e1
    have e2 : u2 = .int x.par := e2
    subst e1 e2
    rw [g4.strs] at g3
    obtain ⟨as, rfl, p⟩ := rep_TBx h2
    exact ⟨a :: as, rfl, .cons ⟨c, g1, g3⟩ p⟩
theorem rep_TBs {G : Hp} {tb : List TB} {v : V} (h : Rep G (tbD tb) v) : TBs G v tb := by
  obtain ⟨a, vs, rfl, g1, g2⟩ := h
  obtain ⟨as, rfl, p⟩ := rep_TBx g2
  exact ⟨a, as, rfl, g1, p⟩
theorem TBx.rep {G : Hp} {as : List Addr} {tb : List TB} (h : TBx G as tb) : RepL G (tb.map rowD) (as.map V.ref) := by
  induction h with
  | nil => exact rfl
  | cons h1 _ ih =>
    obtain ⟨c, g1, g2⟩ := h1
    exact RepL.cons ⟨_, _, rfl, g1, RepL.cons rfl (RepL.cons rfl (RepL.one ⟨c, _, rfl, g2, RepL.ofStrs _⟩))⟩ ih
theorem TBs.rep {G : Hp} {tb : List TB} {v : V} (h : TBs G v tb) : Rep G (tbD tb) v := by
  obtain ⟨D, as, rfl, g1, g2⟩ := h
  exact ⟨D, _, rfl, g1, g2.rep⟩
theorem rep_TBsH {G H O : Hp} {M : MH} {tb : List TB} {d : PD} {v : V} (w : Wo G H M O) (r : Rep G d v) (h : sqOf M d = some (tb.map rowD)) : TBs H v tb := by
  obtain ⟨a, vs, rfl, g1, g2⟩ := sq_at w r h
  obtain ⟨as, rfl, p⟩ := rep_TBx g2
  exact ⟨a, as, rfl, g1, Paired.mapP p fun a x => TBr.mono w.gh⟩
def aGC (d : Nat) : ASp := fun ds M Q _ => ∃ (e : PD) (t : Nat) (tb : List TB) (cs : List Nat), ds = [e, .int (t : Int)] ∧ sqOf M e = some (tb.map rowD) ∧ ChI tb t cs ∧ cs.length ≤ d ∧ d ≤ 1000 ∧ Q (.lst (cs.map fun (c : Nat) => PD.int (c : Int))) M
theorem nats_vals (xs : List Nat) : (xs.map fun (c : Nat) => PD.int (c : Int)) = (xs.map natV).map PD.val := by rw [List.map_map]; rfl
theorem b_gc {d : Nat} {vs : List V} {H : Hp} {Q : VK} {E : XK} (h : conc (aGC d) vs H Q E) : spGC d vs H Q E := by
  obtain ⟨G, O, M, ds, AQ, AX, w, r, ⟨e, t, tb, cs, rfl, he, hc, l1, l2, q⟩, k, _⟩ := h
  obtain ⟨v, u, rfl, e1, e2⟩ := rep2 r
  have e2 : u = .int (t : Int) := e2
  subst e2
  refine ⟨v, t, tb, cs, rfl, rep_TBsH w e1 he, hc, l1, l2, fun p H' s np hp => ?_⟩
  obtain ⟨w2, s2⟩ := w.lay2 s np hp
  exact k _ (.lst (cs.map fun (c : Nat) => PD.int (c : Int))) _ H' M s2 w2 ⟨p, _, rfl, upd_same, by rw [nats_vals]; exact RepL.ofVals _⟩ q
def aGP (d : Nat) : ASp := fun ds M Q _ => ∃ (e : PD) (t : Nat) (tb : List TB) (cs : List Nat), ds = [e, .int (t : Int)] ∧ sqOf M e = some (tb.map rowD) ∧ ChI tb t cs ∧ cs.length ≤ d ∧ d ≤ 100 ∧ Shrt tb ∧ Q (sL (plc tb cs)) M
theorem b_gp {d : Nat} {vs : List V} {H : Hp} {Q : VK} {E : XK} (h : conc (aGP d) vs H Q E) : spGP d vs H Q E := by
  obtain ⟨G, O, M, ds, AQ, AX, w, r, ⟨e, t, tb, cs, rfl, he, hc, l1, l2, sh, q⟩, k, _⟩ := h
  obtain ⟨v, u, rfl, e1, e2⟩ := rep2 r
  have e2 : u = .int (t : Int) := e2
  subst e2
  refine ⟨v, t, tb, cs, rfl, rep_TBsH w e1 he, hc, l1, l2, sh, fun p H' s np hp => ?_⟩
  obtain ⟨w2, s2⟩ := w.lay2 s np hp
  exact k _ (sL (plc tb cs)) _ H' M s2 w2 ⟨p, _, rfl, upd_same, RepL.ofStrs _⟩ q
def aTL : ASp := fun ds M Q _ => ∃ (e : PD) (t : Nat) (tb : List TB) (x : TB), ds = [e, .int (t : Int)] ∧ sqOf M e = some (tb.map rowD) ∧ tb[t]? = some x ∧ Shrt tb ∧ (x.par < 0 ∨ x.par < tb.length) ∧ Q (.str (Txt.join spc (tlW tb t x))) M
theorem b_tl {vs : List V} {H : Hp} {Q : VK} {E : XK} (h : conc aTL vs H Q E) : spTL vs H Q E := by
  obtain ⟨G, O, M, ds, AQ, AX, w, r, ⟨e, t, tb, x, rfl, he, hx, sh, hp, q⟩, k, _⟩ := h
  obtain ⟨v, u, rfl, e1, e2⟩ := rep2 r
  have e2 : u = .int (t : Int) := e2
  subst e2
  exact ⟨v, t, tb, x, rfl, rep_TBsH w e1 he, hx, sh, hp, fun H' s => k _ (.val _) G H' M (Same.refl _) (w.same s) rfl q⟩
end OA

/-! ### drawn schemas: the old promises as plain ones -/
namespace OA
open PySem PySem.Spec PyProof.Rows L2
theorem rep_Rwx {β : Type} {f : β → List V} {g : β → PD} (hg : ∀ e, g e = .tup ((f e).map PD.val)) {G : Hp} : ∀ {l : List β} {vs : List V}, RepL G (l.map g) vs → ∃ as, vs = as.map V.ref ∧ Rwx f G as l
  | [], vs, h => by have h : vs = [] := h; exact ⟨[], h, .nil⟩
  | x :: l, vs, h => by
    obtain ⟨v, r, rfl, h1, h2⟩ := h
    have h1 : Rep G (g x) v := h1
    rw [hg] at h1
    obtain ⟨a, us, rfl, g1, g2⟩ := h1
    rw [g2.vals] at g1
    obtain ⟨as, rfl, p⟩ := rep_Rwx hg h2
    exact ⟨a :: as, rfl, .cons g1 p⟩
theorem Rwx.rep {β : Type} {f : β → List V} {g : β → PD} (hg : ∀ e, g e = .tup ((f e).map PD.val)) {G : Hp} {as : List Addr} {l : List β} (h : Rwx f G as l) : RepL G (l.map g) (as.map V.ref) := by
  induction h with
  | nil => exact rfl
  | @cons a x _ _ h1 _ ih =>
    refine RepL.cons ?_ ih
    show Rep G (g x) (.ref a)
    rw [hg]
    exact ⟨a, _, rfl, h1, RepL.ofVals _⟩
theorem rep_Rws {β : Type} {f : β → List V} {g : β → PD} (hg : ∀ e, g e = .tup ((f e).map PD.val)) {G : Hp} {l : List β} {v : V} (h : Rep G (.lst (l.map g)) v) : Rws f G v l := by
  obtain ⟨a, vs, rfl, g1, g2⟩ := h
  obtain ⟨as, rfl, p⟩ := rep_Rwx hg g2
  exact ⟨a, as, rfl, g1, p⟩
theorem Rws.rep {β : Type} {f : β → List V} {g : β → PD} (hg : ∀ e, g e = .tup ((f e).map PD.val)) {G : Hp} {l : List β} {v : V} (h : Rws f G v l) : Rep G (.lst (l.map g)) v := by
  obtain ⟨D, as, rfl, g1, g2⟩ := h
  exact ⟨D, _, rfl, g1, g2.rep hg⟩
theorem owR_eq (e : Nat × Str) : owR e = .tup ((owF e).map PD.val) := rfl
theorem foR_eq (e : Nat × Str × Str) : foR e = .tup ((foF e).map PD.val) := rfl
def aForest : ASp := fun ds M Q _ => ∃ (st : Addr) (names : List Str) (m : Nat), ds = [.ptr st, sL names, .int m] ∧ Drw M st ∧ Words 12 12 names ∧ 1 ≤ m ∧ m ≤ 12 ∧ ∀ tb, For names tb → 1 ≤ tb.length → tb.length ≤ m → Q (tbD tb) M
theorem b_forest {vs : List V} {H : Hp} {Q : VK} {E : XK} (h : conc aForest vs H Q E) : spForest vs H Q E := by
  obtain ⟨G, O, M, ds, AQ, AX, w, r, ⟨st, names, m, rfl, ⟨inn, d1, d2⟩, W, m1, m2, q⟩, k, _⟩ := h
  obtain ⟨v, u, t, rfl, e1, e2, e3⟩ := rep3 r
  have e1 : v = .ref st := e1
  have e3 : t = .int m := e3
  subst e1 e3
  exact ⟨G, st, inn, u, names, m, rfl, w.gh, w.stAt d1 d2, rep_Ss e2, W, m1, m2, fun v tb G' H' s S B F o1 o2 => k _ (tbD tb) G' H' M s.gg (s.wo w d1 d2 S) B.rep (q tb F o1 o2)⟩
def aOwners : ASp := fun ds M Q _ => ∃ (st : Addr) (names : List Str) (tb : List TB), ds = [.ptr st, tbD tb] ∧ Drw M st ∧ For names tb ∧ Words 12 12 names ∧ ∀ ow, OwOk tb ow → ow.length ≤ tb.length → Q (owD ow) M
theorem b_owners {vs : List V} {H : Hp} {Q : VK} {E : XK} (h : conc aOwners vs H Q E) : spOwners vs H Q E := by
  obtain ⟨G, O, M, ds, AQ, AX, w, r, ⟨st, names, tb, rfl, ⟨inn, d1, d2⟩, F, W, q⟩, k, _⟩ := h
  obtain ⟨v, u, rfl, e1, e2⟩ := rep2 r
  have e1 : v = .ref st := e1
  subst e1
  exact ⟨G, st, inn, u, names, tb, rfl, w.gh, w.stAt d1 d2, rep_TBs e2, F, W, fun v ow G' H' s S B F o1 => k _ (owD ow) G' H' M s.gg (s.wo w d1 d2 S) (B.rep owR_eq) (q ow F o1)⟩
def aFollows : ASp := fun ds M Q _ => ∃ (st : Addr) (names : List Str) (tb : List TB) (m : Nat), ds = [.ptr st, tbD tb, .int m] ∧ Drw M st ∧ For names tb ∧ Words 12 12 names ∧ 1 ≤ m ∧ m ≤ 1000 ∧ ∀ fo, FoOk tb fo → fo.length ≤ 4 * tb.length → Q (foD fo) M
theorem b_follows {vs : List V} {H : Hp} {Q : VK} {E : XK} (h : conc aFollows vs H Q E) : spFollows vs H Q E := by
  obtain ⟨G, O, M, ds, AQ, AX, w, r, ⟨st, names, tb, m, rfl, ⟨inn, d1, d2⟩, F, W, m1, m2, q⟩, k, _⟩ := h
  obtain ⟨v, u, t, rfl, e1, e2, e3⟩ := rep3 r
  have e1 : v = .ref st := e1
  have e3 : t = .int m := e3
  subst e1 e3
  exact ⟨G, st, inn, u, names, tb, m, rfl, w.gh, w.stAt d1 d2, rep_TBs e2, F, W, m1, m2, fun v fo G' H' s S B F o1 => k _ (foD fo) G' H' M s.gg (s.wo w d1 d2 S) (B.rep foR_eq) (q fo F o1)⟩
def aSLines : ASp := fun ds M Q _ => ∃ (st : Addr) (names : List Str) (tb : List TB) (ow : List (Nat × Str)) (fo : List (Nat × Str × Str)), ds = [.ptr st, tbD tb, owD ow, foD fo] ∧ Drw M st ∧ For names tb ∧ Words 12 12 names ∧ OwOk tb ow ∧ FoOk tb fo ∧ ow.length ≤ 12 ∧ fo.length ≤ 48 ∧
  ∀ (D : List Nat) (wss : List (List Str)), Blk tb ow fo tb.length D wss → (∀ t, t < tb.length → t ∈ D) → wss.length ≤ tb.length * (1 + 2 * (ow.length + fo.length)) → Q (sL (wss.map (Txt.join spc))) M
theorem b_slines {vs : List V} {H : Hp} {Q : VK} {E : XK} (h : conc aSLines vs H Q E) : spSLines vs H Q E := by
  obtain ⟨G, O, M, ds, AQ, AX, w, r, ⟨st, names, tb, ow, fo, rfl, ⟨inn, d1, d2⟩, F, W, oo, ff, l1, l2, q⟩, k, _⟩ := h
  obtain ⟨v, u, t, z, rfl, e1, e2, e3, e4⟩ := rep4 r
  have e1 : v = .ref st := e1
  subst e1
  refine ⟨G, st, inn, u, t, z, names, tb, ow, fo, rfl, w.gh, w.stAt d1 d2, rep_TBs e2, rep_Rws owR_eq e3, rep_Rws foR_eq e4, F, W, oo, ff, l1, l2, fun p D wss G' H' s S np c B dA wl => ?_⟩
  have w2 := s.wo w d1 d2 S
  have mp : M p = none := w.fresh np
  have op : O p = none := w.oh.free np
  have s3 : Same G' (upd G' p (.lst ((wss.map (Txt.join spc)).map V.str))) := Same.lay c.no _
  refine k _ (sL (wss.map (Txt.join spc))) (upd G' p (.lst ((wss.map (Txt.join spc)).map V.str))) H' M (s.gg.trans s3) ⟨fun b o e => ?_, w2.oh, fun b o e => ?_, fun b m e => ?_⟩ ⟨p, _, rfl, upd_same, RepL.ofStrs _⟩ (q D wss B dA wl)
  · by_cases hb : b = p
    · subst hb; rw [upd_same] at e; cases e; exact c.at_
    · rw [upd_ne hb] at e; exact w2.gh b o e
  · rw [upd_ne (ne_of_none e op)]; exact w2.og b o e
  · obtain ⟨o, z1, z2, z3, z4⟩ := w2.mu b m e
    exact ⟨o, z1, by rw [upd_ne (fun z => by rw [z, mp] at e; cases e)]; exact z2, z3, z4.mono s3⟩
end OA

/-! ### valid lines are read -/
namespace OA
open PySem PySem.Spec PyProof.Rows L2
theorem dupC_nodup : ∀ {l pre : List Str}, (pre ++ l).Nodup → dupC pre l = none
  | [], _, _ => rfl
  | c :: l, pre, h => by
    have hc : c ∉ pre := fun hm => by
      rw [List.nodup_append] at h
      exact h.2.2 c hm c List.mem_cons_self rfl
    rw [dupC_step hc]
    exact dupC_nodup (by rw [List.append_assoc]; exact h)
theorem posErr_ok {ts : List Tab} {t : Str} {ns : List Str} (h : PosOk ts t ns) : posErr ts t ns = none := by
  induction h with
  | @last n c tb h1 h2 =>
    show (if c ∈ colsOf ts n then none else some c) = none
    rw [colsOf_some h1, if_pos h2]
  | @up n p tb r h1 h2 h3 _ ih => rw [posErr_cons _ _ _ h3, parOf_some h1, if_pos h2]; exact ih
theorem rdLine_cons (s : Sch) (w : Str) (r : List Str) : rdLine s (w :: r) = if w = Str.ofString "root" ∧ 1 < r.length ∧ r.all isNameB = true then rdTable s (r.getD 0 Str.empty) none (r.drop 1)
    else if w = Str.ofString "table" ∧ 2 < r.length ∧ r.all isNameB = true then rdTable s (r.getD 0 Str.empty) (some (r.getD 1 Str.empty)) (r.drop 2)
    else if w = Str.ofString "owner" ∧ r.length = 2 ∧ isNameB (r.getD 0 Str.empty) = true ∧ isPathB (r.getD 1 Str.empty) = true then rdOwner s (r.getD 0 Str.empty) (r.getD 1 Str.empty)
    else if w = Str.ofString "follow" ∧ r.length = 3 ∧ r.all isNameB = true then rdFollow s (r.getD 0 Str.empty) (r.getD 1 Str.empty) (r.getD 2 Str.empty)
    else .error .bad := rfl
theorem valid_rd {s s' : Sch} {ws : List Str} (w : WF s) (h : ValidLine s ws s') : rdLine s ws = .ok s' := by
  have tbl : ∀ {t : Str} {par : Option Str} {cols : List Str}, tabOf s.tabs t = none → (∀ p, par = some p → ∃ cs, ChainOf s.tabs p cs ∧ cs.length < 4) → cols.Nodup → cols.length ≤ 4 → s.tabs.length < 6 → rdTable s t par cols = .ok { s with tabs := s.tabs ++ [⟨t, par, cols⟩] } := fun {t par cols} h1 h2 h3 h4 h5 => by
    have two : rdT2 s t par cols = .ok { s with tabs := s.tabs ++ [⟨t, par, cols⟩] } := by
      unfold rdT2
      rw [dupC_nodup (pre := []) h3]
      show rdT3 s t par cols = _
      unfold rdT3
      rw [if_neg (by omega)]
      cases par with
      | none => rfl
      | some p =>
        obtain ⟨cs, c1, c2⟩ := h2 p rfl
        show (if chLen s.tabs 7 p = 4 then _ else _) = _
        rw [chLen_of c1 7 (by omega), if_neg (by omega)]
    unfold rdTable
    rw [h1]
    show rdT1 s t par cols = _
    unfold rdT1
    cases par with
    | none => exact two
    | some p =>
      obtain ⟨cs, c1, c2⟩ := h2 p rfl
      have hp : (tabOf s.tabs p).isSome = true := by
        cases c1 with
        | root g _ => rw [g]; rfl
        | up g _ _ => rw [g]; rfl
      show (if (tabOf s.tabs p).isSome then _ else _) = _
      rw [if_pos hp]
      exact two
  cases h with
  | @root t cols h1 h2 h3 h4 h5 h6 =>
    have hl : 1 ≤ cols.length := by cases cols with | nil => exact absurd rfl h1 | cons _ _ => simp
    rw [rdLine_cons, if_pos ⟨rfl, by simp; omega, h2⟩]
    exact tbl h3 (fun p e => by cases e) h4 h5 h6
  | @table t p cols cs h1 h2 h3 h4 h5 h6 h7 h8 =>
    have hl : 1 ≤ cols.length := by cases cols with | nil => exact absurd rfl h1 | cons _ _ => simp
    rw [rdLine_cons, if_neg (fun z => absurd z.1 (by decide +kernel)), if_pos ⟨rfl, by simp; omega, h2⟩]
    exact tbl h3 (fun p' e => by cases e; exact ⟨cs, h4, h5⟩) h6 h7 h8
  | @owner t z h1 h2 h3 h4 h5 h6 h7 h8 =>
    have hp : isPathB z = true := by
      unfold isPathB
      have : 1 ≤ (Txt.split z dotS).length := by
        have := (dot_bound z).2.2
        cases hh : Txt.split z dotS with
        | nil => exact absurd hh this
        | cons _ _ => simp
      rw [decide_eq_true this, h2]
      rfl
    rw [rdLine_cons, if_neg (fun y => absurd y.1 (by decide +kernel)), if_neg (fun y => absurd y.1 (by decide +kernel)), if_pos ⟨rfl, rfl, h1, hp⟩]
    show rdOwner s t z = _
    unfold rdOwner
    rw [if_neg (by rw [h6]; simp), h7, if_neg (by simp), posErr_ok h8]
  | @follow t c u p tb tp h1 h2 h3 h4 h5 h6 h7 h8 h9 =>
    rw [rdLine_cons, if_neg (fun y => absurd y.1 (by decide +kernel)), if_neg (fun y => absurd y.1 (by decide +kernel)), if_neg (fun y => absurd y.1 (by decide +kernel)), if_pos ⟨rfl, rfl, by simp [h1, h2, h3]⟩]
    show rdFollow s t c u = _
    unfold rdFollow
    rw [h4, if_neg (by simp), colsOf_some h4, if_neg (by simpa using h5), h6, if_neg (by simp), parOf_some h4, h7]
    show (if u ∈ colsOf s.tabs p then _ else _) = _
    rw [colsOf_some h8, if_pos h9]
theorem reads_rd {s s' : Sch} {l : List (List Str)} (h : ReadsL s l s') : WF s → ∀ i, rdAll s i l = .ok s' ∧ WF s' := by
  induction h with
  | nil => intro w i; exact ⟨rfl, w⟩
  | cons v _ ih =>
    intro w i
    have e := valid_rd w v
    obtain ⟨h1, h2⟩ := ih (rdLine_ok w e).1 (i + 1)
    refine ⟨?_, h2⟩
    show (match rdLine _ _ with | .error e => _ | .ok s' => _) = _
    rw [e]
    exact h1
end OA

/-! ### texts of drawn schemas can be read -/
namespace OA
open PySem PySem.Spec PyProof.Rows L2
def plainL (tb : List TB) (k : Nat) : List (List Str) := (List.range k).map fun t => tlW tb t (tb.getD t ⟨Str.empty, 0, []⟩)
theorem get_D {tb : List TB} {k : Nat} (h : k < tb.length) : tb[k]? = some (tb.getD k ⟨Str.empty, 0, []⟩) := by
  rw [List.getD_eq_getElem?_getD, List.getElem?_eq_getElem h]; rfl
theorem blk_plain {tb : List TB} : ∀ k, k ≤ tb.length → Blk tb [] [] k [] (plainL tb k)
  | 0, _ => .nil
  | k + 1, h => by
    have b := blk_plain (tb := tb) k (by omega)
    have := Blk.tab b (get_D (tb := tb) (k := k) (by omega))
    have e : plainL tb (k + 1) = plainL tb k ++ [tlW tb k (tb.getD k ⟨Str.empty, 0, []⟩)] := by unfold plainL; rw [List.range_succ, List.map_append]; rfl
    rw [e]
    exact this
/-- what Schema.read wants of a text that can be read -/
theorem read_of {names : List Str} {tb : List TB} {ow : List (Nat × Str)} {fo : List (Nat × Str × Str)} {D : List Nat} {wss : List (List Str)} (FF : For names tb) (W : Words 12 12 names) (OO : OwOk tb ow) (FO : FoOk tb fo) (one : 1 ≤ tb.length) (six : tb.length ≤ 6) (ol : ow.length ≤ tb.length) (fl : fo.length ≤ 4 * tb.length) (b : Blk tb ow fo tb.length D wss) (wl : wss.length ≤ tb.length * (1 + 2 * (ow.length + fo.length))) : (txtOf wss).length ≤ 400000 ∧ (Txt.split (txtOf wss) nlS).length ≤ 1000 ∧ (∀ l ∈ Txt.split (txtOf wss) nlS, (splitW l).length ≤ 1000 ∧ l.length ≤ 100000 ∧ ∀ q ∈ splitW l, q.length ≤ 1000) ∧ rdAll ⟨[], [], []⟩ 1 ((Txt.split (txtOf wss) nlS).map splitW) = .ok (schK tb ow fo tb.length D) := by
  obtain ⟨sm, tl, tn, tw, RR⟩ := read_ready FF W OO FO one six ol fl b wl
  exact ⟨tl, tn, fun l hl => ⟨(tw l hl).2.1, (tw l hl).1, (tw l hl).2.2⟩, (reads_rd RR WF.nil 1).1⟩
end OA

/-! ### schema_told: what reading a schema tells -/
namespace OA
open PySem PySem.Spec PyProof.Rows L2
def EA.ec (ea : EA) : EC := ⟨ea.BadLine, ea.DuplicateName, ea.UnknownName, ea.TooMany⟩
def thrD (i : Int) : SErr → PD
  | .bad => namedD "BadLine" i none
  | .dup n => namedD "DuplicateName" i (some n)
  | .unk n => namedD "UnknownName" i (some n)
  | .many => namedD "TooMany" i none
def rdTxt (txt : Str) : Except (Nat × SErr) Sch := rdAll ⟨[], [], []⟩ 1 ((Txt.split txt nlS).map splitW)
structure TxtOk (txt : Str) : Prop where
  l : txt.length ≤ 400000
  n : (Txt.split txt nlS).length ≤ 1000
  w : ∀ l ∈ Txt.split txt nlS, (splitW l).length ≤ 1000 ∧ l.length ≤ 100000 ∧ ∀ q ∈ splitW l, q.length ≤ 1000
def aTold : ASp := fun ds M Q _ => ∃ txt : Str, ds = [.str txt] ∧ TxtOk txt ∧ (∀ s, rdTxt txt = .ok s → Q .non M) ∧ (∀ (i : Nat) e, rdTxt txt = .error (i, e) → Q (thrD i e) M)
section
variable {P : Program} {w : World} {K : PySem.W.Frag} {mg : Str → Option Value} {base : Heap}
theorem sc_schema_told : FnScope ["_law_text", "e"] ["_law_text"] (defScope (topS 27)) := ⟨rfl, rfl, rfl, by decide +kernel, rfl, by decide +kernel, by decide +kernel⟩
theorem ok_schema_told {f C : Addr} {ea : EA} {fd : FuncData} (F : Fun K "_law_schema_told" "_law_schema_told" (topS 27) f fd) (T : Txt K mg) (TS : STxt K mg C) (TE : ErT K mg ea) (c_get_named : CalleeW P w K mg base "_law_get_named" ["_law_error", "_law_word"] (conc (aNamed K ea)) 1) (c_Schema_read : StaticX P w K mg base C "read" ["text"] (conc (aRead C ea.ec)) 7) : FnOk P w K mg base CX0 8 f fd ["_law_text"] (conc aTold) := by
  refine F.ok sc_schema_told (conc_len fun ds M AQ AX h => ?_) (fun cdv A outer s H vs Q E hr h => ⟨_, (pss_cons (ps_try_mix (Wout := fun _ _ _ _ => False) K rfl rfl rfl rfl sc_schema_told.nd takes0
      (fun W pn xe tk po => (pss_one (ps_expr (pe_stX c_Schema_read hr (by decide) tk (pe_glob (v := .ref C) rfl TS.g rfl) (pa_cons (pv 0) pa_nil)))))
      (HsOk.as (i := 1) (c := .ref ea.BadLine) ⟨rfl, by decide, Or.inl TE.g_BadLine⟩ rfl rfl (fun a pn => (pss_one (ps_ret (pe_coW c_get_named (roomM hr) (by decide) (by rfl) (pa_cons (pv 1) (pa_cons pe_str pa_nil))))))
        (HsOk.as (i := 1) (c := .ref ea.DuplicateName) ⟨rfl, by decide, Or.inl TE.g_DuplicateName⟩ rfl rfl (fun a pn => (pss_one (ps_ret (pe_coW c_get_named (roomM hr) (by decide) (by rfl) (pa_cons (pv 1) (pa_cons pe_str pa_nil))))))
        (HsOk.as (i := 1) (c := .ref ea.UnknownName) ⟨rfl, by decide, Or.inl TE.g_UnknownName⟩ rfl rfl (fun a pn => (pss_one (ps_ret (pe_coW c_get_named (roomM hr) (by decide) (by rfl) (pa_cons (pv 1) (pa_cons pe_str pa_nil))))))
        (HsOk.as (i := 1) (c := .ref ea.TooMany) ⟨rfl, by decide, Or.inl TE.g_TooMany⟩ rfl rfl (fun a pn => (pss_one (ps_ret (pe_coW c_get_named (roomM hr) (by decide) (by rfl) (pa_cons (pv 1) (pa_cons pe_str pa_nil))))))
        HsOk.nil)))))
      (pss_one (ps_ret pe_non))), body_of (W := W0) inferInstance h fun ds M AQ AX h => ?_⟩)
  · obtain ⟨txt, rfl, _⟩ := h
    rfl
  · obtain ⟨txt, rfl, tx, q, qx⟩ := h
    refine ⟨rfl, txt, rfl, tx.l, tx.n, tx.w, fun s hs _ => q s hs, fun i e he => ?_⟩
    have q := qx i e he
    cases e with
    | bad => exact ⟨true, TE.e_BadLine_BadLine, ea.BadLine, i, _, none, rfl, ⟨TE.x_BadLine, TE.f_BadLine, TE.k_BadLine, TE.n_BadLine_line⟩, (fun z => nomatch z), by decide +kernel, q⟩
    | dup n => exact ⟨false, TE.e_DuplicateName_BadLine, true, TE.e_DuplicateName_DuplicateName, ea.DuplicateName, i, _, some n, rfl, ⟨TE.x_DuplicateName, TE.f_DuplicateName, TE.k_DuplicateName, TE.n_DuplicateName_line⟩, (fun _ => TE.n_DuplicateName_name), (by show isLW _ = false; decide +kernel), q⟩
    | unk n => exact ⟨false, TE.e_UnknownName_BadLine, false, TE.e_UnknownName_DuplicateName, true, TE.e_UnknownName_UnknownName, ea.UnknownName, i, _, some n, rfl, ⟨TE.x_UnknownName, TE.f_UnknownName, TE.k_UnknownName, TE.n_UnknownName_line⟩, (fun _ => TE.n_UnknownName_name), (by show isLW _ = false; decide +kernel), q⟩
    | many => exact ⟨false, TE.e_TooMany_BadLine, false, TE.e_TooMany_DuplicateName, false, TE.e_TooMany_UnknownName, true, TE.e_TooMany_TooMany, ea.TooMany, i, _, none, rfl, ⟨TE.x_TooMany, TE.f_TooMany, TE.k_TooMany, TE.n_TooMany_line⟩, (fun z => nomatch z), by decide +kernel, q⟩
end
end OA

/-! ### texts of lines, what reading them tells -/
namespace OA
open PySem PySem.Spec PyProof.Rows L2
theorem ok_ne {α β : Type} {a : Except α β} {b : β} {e : α} (h : a = .ok b) (g : a = .error e) : False := by rw [h] at g; cases g
theorem end_bl {M : MH} {b c : Bool} (h : b = c) : fS0 (sEq false) (.bl b) (.bl c) M fun d _ => d = PD.bl true := by subst h; cases b <;> rfl
theorem rdAll_err {s : Sch} {i : Nat} {ws : List Str} {e : SErr} {r : List (List Str)} (h : rdLine s ws = .error e) : rdAll s i (ws :: r) = .error (i, e) := by
  unfold rdAll
  rw [h]
theorem rdAll_step {s s' : Sch} {i : Nat} {ws : List Str} {r : List (List Str)} (h : rdLine s ws = .ok s') : rdAll s i (ws :: r) = rdAll s' (i + 1) r := by
  conv => lhs; unfold rdAll
  rw [h]
theorem rdAll_ok_app {s' : Sch} {b : List (List Str)} : ∀ {a : List (List Str)} {s : Sch} {i : Nat}, rdAll s i a = .ok s' → rdAll s i (a ++ b) = rdAll s' (i + a.length) b
  | [], s, i, h => by cases h; rfl
  | ws :: a, s, i, h => by
    rw [List.cons_append]
    cases e : rdLine s ws with
    | error x => rw [rdAll_err e] at h; cases h
    | ok s1 =>
      rw [rdAll_step e] at h ⊢
      rw [rdAll_ok_app (a := a) h, List.length_cons]
      have e : i + 1 + a.length = i + (a.length + 1) := by omega
      rw [e]
theorem rdAll_err_app {i j : Nat} {e : SErr} {b : List (List Str)} : ∀ {a : List (List Str)} {s : Sch}, rdAll s i a = .error (j, e) → rdAll s i (a ++ b) = .error (j, e)
  | [], s, h => by cases h
  | ws :: a, s, h => by
    rw [List.cons_append]
    cases e1 : rdLine s ws with
    | error x => rw [rdAll_err e1] at h ⊢; exact h
    | ok s1 => rw [rdAll_step e1] at h ⊢; exact rdAll_err_app h
structure LnOk (l : Str) : Prop where
  nl : 10 ∉ l.cps.toList
  len : l.length ≤ 990
theorem lines_sum {ls : List Str} (h : ∀ l ∈ ls, LnOk l) (n : ls.length ≤ 400) : (ls.map (·.length)).sum + ls.length * nlS.length ≤ 400000 := by
  have h2 : (ls.map (·.length)).sum ≤ (ls.map (·.length)).length * 990 := sum_le (B := 990) fun x hx => by
    obtain ⟨w, hw, rfl⟩ := List.mem_map.mp hx
    exact (h w hw).len
  rw [List.length_map] at h2
  have e : nlS.length = 1 := by decide +kernel
  rw [e]
  omega
theorem lines_sum' {ls : List Str} (h : ∀ l ∈ ls, LnOk l) (n : ls.length ≤ 400) : (ls.map (·.length)).sum + ls.length * (Str.ofString "\n").length ≤ 16777216 := by
  have := lines_sum h n
  have e : (Str.ofString "\n").length = nlS.length := by decide +kernel
  rw [e]
  omega
theorem lines_ok {ls : List Str} (ne : ls ≠ []) (h : ∀ l ∈ ls, LnOk l) (n : ls.length ≤ 400) : TxtOk (Txt.join nlS ls) ∧ Txt.split (Txt.join nlS ls) nlS = ls := by
  have sp := split_nl ne fun l hl => (h l hl).nl
  refine ⟨⟨?_, by rw [sp]; omega, fun l hl => ?_⟩, sp⟩
  · have h1 := join_len nlS ls
    have := lines_sum h n
    omega
  · rw [sp] at hl
    have hl := (h l hl).len
    obtain ⟨b1, b2⟩ := splitW_bound l
    exact ⟨by omega, by omega, fun q hq => by have := b2 q hq; omega⟩
theorem words_ln {ws : List Str} (h : ∀ w ∈ ws, Wd w) (n : ws.length ≤ 16) : LnOk (Txt.join spc ws) := ⟨joinW_nl h, by have := joinW_len h n; omega⟩
/-- lines of words -/
structure WssOk (wss : List (List Str)) : Prop where
  ne : wss ≠ []
  n : wss.length ≤ 400
  w : ∀ ws ∈ wss, ws ≠ [] ∧ ws.length ≤ 16 ∧ ∀ w ∈ ws, Wd w
theorem WssOk.ln {wss : List (List Str)} (h : WssOk wss) : ∀ l ∈ wss.map (Txt.join spc), LnOk l := fun l hl => by
  obtain ⟨ws, hw, rfl⟩ := List.mem_map.mp hl
  exact words_ln (h.w ws hw).2.2 (h.w ws hw).2.1
theorem WssOk.ok {wss : List (List Str)} (h : WssOk wss) : TxtOk (txtOf wss) := (lines_ok (by intro z; exact h.ne (List.map_eq_nil_iff.mp z)) h.ln (by rw [List.length_map]; exact h.n)).1
theorem WssOk.rd {wss : List (List Str)} (h : WssOk wss) : rdTxt (txtOf wss) = rdAll ⟨[], [], []⟩ 1 wss := by
  unfold rdTxt
  have e : Txt.split (txtOf wss) nlS = wss.map (Txt.join spc) := (lines_ok (by intro z; exact h.ne (List.map_eq_nil_iff.mp z)) h.ln (by rw [List.length_map]; exact h.n)).2
  rw [e, List.map_map]
  congr 1
  conv => rhs; rw [← List.map_id wss]
  exact List.map_congr_left fun ws hws => splitW_join (h.w ws hws).1 (h.w ws hws).2.2
theorem WssOk.sum {wss : List (List Str)} (h : WssOk wss) : ((wss.map (Txt.join spc)).map (·.length)).sum + (wss.map (Txt.join spc)).length * (Str.ofString "\n").length ≤ 16777216 := lines_sum' h.ln (by rw [List.length_map]; exact h.n)
theorem WssOk.snoc {wss : List (List Str)} {ws : List Str} (h : ∀ l ∈ wss, l ≠ [] ∧ l.length ≤ 16 ∧ ∀ w ∈ l, Wd w) (n : wss.length < 400) (h1 : ws ≠ []) (h2 : ws.length ≤ 16) (h3 : ∀ w ∈ ws, Wd w) : WssOk (wss ++ [ws]) :=
  ⟨by simp, by rw [List.length_append]; exact n, fun l hl => by
    rcases List.mem_append.mp hl with hl | hl
    · exact h l hl
    · rw [List.mem_singleton.mp hl]; exact ⟨h1, h2, h3⟩⟩
theorem sum_words {ws : List Str} {n : Nat} (h : ∀ w ∈ ws, w.length ≤ 100) (hn : ws.length ≤ n) (n1 : n ≤ 1000) : (ws.map (·.length)).sum + ws.length * (Str.ofString " ").length ≤ 16777216 := by
  have h2 : (ws.map (·.length)).sum ≤ (ws.map (·.length)).length * 100 := sum_le (B := 100) fun x hx => by
    obtain ⟨w, hw, rfl⟩ := List.mem_map.mp hx
    exact h w hw
  rw [List.length_map] at h2
  have e : (Str.ofString " ").length = 1 := by decide +kernel
  rw [e]
  omega
/-! what is told, as data -/
def tN (wd : Str) (i : Int) : Option Str → PyData
  | none => .tuple [.str wd, .int i]
  | some n => .tuple [.str wd, .int i, .str n]
theorem named_pd {M : MH} (wd : Str) (i : Int) : ∀ o, PyD M (namedD wd i o) (tN wd i o)
  | none => .tup (.cons (.str _) (.cons (.int _) .nil))
  | some _ => .tup (.cons (.str _) (.cons (.int _) (.cons (.str _) .nil)))
theorem asc_lay {x : Str} (h : Asc x) : PyData.canLay0 (.str x) = true := by
  have := lay_strs (xs := [x]) fun y hy => by rw [List.mem_singleton.mp hy]; exact h
  have e : (PyData.canLay0 (.str x) && true) = true := this
  rwa [Bool.and_true] at e
theorem tN_sh {wd : Str} {i : Int} (h : Asc wd) : ∀ {o : Option Str}, (∀ n, o = some n → Asc n) → SeqAt.shaped (tN wd i o) = true
  | none, _ => by
    have e : PyData.canLay0 (tN wd i none) = (PyData.canLay0 (.str wd) && (true && true)) := rfl
    unfold SeqAt.shaped
    rw [e, asc_lay h]
    rfl
  | some n, hn => by
    have e : PyData.canLay0 (tN wd i (some n)) = (PyData.canLay0 (.str wd) && (true && (PyData.canLay0 (.str n) && true))) := rfl
    unfold SeqAt.shaped
    rw [e, asc_lay h, asc_lay (hn n rfl)]
    rfl
theorem tN_self (wd : Str) (i : Int) : ∀ o, PyData.eqv (tN wd i o) (tN wd i o) = true
  | none => by show ((wd == wd) && ((i == i) && true)) = true; simp
  | some n => by show ((wd == wd) && ((i == i) && ((n == n) && true))) = true; simp
theorem tN_non (wd : Str) (i : Int) : ∀ o, PyData.eqv .none (tN wd i o) = false
  | none => rfl
  | some _ => rfl
theorem non_sh : SeqAt.shaped .none = true := rfl
def thrW : SErr → Str
  | .bad => "BadLine"
  | .dup _ => "DuplicateName"
  | .unk _ => "UnknownName"
  | .many => "TooMany"
def thrN : SErr → Option Str
  | .dup n => some n
  | .unk n => some n
  | _ => none
theorem thrD_eq (i : Int) (e : SErr) : thrD i e = namedD (thrW e) i (thrN e) := by cases e <;> rfl
theorem thrW_asc (e : SErr) : Asc (thrW e) := by
  have h : ∀ x : Str, x.cps.toList.all (fun c => decide (c < 128)) = true → Asc x := fun x hx c hc => by
    have := of_decide_eq_true (List.all_eq_true.mp hx c hc)
    omega
  have h1 : Asc (Str.ofString "BadLine") := h _ (by decide +kernel)
  have h2 : Asc (Str.ofString "DuplicateName") := h _ (by decide +kernel)
  have h3 : Asc (Str.ofString "UnknownName") := h _ (by decide +kernel)
  have h4 : Asc (Str.ofString "TooMany") := h _ (by decide +kernel)
  cases e with
  | bad => exact h1
  | dup _ => exact h2
  | unk _ => exact h3
  | many => exact h4
/-- told == due, where due is what is told -/
theorem thr_eq {M : MH} {i : Int} {e : SErr} (h : ∀ n, thrN e = some n → Asc n) : PyD M (thrD i e) (tN (thrW e) i (thrN e)) ∧ SeqAt.shaped (tN (thrW e) i (thrN e)) = true := by
  rw [thrD_eq]
  exact ⟨named_pd _ _ _, tN_sh (thrW_asc e) h⟩
/-! lines of the four forms -/
theorem names_all {ws : List Str} (h : ∀ w ∈ ws, Name 12 w) : ws.all isNameB = true := List.all_eq_true.mpr fun w hw => (h w hw).isName
theorem rd_root {s : Sch} {n : Str} {cols : List Str} (h : ∀ w ∈ n :: cols, Name 12 w) (ne : cols ≠ []) : rdLine s (Str.ofString "root" :: n :: cols) = rdTable s n none cols := by
  rw [rdLine_cons, if_pos ⟨rfl, by cases cols with | nil => exact absurd rfl ne | cons _ _ => simp, names_all h⟩]
  rfl
theorem rd_table {s : Sch} {n p : Str} {cols : List Str} (h : ∀ w ∈ n :: p :: cols, Name 12 w) (ne : cols ≠ []) : rdLine s (Str.ofString "table" :: n :: p :: cols) = rdTable s n (some p) cols := by
  rw [rdLine_cons, if_neg (fun z => absurd z.1 (by decide +kernel)), if_pos ⟨rfl, by cases cols with | nil => exact absurd rfl ne | cons _ _ => simp, names_all h⟩]
  rfl
theorem rd_owner {s : Sch} {n z : Str} (h : Name 12 n) (hz : isPathB z = true) : rdLine s [Str.ofString "owner", n, z] = rdOwner s n z := by
  rw [rdLine_cons, if_neg (fun z => absurd z.1 (by decide +kernel)), if_neg (fun z => absurd z.1 (by decide +kernel)), if_pos ⟨rfl, rfl, h.isName, hz⟩]
  rfl
theorem rd_follow {s : Sch} {n c u : Str} (h : ∀ w ∈ [n, c, u], Name 12 w) : rdLine s [Str.ofString "follow", n, c, u] = rdFollow s n c u := by
  rw [rdLine_cons, if_neg (fun z => absurd z.1 (by decide +kernel)), if_neg (fun z => absurd z.1 (by decide +kernel)), if_neg (fun z => absurd z.1 (by decide +kernel)), if_pos ⟨rfl, rfl, names_all h⟩]
  rfl
end OA

/-! ### reading tables, in general -/
namespace OA
open PySem PySem.Spec PyProof.Rows L2
theorem tabOf_none {ts : List Tab} {n : Str} (h : n ∉ ts.map Tab.name) : tabOf ts n = none := by
  unfold tabOf
  rw [List.find?_eq_none]
  intro t ht z
  exact h (List.mem_map.mpr ⟨t, ht, of_decide_eq_true z⟩)
theorem rdT_eval {s : Sch} {n : Str} {par : Option Str} {cols : List Str} (h : tabOf s.tabs n = none) (hp : ∀ p, par = some p → (tabOf s.tabs p).isSome = true) :
    rdTable s n par cols = match dupC [] cols with | some c => .error (.dup c) | none => rdT3 s n par cols := by
  unfold rdTable
  rw [h, if_neg (by simp)]
  unfold rdT1
  cases par with
  | none => rfl
  | some p =>
    show (if (tabOf s.tabs p).isSome = true then _ else _) = _
    rw [if_pos (hp p rfl)]
    first | done | rfl
theorem rdT_dup {s : Sch} {n : Str} {par : Option Str} {cols : List Str} {c : Str} (h : tabOf s.tabs n = none) (hp : ∀ p, par = some p → (tabOf s.tabs p).isSome = true) (hd : dupC [] cols = some c) : rdTable s n par cols = .error (.dup c) := by
  rw [rdT_eval h hp, hd]
theorem rdT_nd {s : Sch} {n : Str} {par : Option Str} {cols : List Str} (h : tabOf s.tabs n = none) (hp : ∀ p, par = some p → (tabOf s.tabs p).isSome = true) (hd : cols.Nodup) : rdTable s n par cols = rdT3 s n par cols := by
  rw [rdT_eval h hp, dupC_nodup (pre := []) hd]
theorem rdT3_many {s : Sch} {n : Str} {par : Option Str} {cols : List Str} (h : 4 < cols.length ∨ s.tabs.length = 6) : rdT3 s n par cols = .error .many := by
  unfold rdT3
  rw [if_pos h]
theorem rdT3_deep {s : Sch} {n p : Str} {cols cs : List Str} (h : ChainOf s.tabs p cs) (h4 : cs.length = 4) : rdT3 s n (some p) cols = .error .many := by
  unfold rdT3
  split
  · rfl
  · show (if chLen s.tabs 7 p = 4 then _ else _) = _
    rw [if_pos (by rw [chLen_of h 7 (by omega), h4])]
theorem rdT3_ok {s : Sch} {n : Str} {par : Option Str} {cols : List Str} (h1 : cols.length ≤ 4) (h2 : s.tabs.length < 6) (hp : ∀ p, par = some p → ∃ cs, ChainOf s.tabs p cs ∧ cs.length < 4) : rdT3 s n par cols = .ok { s with tabs := s.tabs ++ [⟨n, par, cols⟩] } := by
  unfold rdT3
  rw [if_neg (by omega)]
  cases par with
  | none => rfl
  | some p =>
    obtain ⟨cs, h, h4⟩ := hp p rfl
    show (if chLen s.tabs 7 p = 4 then _ else _) = _
    rw [if_neg (by rw [chLen_of h 7 (by omega)]; omega)]
theorem dupC_app : ∀ {l pre r : List Str}, (pre ++ l).Nodup → dupC pre (l ++ r) = dupC (pre ++ l) r
  | [], pre, r, _ => by rw [List.append_nil]; rfl
  | c :: l, pre, r, h => by
    have hc : c ∉ pre := fun hm => by
      rw [List.nodup_append] at h
      exact h.2.2 c hm c List.mem_cons_self rfl
    rw [List.cons_append, dupC_step hc, dupC_app (by rw [List.append_assoc]; exact h), List.append_assoc]
    rfl
theorem cutT_all {α β : Type} (f : α → β) (l : List α) (k : Nat) : cutD (l.map f) none (some (k : Int)) = (l.take k).map f := by
  by_cases hk : k ≤ l.length
  · exact cutG_take f l k hk
  · unfold cutD
    rw [HT.sIx_nat, List.length_map, List.take_of_length_le (l := l) (by omega)]
    show List.take (min k l.length - 0) (List.drop 0 _) = _
    rw [List.drop_zero, List.take_of_length_le (by rw [List.length_map]; omega)]
theorem join_snoc (y k : Str) : ∀ ws : List Str, ws ≠ [] → Txt.join y (ws ++ [k]) = Txt.join y ws ++ y ++ k
  | [], h => absurd rfl h
  | [a], _ => by rw [List.cons_append, List.nil_append, join_two (by simp), join_one, join_one]
  | a :: b :: r, _ => by
    have ih := join_snoc y k (b :: r) (by simp)
    rw [List.cons_append, join_two (show b :: r ++ [k] ≠ [] by simp), ih, join_two (show b :: r ≠ [] by simp)]
    simp only [app_assoc]
/-- tables one behind the other: the first deep ones are a chain, the others roots -/
structure Tow (names : List Str) (deep i : Nat) (wss : List (List Str)) (s : Sch) : Prop where
  rd : rdAll ⟨[], [], []⟩ 1 wss = .ok s
  len : wss.length = i
  ok : ∀ l ∈ wss, l ≠ [] ∧ l.length ≤ 16 ∧ ∀ w ∈ l, Wd w
  nm : s.tabs.map Tab.name = names.take i
  ch : ∀ t, t < i → t < deep → ∃ cs, ChainOf s.tabs (names.getD t Str.empty) cs ∧ cs.length = t + 1
theorem Tow.nil (names : List Str) (deep : Nat) : Tow names deep 0 [] ⟨[], [], []⟩ := ⟨rfl, rfl, (fun _ h => nomatch h), by simp, fun t h => absurd h (by omega)⟩
def towPar (names : List Str) (deep i : Nat) : Option Str := if i = 0 ∨ deep ≤ i then none else some (names.getD (i - 1) Str.empty)
def towL (n : Str) (cols : List Str) : Option Str → List Str
  | none => Str.ofString "root" :: n :: cols
  | some p => Str.ofString "table" :: n :: p :: cols
theorem towL_ok {n : Str} {cols : List Str} (h : ∀ w ∈ n :: cols, Name 12 w) (hl : cols.length ≤ 13) : ∀ {par : Option Str}, (∀ p, par = some p → Name 12 p) → towL n cols par ≠ [] ∧ (towL n cols par).length ≤ 16 ∧ ∀ w ∈ towL n cols par, Wd w
  | none, _ => ⟨by simp [towL], by simp [towL]; omega, fun w hw => by
    rcases List.mem_cons.mp hw with e | hw
    · rw [e]; exact wd_root
    · exact (h w hw).wd⟩
  | some p, hp => ⟨by simp [towL], by simp [towL]; omega, fun w hw => by
    rcases List.mem_cons.mp hw with e | hw
    · rw [e]; exact wd_table
    · rcases List.mem_cons.mp hw with e | hw
      · rw [e]; exact (h n List.mem_cons_self).wd
      · rcases List.mem_cons.mp hw with e | hw
        · rw [e]; exact (hp p rfl).wd
        · exact (h w (List.mem_cons_of_mem _ hw)).wd⟩
theorem towL_rd {s : Sch} {n : Str} {cols : List Str} (h : ∀ w ∈ n :: cols, Name 12 w) (ne : cols ≠ []) : ∀ {par : Option Str}, (∀ p, par = some p → Name 12 p) → rdLine s (towL n cols par) = rdTable s n par cols
  | none, _ => rd_root h ne
  | some p, hp => rd_table (fun w hw => by
      rcases List.mem_cons.mp hw with e | hw
      · rw [e]; exact h n List.mem_cons_self
      · rcases List.mem_cons.mp hw with e | hw
        · rw [e]; exact hp p rfl
        · exact h w (List.mem_cons_of_mem _ hw)) ne
section
variable {names : List Str} (W : Words 12 12 names)
include W
theorem nmAt {i : Nat} (h : i < 12) : names[i]? = some (names.getD i Str.empty) ∧ Name 12 (names.getD i Str.empty) := by
  have e : names[i]? = some (names.getD i Str.empty) := at_getD (by rw [W.len]; exact h)
  exact ⟨e, W.all _ (List.mem_of_getElem? e)⟩
theorem nm_fresh {i j : Nat} (h : j < 12) (hi : i ≤ j) : names.getD j Str.empty ∉ names.take i := fun hm => by
  obtain ⟨k, hk⟩ := List.mem_iff_getElem?.mp hm
  have hk2 : k < i := by
    have := get_lt hk
    rw [List.length_take] at this
    omega
  rw [List.getElem?_take_of_lt hk2] at hk
  have := nd_get W.nd hk (nmAt W h).1
  omega
theorem Tow.step {deep i : Nat} {wss : List (List Str)} {s : Sch} (J : Tow names deep i wss s) (h6 : i < 6) (h4 : deep ≤ 4) {cols : List Str} (c1 : cols ≠ []) (c2 : cols.length ≤ 4) (c3 : cols.Nodup) (c4 : ∀ c ∈ cols, c ∈ names) :
    ∃ s', Tow names deep (i + 1) (wss ++ [towL (names.getD i Str.empty) cols (towPar names deep i)]) s' := by
  have N : ∀ w ∈ names.getD i Str.empty :: cols, Name 12 w := fun w hw => by
    rcases List.mem_cons.mp hw with e | hw
    · rw [e]; exact (nmAt W (by omega)).2
    · exact W.all _ (c4 w hw)
  have hP : ∀ p, towPar names deep i = some p → Name 12 p ∧ ∃ cs, ChainOf s.tabs p cs ∧ cs.length = i ∧ i < deep := fun p hp => by
    unfold towPar at hp
    by_cases e : i = 0 ∨ deep ≤ i
    · rw [if_pos e] at hp; cases hp
    · rw [if_neg e] at hp
      cases hp
      obtain ⟨cs, h1, h2⟩ := J.ch (i - 1) (by omega) (by omega)
      exact ⟨(nmAt W (by omega)).2, cs, h1, by omega, by omega⟩
  have tn : tabOf s.tabs (names.getD i Str.empty) = none := tabOf_none (by rw [J.nm]; exact nm_fresh W (by omega) (Nat.le_refl i))
  have ln : s.tabs.length = i := by
    have := congrArg List.length J.nm
    rw [List.length_map, List.length_take, W.len] at this
    omega
  have rd : rdLine s (towL (names.getD i Str.empty) cols (towPar names deep i)) = .ok { s with tabs := s.tabs ++ [⟨names.getD i Str.empty, towPar names deep i, cols⟩] } := by
    rw [towL_rd N c1 fun p hp => (hP p hp).1, rdT_nd tn (fun p hp => ?_) c3, rdT3_ok c2 (by omega) fun p hp => ?_]
    · obtain ⟨_, cs, h1, h2, h3⟩ := hP p hp
      exact ⟨cs, h1, by omega⟩
    · obtain ⟨_, cs, h1, _⟩ := hP p hp
      cases h1 with
      | root g1 _ => rw [g1]; rfl
      | up g1 _ _ => rw [g1]; rfl
  refine ⟨{ s with tabs := s.tabs ++ [⟨names.getD i Str.empty, towPar names deep i, cols⟩] }, ?_, by rw [List.length_append, J.len]; rfl, fun l hl => ?_, ?_, fun t ht hd => ?_⟩
  · rw [rdAll_ok_app J.rd, rdAll_step rd]
    rfl
  · rcases List.mem_append.mp hl with hl | hl
    · exact J.ok l hl
    · rw [List.mem_singleton.mp hl]
      exact towL_ok N (by omega) fun p hp => (hP p hp).1
  · show (s.tabs ++ [_]).map Tab.name = _
    rw [List.map_append, J.nm, take_more (nmAt W (i := i) (by omega)).1]
    rfl
  · by_cases e : t < i
    · obtain ⟨cs, h1, h2⟩ := J.ch t e hd
      exact ⟨cs, h1.app _, h2⟩
    · have e : t = i := by omega
      subst e
      have hs := tabOf_snoc (t := ⟨names.getD t Str.empty, towPar names deep t, cols⟩) tn
      rw [if_pos rfl] at hs
      by_cases z : t = 0
      · subst z
        exact ⟨_, .root hs (by unfold towPar; rw [if_pos (.inl rfl)]), rfl⟩
      · have ep : towPar names deep t = some (names.getD (t - 1) Str.empty) := by unfold towPar; rw [if_neg (by omega)]
        obtain ⟨_, cs, h1, h2, _⟩ := hP _ ep
        exact ⟨_ :: cs, .up hs ep (h1.app _), by rw [List.length_cons, h2]⟩
end
theorem head_root {n : Str} {cols : List Str} (ne : cols ≠ []) : Txt.join spc ((Str.ofString "root " ++ n) :: cols) = Txt.join spc (towL n cols none) := by
  have e : Str.ofString "root " = Str.ofString "root" ++ spc := by decide +kernel
  show _ = Txt.join spc (Str.ofString "root" :: n :: cols)
  rw [join_two ne, join_two (by simp), join_two ne, e]
  simp only [app_assoc]
theorem head_table {n p : Str} {cols : List Str} (ne : cols ≠ []) : Txt.join spc ((Str.ofString "table " ++ n ++ Str.ofString " " ++ p) :: cols) = Txt.join spc (towL n cols (some p)) := by
  have e : Str.ofString "table " = Str.ofString "table" ++ spc := by decide +kernel
  have e2 : Str.ofString " " = spc := rfl
  show _ = Txt.join spc (Str.ofString "table" :: n :: p :: cols)
  rw [join_two ne, join_two (by simp), join_two (by simp), join_two ne, e, e2]
  simp only [app_assoc]
theorem dotWd {q : List Str} (ne : q ≠ []) (l : q.length ≤ 4) (g2 : ∀ y ∈ q, Name 12 y) : Wd (Txt.join dotS q) ∧ Txt.split (Txt.join dotS q) dotS = q ∧ isPathB (Txt.join dotS q) = true := by
  have nl : ∀ c, ¬ Alnum c → c ≠ 46 → c ∉ (Txt.join dotS q).cps.toList := fun c h1 h2 hm => by
    rcases join_mem hm with g | ⟨w, hw, g⟩
    · have e : dotS.cps.toList = [46] := by decide +kernel
      rw [e] at g
      exact h2 (List.mem_singleton.mp g)
    · exact (g2 w hw).no h1 g
  have sp : Txt.split (Txt.join dotS q) dotS = q := split_dot ne fun w hw => (g2 w hw).no (by unfold Alnum Low; omega)
  refine ⟨⟨nl 32 (by unfold Alnum Low; omega) (by decide), nl 10 (by unfold Alnum Low; omega) (by decide), ?_, ?_⟩, sp, ?_⟩
  · intro e0
    cases q with
    | nil => exact absurd rfl ne
    | cons a r =>
      obtain ⟨c, r', e1, _⟩ := (g2 a List.mem_cons_self).first
      have : (Txt.join dotS (a :: r)).cps.toList = [] := by rw [e0]; decide +kernel
      cases r with
      | nil => rw [join_one, e1] at this; cases this
      | cons b r => rw [join_two (by simp), app_list, app_list, e1] at this; cases this
  · have h1 := join_len dotS q
    have h2 : (q.map (·.length)).sum ≤ (q.map (·.length)).length * 12 := sum_le (B := 12) fun x hx => by
      obtain ⟨w, hw, rfl⟩ := List.mem_map.mp hx
      exact (g2 w hw).len
    rw [List.length_map] at h2
    have e : dotS.length = 1 := by decide +kernel
    rw [e] at h1
    omega
  · unfold isPathB
    rw [sp, names_all g2]
    cases q with
    | nil => exact absurd rfl ne
    | cons a r => rfl
theorem ixN_at {n j : Nat} (hj : j < n) : ixN n (j : Int) = some j := by
  unfold ixN
  rw [if_pos (by omega), if_pos (by omega), Int.toNat_natCast]
theorem join3 {a b c : Str} : Txt.join spc [a, b, c] = a ++ spc ++ b ++ spc ++ c := by
  rw [join_two (by simp), join_two (by simp), join_one]
  simp only [app_assoc]
theorem join4 {a b c d : Str} : Txt.join spc [a, b, c, d] = a ++ spc ++ b ++ spc ++ c ++ spc ++ d := by
  rw [join_two (by simp), join_two (by simp), join_two (by simp), join_one]
  simp only [app_assoc]
theorem line_owner (a b : Str) : Str.ofString "owner " ++ a ++ Str.ofString " " ++ b = Txt.join spc [Str.ofString "owner", a, b] := by
  have e : Str.ofString "owner " = Str.ofString "owner" ++ spc := by decide +kernel
  rw [join3, e]
  rfl
theorem line_follow (a b c : Str) : Str.ofString "follow " ++ a ++ Str.ofString " " ++ b ++ Str.ofString " " ++ c = Txt.join spc [Str.ofString "follow", a, b, c] := by
  have e : Str.ofString "follow " = Str.ofString "follow" ++ spc := by decide +kernel
  rw [join4, e]
  rfl
theorem rdO_none {s : Sch} {t z : Str} (h : tabOf s.tabs t = none) : rdOwner s t z = .error (.unk t) := by
  unfold rdOwner
  rw [if_pos (by rw [h]; rfl)]
theorem rdO_dup {s : Sch} {t z : Str} (h : (tabOf s.tabs t).isSome = true) (h2 : (s.owns.find? fun o => decide (o.1 = t)).isSome = true) : rdOwner s t z = .error (.dup t) := by
  unfold rdOwner
  rw [h, if_neg (by simp), if_pos h2]
theorem rdO_unk {s : Sch} {t z n : Str} (h : (tabOf s.tabs t).isSome = true) (h2 : (s.owns.find? fun o => decide (o.1 = t)).isSome = false) (h3 : posErr s.tabs t (Txt.split z dotS) = some n) : rdOwner s t z = .error (.unk n) := by
  unfold rdOwner
  rw [h, if_neg (by simp), h2, if_neg (by simp), h3]
theorem rdF_none {s : Sch} {t c u : Str} (h : tabOf s.tabs t = none) : rdFollow s t c u = .error (.unk t) := by
  unfold rdFollow
  rw [if_pos (by rw [h]; rfl)]
theorem rdF_col {s : Sch} {t c u : Str} (h : (tabOf s.tabs t).isSome = true) (h2 : c ∉ colsOf s.tabs t) : rdFollow s t c u = .error (.unk c) := by
  unfold rdFollow
  rw [h, if_neg (by simp), if_pos h2]
theorem rdF_dup {s : Sch} {t c u : Str} (h : (tabOf s.tabs t).isSome = true) (h2 : c ∈ colsOf s.tabs t) (h3 : (s.fols.find? fun f => decide (f.1 = (t, c))).isSome = true) : rdFollow s t c u = .error (.dup c) := by
  unfold rdFollow
  rw [h, if_neg (by simp), if_neg (by simpa using h2), if_pos h3]
theorem rdF_up {s : Sch} {t c u : Str} (h : (tabOf s.tabs t).isSome = true) (h2 : c ∈ colsOf s.tabs t) (h3 : (s.fols.find? fun f => decide (f.1 = (t, c))).isSome = false) (h4 : ∀ p, parOf s.tabs t = some p → u ∉ colsOf s.tabs p) : rdFollow s t c u = .error (.unk u) := by
  unfold rdFollow
  rw [h, if_neg (by simp), if_neg (by simpa using h2), h3, if_neg (by simp)]
  cases e : parOf s.tabs t with
  | none => rfl
  | some p => exact if_neg (h4 p e)
theorem paired_names {names : List Str} {ks : List Nat} {ys : List Str} (h : Paired (fun _ (c : Str) => c ∈ names) ks ys) : ys.length = ks.length ∧ ∀ c ∈ ys, c ∈ names := by
  induction h with
  | nil => exact ⟨rfl, fun _ h => nomatch h⟩
  | cons h1 _ ih => exact ⟨by rw [List.length_cons, List.length_cons, ih.1], fun c hc => by
      rcases List.mem_cons.mp hc with e | hc
      · rw [e]; exact h1
      · exact ih.2 c hc⟩
end OA

/-! ### get_spoiled, places_in, word_spoiled -/
namespace OA
open PySem PySem.Spec PyProof.Rows L2
def lastW (ws : List Str) : Str := ws.getD (ws.length - 1) Str.empty
theorem atI_end {α : Type} (ini : List α) (c : α) : atI (ini ++ [c]) (-1) = some c := by
  unfold atI ixN
  rw [if_neg (by decide), if_pos (by rw [List.length_append]; show -((ini.length + 1 : Nat) : Int) ≤ -1; omega)]
  have e : (-1 + ((ini ++ [c]).length : Int)).toNat = ini.length := by
    rw [List.length_append]
    show (-1 + ((ini.length + 1 : Nat) : Int)).toNat = _
    omega
  show (ini ++ [c])[(-1 + ((ini ++ [c]).length : Int)).toNat]? = _
  rw [e, List.getElem?_append_right (Nat.le_refl _), Nat.sub_self]
  rfl
theorem end_of {α : Type} {l : List α} (h : l ≠ []) : ∃ ini c, l = ini ++ [c] := ⟨l.dropLast, l.getLast h, (List.dropLast_concat_getLast h).symm⟩
/-- how many letters fill a word up -/
def spK (n : Nat) : Nat := if n < 12 then 13 - n else 1
/-- the lines that get_spoiled chooses from -/
def spoils (ini : List Str) (l c : Str) : List Str :=
  let line := Txt.join spc (ini ++ [l])
  let st := Txt.join spc ini ++ spc
  [Str.ofString "", Str.ofString " " ++ line, line ++ Str.ofString " ", Txt.replace line (Str.ofString " ") (Str.ofString "  "), Str.ofString "x" ++ line, Txt.upper line, (ini ++ [l]).getD 0 Str.empty, line ++ Str.ofString "\t",
    st, st ++ l ++ Str.ofString "A", st ++ Str.ofString "9" ++ l, st ++ l ++ repS (Str.ofString "a") (spK c.length), st ++ l ++ Str.ofString "-",
    st ++ l ++ Str.ofString ".", st ++ Str.ofString "." ++ l, Txt.replace line (Str.ofString " ") (Str.ofString "\t"), Txt.join (Str.ofString " ") ((ini ++ [l]).take 2) ++ Str.ofString ","]
def aSpoil : ASp := fun ds M Q _ => ∃ (st : Addr) (ini : List Str) (l : Str), ds = [.ptr st, .str (Txt.join spc (ini ++ [l]))] ∧ Drw M st ∧ ini.length ≤ 15 ∧ (∀ w ∈ ini ++ [l], Wd w) ∧ ∀ c cs x, Txt.split l dotS = cs ++ [c] → x ∈ spoils ini l c → Q (.str x) M
section
variable {P : Program} {w : World} {K : PySem.W.Frag} {mg : Str → Option Value} {base : Heap}
theorem sc_get_spoiled : FnScope ["_law_state", "_law_line", "_law_words", "_law_last", "_law_found", "_law_start"] ["_law_state", "_law_line"] (defScope (topS 28)) := ⟨rfl, rfl, rfl, by decide +kernel, rfl, by decide +kernel, by decide +kernel⟩
set_option maxHeartbeats 16000000 in
theorem ok_get_spoiled {f : Addr} {fd : FuncData} (F : Fun K "_law_get_spoiled" "_law_get_spoiled" (topS 28) f fd) (T : Txt K mg) (c_draw : Callee P w K mg base "_law_draw" ["_law_st", "_law_limit"] (conc aDraw) 1) : FnOk P w K mg base CX0 2 f fd ["_law_state", "_law_line"] (conc aSpoil) := by
  refine F.ok sc_get_spoiled (conc_len fun ds M AQ AX h => ?_) (fun cdv A outer s H vs Q E hr h => ⟨_, (pss_cons (ps_set (i := 2) sc_get_spoiled.nd rfl (Or.inl rfl) (e_split (pv 1) pe_str))
      (pss_cons (ps_set (i := 3) sc_get_spoiled.nd rfl (Or.inl rfl) (pe_ix (ix_lst K) (pv 2) (pe_un un_neg pe_int) (fun _ _ => rfl)))
      (pss_cons (ps_set (i := 4) sc_get_spoiled.nd rfl (Or.inl rfl) (pe_lst (pa_tok1 PE1.str (pat_consP (pe_op o_adds pe_str (pv 1)) (pat_consP (pe_op o_adds (pv 1) pe_str) (pat_cons (CwR.pet_replC (pv 1) (by decide +kernel)) (pat_of (pa_cons (pe_op o_adds pe_str (pv 1)) (pa_cons (e_upper (pv 1)) (pa_cons (pe_ix (ix_lst K) (pv 2) pe_int (fun _ _ => rfl)) (pa_cons (pe_op o_adds (pv 1) pe_str) pa_nil)))))))))))
      (pss_cons (ps_set (i := 5) sc_get_spoiled.nd rfl (Or.inl rfl) (pe_op o_adds (e_join K pe_str (pe_slice (sl_lst K) (pv 2) po_none (po_some (pe_un un_neg pe_int)))) pe_str))
      (pss_cons (ps_set (i := 4) sc_get_spoiled.nd rfl (Or.inl rfl) (pe_op op_cat (pv 4) (pe_lst (pa_cons (pv 5) (pa_cons (pe_op o_adds (pe_op o_adds (pv 5) (pv 3)) pe_str) (pa_cons (pe_op o_adds (pe_op o_adds (pv 5) pe_str) (pv 3)) (pa_cons (pe_op o_adds (pe_op o_adds (pv 5) (pv 3)) (pe_op op_rep_str pe_str (pe_callB c_max2 (by rfl) T.n_max (by decide +kernel) (pa_cons pe_int (pa_cons (pe_op o_sub pe_int (pe_callB c_lenS (by rfl) T.n_len (by decide +kernel) (pa_cons (pe_ix (ix_lst K) (e_split (pv 3) pe_str) (pe_un un_neg pe_int) (fun _ _ => rfl)) pa_nil))) pa_nil))))) (pa_cons (pe_op o_adds (pe_op o_adds (pv 5) (pv 3)) pe_str) pa_nil))))))))
      (pss_cons (ps_set (i := 4) sc_get_spoiled.nd rfl (Or.inl rfl) (pe_op op_cat (pv 4) (pe_lst (pa_tok1 (PE1.opr o_adds (pe_op o_adds (pv 5) (pv 3)) PE1.str) (pat_consP (pe_op o_adds (pe_op o_adds (pv 5) pe_str) (pv 3)) (pat_cons (CwR.pet_replC (pv 1) (by decide +kernel)) (pat_of (pa_cons (pe_op o_adds (e_join K pe_str (pe_slice (sl_lst K) (pv 2) po_none (po_some pe_int))) pe_str) pa_nil))))))))
      (pss_one (ps_ret (pe_ix (ix_lst K) (pv 4) (pe_co c_draw hr (by decide) (by rfl) (pa_cons (pv 0) (pa_cons (pe_callB (c_len K) (by rfl) T.n_len (by decide +kernel) (pa_cons (pv 4) pa_nil)) pa_nil))) (fun _ _ => rfl)))))))))), body_of (W := W0) inferInstance h fun ds M AQ AX h => ?_⟩)
  · obtain ⟨st, ini, l, rfl, _⟩ := h
    rfl
  · obtain ⟨st, ini, l, rfl, hD, i15, wd, q⟩ := h
    have wne : ini ++ [l] ≠ [] := by simp
    have w16 : (ini ++ [l]).length ≤ 16 := by rw [List.length_append]; show _ + 1 ≤ _; omega
    have ll := joinW_len wd w16
    have il : (Txt.join spc ini).length ≤ 15 * 61 := joinW_len (fun w hw => wd w (List.mem_append_left _ hw)) i15
    have tl : (Txt.join spc ((ini ++ [l]).take 2)).length ≤ 2 * 61 := joinW_len (fun w hw => wd w (List.mem_of_mem_take hw)) (by rw [List.length_take]; omega)
    have lwd := (wd l (by simp)).len
    have al : ∀ a b : Str, (a ++ b).length = a.length + b.length := app_len
    have sp : (Str.ofString " ").length = 1 := by decide +kernel
    have sp2 : (Str.ofString "  ").length = 2 := by decide +kernel
    have spx : (Str.ofString "x").length = 1 := by decide +kernel
    have spt : (Str.ofString "\t").length = 1 := by decide +kernel
    have spA : (Str.ofString "A").length = 1 := by decide +kernel
    have sp9 : (Str.ofString "9").length = 1 := by decide +kernel
    have spa : (Str.ofString "a").length = 1 := by decide +kernel
    have spm : (Str.ofString "-").length = 1 := by decide +kernel
    have spd : (Str.ofString ".").length = 1 := by decide +kernel
    have spk : (Str.ofString ",").length = 1 := by decide +kernel
    have sums : ∀ ws : List Str, (∀ w ∈ ws, Wd w) → ws.length ≤ 16 → (ws.map (·.length)).sum + ws.length * (Str.ofString " ").length ≤ 16777216 := fun ws h hl => sum_words (n := 16) (fun w hw => by have := (h w hw).len; omega) hl (by decide)
    refine ⟨by decide +kernel, sz_le (by omega), ?_⟩
    rw [show Txt.split (Txt.join spc (ini ++ [l])) (Str.ofString " ") = ini ++ [l] from split_spc wne fun w hw => (wd w hw).sp]
    have hl : atI ((ini ++ [l]).map PD.str) (-1) = some (.str l) := by rw [List.map_append]; exact atI_end _ _
    obtain ⟨w0, hw0⟩ : ∃ w0, (ini ++ [l])[0]? = some w0 := ⟨_, List.getElem?_eq_getElem (by rw [List.length_append]; show 0 < _ + 1; omega)⟩
    have g0 : (ini ++ [l]).getD 0 Str.empty = w0 := by rw [List.getD_eq_getElem?_getD, hw0]; rfl
    refine ⟨_, _, rfl, hl, sz_le (by omega), sz_le (by omega), by rw [sp2]; omega, sz_le (by omega), by omega, _, _, rfl, atI_at (i := 0) (map_at hw0), sz_le (by omega), sz_le (by simp), ?_⟩
    refine ⟨_, rfl, ?_⟩
    rw [cutG_last]
    have il' : (Txt.join (Str.ofString " ") ini).length ≤ 15 * 61 := il
    have tl' : (Txt.join (Str.ofString " ") ((ini ++ [l]).take 2)).length ≤ 2 * 61 := tl
    refine ⟨ini, .inl rfl, sums _ (fun w hw => wd w (List.mem_append_left _ hw)) (by omega), sz_le (by omega), ?_⟩
    obtain ⟨sb1, sb2, sb3⟩ := dot_bound l
    obtain ⟨cs, c, hc⟩ := end_of sb3
    have cl : c.length ≤ l.length := sb2 c (by rw [hc]; simp)
    have ha : atI ((Txt.split l dotS).map PD.str) (-1) = some (.str c) := by rw [hc, List.map_append]; exact atI_end _ _
    have ek : (if (13 : Int) - (c.length : Int) > 1 then (13 : Int) - (c.length : Int) else 1) = (spK c.length : Int) := by unfold spK; split <;> split <;> omega
    have kb : spK c.length ≤ 13 := by unfold spK; split <;> omega
    have rl : (repS (Str.ofString "a") (spK c.length)).length ≤ 13 := by
      have e1 : Str.ofString "a" = ⟨#[97]⟩ := by decide +kernel
      have e2 := repS_one 97 (spK c.length)
      rw [e1]
      show (repS ⟨#[97]⟩ (spK c.length)).cps.size ≤ 13
      rw [← Array.length_toList, e2, List.length_replicate]
      exact kb
    have stl : (Txt.join (Str.ofString " ") ini ++ Str.ofString " ").length ≤ 916 := by rw [al]; omega
    refine ⟨sz_le (by omega), sz_le (by rw [al]; omega), sz_le (by omega), sz_le (by rw [al]; omega), sz_le (by omega), by decide +kernel, sz_le (by omega), _, _, rfl, ha, sz_le (by omega), ?_⟩
    have ex : repS (Str.ofString "a") (if (13 : Int) - (c.length : Int) > 1 then (13 : Int) - (c.length : Int) else 1).toNat = repS (Str.ofString "a") (spK c.length) := by rw [ek, Int.toNat_natCast]
    refine ⟨(by show 0 ≤ (if (13 : Int) - (c.length : Int) > 1 then (13 : Int) - (c.length : Int) else 1) ∧ (if (13 : Int) - (c.length : Int) > 1 then (13 : Int) - (c.length : Int) else 1) ≤ 1000 ∧ (Str.ofString "a").length ≤ 1000; rw [ek]; omega), ?_⟩
    refine ⟨sz_le (by show _ + (repS (Str.ofString "a") (if (13 : Int) - (c.length : Int) > 1 then (13 : Int) - (c.length : Int) else 1).toNat).length ≤ _; rw [ex, al]; omega), sz_le (by omega), sz_le (by rw [al]; omega), sz_le (by simp), ?_⟩
    have e2 : cutD ((ini ++ [l]).map PD.str) none (some 2) = ((ini ++ [l]).take 2).map PD.str := cutT_all PD.str (ini ++ [l]) 2
    refine ⟨_, _, rfl, rfl, sz_le (by simp), sz_le (by omega), sz_le (by rw [al]; omega), sz_le (by omega), sz_le (by rw [al]; omega), by rw [spt]; omega, _, rfl, ?_⟩
    rw [e2]
    refine ⟨(ini ++ [l]).take 2, .inl rfl, sums _ (fun w hw => wd w (List.mem_of_mem_take hw)) (by rw [List.length_take]; omega), sz_le (by omega), sz_le (by simp), _, _, rfl, rfl, sz_le (by simp), _, .inl rfl, st, 17, rfl, hD, by decide, by decide, fun r r0 r1 => ?_⟩
    have q : ∀ x, x ∈ spoils ini l c → AQ (.str x) M := fun x h => q c cs x hc h
    unfold spoils at q
    rw [g0, ← ex] at q
    obtain ⟨rn, rfl⟩ := Int.eq_ofNat_of_zero_le r0
    generalize hL : [Str.ofString "", Str.ofString " " ++ Txt.join spc (ini ++ [l]), Txt.join spc (ini ++ [l]) ++ Str.ofString " ", Txt.replace (Txt.join spc (ini ++ [l])) (Str.ofString " ") (Str.ofString "  "), Str.ofString "x" ++ Txt.join spc (ini ++ [l]), Txt.upper (Txt.join spc (ini ++ [l])), w0, Txt.join spc (ini ++ [l]) ++ Str.ofString "\t",
    Txt.join spc ini ++ spc, Txt.join spc ini ++ spc ++ l ++ Str.ofString "A", Txt.join spc ini ++ spc ++ Str.ofString "9" ++ l, Txt.join spc ini ++ spc ++ l ++ repS (Str.ofString "a") (if (13 : Int) - (c.length : Int) > 1 then (13 : Int) - (c.length : Int) else 1).toNat, Txt.join spc ini ++ spc ++ l ++ Str.ofString "-",
    Txt.join spc ini ++ spc ++ l ++ Str.ofString ".", Txt.join spc ini ++ spc ++ Str.ofString "." ++ l, Txt.replace (Txt.join spc (ini ++ [l])) (Str.ofString " ") (Str.ofString "\t"), Txt.join (Str.ofString " ") ((ini ++ [l]).take 2) ++ Str.ofString ","] = L at q
    have hLl : L.length = 17 := by rw [← hL]; rfl
    obtain ⟨x, hx⟩ : ∃ x, L[rn]? = some x := ⟨_, List.getElem?_eq_getElem (by omega)⟩
    refine ⟨L.map PD.str, .str x, ?_, atI_at (map_at hx), q x (List.mem_of_getElem? hx)⟩
    rw [← hL]
    rfl
end
end OA

/-! ### places_in, word_spoiled -/
namespace OA
open PySem PySem.Spec PyProof.Rows L2
/-! dicts as lists -/
theorem mergeD_nd : ∀ (more acc : List (Key × PD)), ((acc ++ more).map (·.1)).Nodup → mergeD acc more = acc ++ more
  | [], acc, _ => by rw [List.append_nil]; rfl
  | p :: r, acc, h => by
    have hn : ¬ (acc.any fun kv => decide (kv.1 = p.1)) = true := fun z => by
      obtain ⟨q, hq, e⟩ := List.any_eq_true.mp z
      rw [List.map_append, List.nodup_append] at h
      exact h.2.2 q.1 (List.mem_map.mpr ⟨q, hq, rfl⟩) p.1 List.mem_cons_self (of_decide_eq_true e)
    have e : putD acc p.1 p.2 = acc ++ [p] := by unfold putD; rw [if_neg hn]
    show mergeD (putD acc p.1 p.2) r = _
    rw [e, mergeD_nd r (acc ++ [p]) (by rw [List.append_assoc]; exact h), List.append_assoc]
    rfl
def tabD {α : Type} (f : α → PD) (t : List (Str × α)) : List (Key × PD) := t.map fun p => (kn p.1, f p.2)
def look {α : Type} (t : List (Str × α)) (form : Str) (d : α) : α := ((t.find? fun p => decide (p.1 = form)).map (·.2)).getD d
theorem valD_tab {α : Type} (f : α → PD) (form : Str) : ∀ t : List (Str × α), valD (tabD f t) (kn form) = (t.find? fun p => decide (p.1 = form)).map fun p => f p.2
  | [] => rfl
  | p :: t => by
    by_cases e : p.1 = form
    · have : kn p.1 = kn form := by rw [e]
      rw [show tabD f (p :: t) = (kn p.1, f p.2) :: tabD f t from rfl, valD_pos this, List.find?_cons, decide_eq_true e]
      rfl
    · have : ¬ kn p.1 = kn form := fun z => e (Sum.inr.inj z)
      rw [show tabD f (p :: t) = (kn p.1, f p.2) :: tabD f t from rfl, valD_neg this, valD_tab f form t, List.find?_cons, decide_eq_false e]
theorem disp_get {α : Type} {M : MH} (f : α → PD) {t : List (Str × α)} (nd : (t.map (·.1)).Nodup) (form : Str) : dGet M (.dK ((mergeD [] (tabD f t)).map (·.1)) ((mergeD [] (tabD f t)).map (·.2))) (.str form) ((t.find? fun p => decide (p.1 = form)).map fun p => f p.2) := by
  have e : mergeD [] (tabD f t) = tabD f t := by
    rw [mergeD_nd, List.nil_append]
    rw [List.nil_append]
    unfold tabD
    rw [List.map_map]
    have e : ((fun p : Key × PD => p.1) ∘ fun p : Str × α => (kn p.1, f p.2)) = (fun x : Str => kn x) ∘ (fun p : Str × α => p.1) := rfl
    rw [e, ← List.map_map]
    exact List.Pairwise.map (fun x : Str => kn x) (fun a b h z => h (Sum.inr.inj z)) nd
  rw [e, ← valD_tab f form t]
  have h : dkOf M (.dK ((tabD f t).map (·.1)) ((tabD f t).map (·.2))) = some (tabD f t) := by
    show some (((tabD f t).map (·.1)).zip ((tabD f t).map (·.2))) = _
    congr 1
    exact (List.zip_map' ..).trans (by simp)
  exact dGet.k h rfl
theorem look_getD {α : Type} (f : α → PD) (t : List (Str × α)) (form : Str) (d : α) : ((t.find? fun p => decide (p.1 = form)).map fun p => f p.2).getD (f d) = f (look t form d) := by
  unfold look
  cases t.find? fun p => decide (p.1 = form) <;> rfl
theorem look_mem {α : Type} (t : List (Str × α)) (form : Str) (d : α) : look t form d = d ∨ ∃ p ∈ t, p.1 = form ∧ look t form d = p.2 := by
  unfold look
  cases e : t.find? fun p => decide (p.1 = form) with
  | none => exact .inl rfl
  | some p => exact .inr ⟨p, List.mem_of_find?_eq_some e, (by have h := List.find?_some e; exact of_decide_eq_true h), rfl⟩
/-! what places_in tells -/
def fixT : List (Str × List Int) := [("row", [2]), ("need", [2]), ("where", [2]), ("set", [2]), ("move", [2]), ("each", [2, 4, 6]), ("new", [2, 4]), ("find", [2])]
def namT : List (Str × List Int) := [("handler", [1]), ("question", [1]), ("row", [1, 3]), ("value", [1]), ("take", [1]), ("move", [1, 3]), ("set", [1]), ("each", [1, 3, 5]), ("new", [1, 3]), ("find", [1, 3]), ("root", [1, 2]), ("table", [1, 2, 3]), ("owner", [1]), ("follow", [1, 2, 3])]
def terT (n : Nat) : List (Str × List Int) := [("need", [1, 3]), ("where", [1, 3]), ("set", [3]), ("each", [7]), ("new", [(n : Int) - 1])]
def leaT (wide : Bool) : List (Str × Int) := [("root", 2), ("table", 3), ("new", if wide then 7 else 5)]
def wideB (ws : List Str) (form : Str) : Bool := decide (form = "new") && decide (ws.getD 4 Str.empty = "under")
def fixP (ws : List Str) (form : Str) : List Int := (if wideB ws form = true ∨ (form = "find" ∧ ws.length = 6) then [2, 4] else look fixT form []) ++ (if wideB ws form then [6] else [])
def namP (form : Str) : List Int := look namT form []
def terP (ws : List Str) (form : Str) : List Int := look (terT ws.length) form []
def leaP (ws : List Str) (form : Str) : Int := look (leaT (wideB ws form)) form 0
def plcD (ws : List Str) (form : Str) : PD := .lst [iL (fixP ws form), iL (namP form), iL (terP ws form), .int (leaP ws form)]
def aPlc : ASp := fun ds M Q _ => ∃ (d : PD) (ws : List Str) (form : Str), ds = [d] ∧ sqOf M d = some (ws.map PD.str) ∧ ws[0]? = some form ∧ (form = "new" → 4 < ws.length) ∧ ws.length ≤ 100 ∧ Q (plcD ws form) M
def opsW : List Str := ["==", "!=", ":=", "on", "of", "to"]
def wrongW : List Str := ["'Open'", "''", "'a-b'", Str.ofString "'" ++ repS (Str.ofString "a") 21 ++ Str.ofString "'", "'a", "a'", "a.b."]
inductive WSp (ws : List Str) (form : Str) : Str → Prop
  | fix {i : Nat} {o : Str} : (i : Int) ∈ fixP ws form → o ∈ opsW → WSp ws form (Txt.join spc (ws.set i o))
  | nam {i : Nat} {w : Str} : (i : Int) ∈ namP form → ws[i]? = some w → WSp ws form (Txt.join spc (ws.set i (w ++ Str.ofString "." ++ w)))
  | ter {i : Nat} {o : Str} : (i : Int) ∈ terP ws form → o ∈ wrongW → WSp ws form (Txt.join spc (ws.set i o))
  | cut : 0 < leaP ws form → WSp ws form (Txt.join spc (ws.take (leaP ws form).toNat))
  | more : ¬ 0 < leaP ws form → WSp ws form (Txt.join spc (ws ++ [Str.ofString "a"]))
def aWSp : ASp := fun ds M Q _ => ∃ (st : Addr) (ws : List Str) (form : Str), ds = [.ptr st, .str (Txt.join spc ws)] ∧ Drw M st ∧ ws[0]? = some form ∧ (form = "new" → 4 < ws.length) ∧ ws.length ≤ 16 ∧ (∀ w ∈ ws, Wd w) ∧ (∀ i ∈ fixP ws form ++ namP form ++ terP ws form, 0 ≤ i ∧ i < (ws.length : Int)) ∧ ∀ l, WSp ws form l → ∀ M', Sub M M' → Q (.str l) M'
theorem pyd_intsP {M : MH} : ∀ xs : List Int, PyDs M (xs.map PD.int) (xs.map PyData.int)
  | [] => .nil
  | x :: xs => .cons (.int x) (pyd_intsP xs)
theorem ne_nilI {M : MH} {k : AK} {ks : List Int} (h : k (.bl (!ks.isEmpty)) M) : fEqD true (iL ks) (.lst []) M k := by
  refine ⟨dI ks, dI [], .lst rfl (pyd_intsP ks), .lst rfl .nil, sh_ints, sh_ints (xs := []), ?_⟩
  cases ks with
  | nil => exact h
  | cons _ _ => exact h
theorem ifB_ne {ks : List Int} {A B : Prop} (h1 : ks ≠ [] → A) (h2 : ks = [] → B) : ifB (!ks.isEmpty) A B := by
  cases ks with
  | nil => exact h2 rfl
  | cons _ _ => exact h1 (by simp)
theorem sum_200 {ws : List Str} (h : ∀ w ∈ ws, w.length ≤ 200) (hn : ws.length ≤ 20) : (ws.map (·.length)).sum + ws.length * (Str.ofString " ").length ≤ 16777216 := by
  have h2 : (ws.map (·.length)).sum ≤ (ws.map (·.length)).length * 200 := sum_le (B := 200) fun x hx => by
    obtain ⟨w, hw, rfl⟩ := List.mem_map.mp hx
    exact h w hw
  rw [List.length_map] at h2
  have e : (Str.ofString " ").length = 1 := by decide +kernel
  rw [e]
  omega
theorem mem_set {α : Type} {l : List α} {i : Nat} {a x : α} (h : x ∈ l.set i a) : x = a ∨ x ∈ l := by
  rcases List.mem_or_eq_of_mem_set h with h | h
  · exact .inr h
  · exact .inl h
theorem fix_len (ws : List Str) (form : Str) : (fixP ws form).length ≤ 10 := by
  unfold fixP
  rw [List.length_append]
  have h1 : (if wideB ws form = true ∨ (form = "find" ∧ ws.length = 6) then ([2, 4] : List Int) else look fixT form []).length ≤ 3 := by
    split
    · simp
    · rcases look_mem fixT form [] with e | ⟨p, hp, _, e⟩
      · rw [e]; simp
      · rw [e]
        have : ∀ p ∈ fixT, p.2.length ≤ 3 := by decide +kernel
        exact this p hp
  have h2 : (if wideB ws form then ([6] : List Int) else []).length ≤ 1 := by split <;> simp
  omega
theorem nam_len (form : Str) : (namP form).length ≤ 10 := by
  unfold namP
  rcases look_mem namT form [] with e | ⟨p, hp, _, e⟩
  · rw [e]; simp
  · rw [e]
    have : ∀ p ∈ namT, p.2.length ≤ 10 := by decide +kernel
    exact this p hp
theorem ter_len (ws : List Str) (form : Str) : (terP ws form).length ≤ 10 := by
  unfold terP
  rcases look_mem (terT ws.length) form [] with e | ⟨p, hp, _, e⟩
  · rw [e]; simp
  · rw [e]
    unfold terT at hp
    simp only [List.mem_cons, List.not_mem_nil, or_false] at hp
    rcases hp with e | e | e | e | e <;> rw [e] <;> simp
theorem ifS_kl {i j : Nat} {n k : Int} {ks : List Int} {A B : AS} {AW : AWX} {D : AEnds} {ρ : AEnv} {M : MH} (hi : ρ[i]? = some (some (.int k))) (hj : ρ[j]? = some (some (iL ks))) (h1 : ks ≠ [] → A AW D ρ M) (h2 : B AW D ρ M) :
    aIfS (aAnd (aTest (aOp (fS0 (sEq false)) (aVar i) (aC (V.int n)))) (aTest (aOp (fEqD true) (aVar j) (aLst aNil)))) A B AW D ρ M := by
  unfold aIfS aAnd aTest aOp aVar
  simp only [hi, hj]
  refine ifB_d (c := k = n) (fun _ => ?_) (fun _ => h2)
  refine ⟨sz_le (by simp), ne_nilI ?_⟩
  exact ifB_ne h1 fun _ => h2
section
variable {P : Program} {w : World} {K : PySem.W.Frag} {mg : Str → Option Value} {base : Heap}
theorem sc_places_in : FnScope ["_law_words", "_law_form", "_law_wide", "_law_fixed", "_law_named", "_law_terms", "_law_least"] ["_law_words"] (defScope (topS 29)) := ⟨rfl, rfl, rfl, by decide +kernel, rfl, by decide +kernel, by decide +kernel⟩
set_option maxHeartbeats 16000000 in
theorem ok_places_in {f : Addr} {fd : FuncData} (F : Fun K "_law_places_in" "_law_places_in" (topS 29) f fd) (T : Txt K mg) : FnOk P w K mg base CX0 1 f fd ["_law_words"] (conc aPlc) := by
  refine F.ok sc_places_in (conc_len fun ds M AQ AX h => ?_) (fun cdv A outer s H vs Q E hr h => ⟨_, (pss_cons (ps_set (i := 1) sc_places_in.nd rfl (Or.inl rfl) (pe_ix (ix_lst K) (pv 0) pe_int (fun _ _ => rfl)))
      (C8.pss_cut (ps_set (i := 2) sc_places_in.nd rfl (Or.inl rfl) (pe_and (pe_cmpR op_eq (pv 1) pe_str (nomark _)) (pe_one (pe_cmpR op_eq (pe_ix (ix_lst K) (pv 0) pe_int (fun _ _ => rfl)) pe_str (nomark _)))))
      (pss_cons (ps_set (i := 3) sc_places_in.nd rfl (Or.inl rfl) (pe_dget2 (hu_of hr) (pe_disp (pps_cons pe_str (pe_lst (pa_cons pe_int pa_nil)) (pps_cons pe_str (pe_lst (pa_cons pe_int pa_nil)) (pps_cons pe_str (pe_lst (pa_cons pe_int pa_nil)) (pps_cons pe_str (pe_lst (pa_cons pe_int pa_nil)) (pps_cons pe_str (pe_lst (pa_cons pe_int pa_nil)) (pps_cons pe_str (pe_lst (pa_cons pe_int (pa_cons pe_int (pa_cons pe_int pa_nil)))) (pps_cons pe_str (pe_lst (pa_cons pe_int (pa_cons pe_int pa_nil))) (pps_cons pe_str (pe_lst (pa_cons pe_int pa_nil)) pps_nil)))))))) rfl rfl (List.cons_ne_nil _ _) (by decide)) (pv 1) (pe_lst pa_nil) ⟨rfl, rfl, rfl, rfl⟩))
      (C8.pss_cut (ps_if (PW.pt (pw_or (pt_val (pv 2)) (pw_or1 (PW.pt (pw_and (pt_cmpR op_eq (pv 1) pe_str (nomark _)) (pw_and1 (pt_cmpR op_eq (pe_callB (c_len K) (by rfl) T.n_len (by decide +kernel) (pa_cons (pv 0) pa_nil)) pe_int (nomark _)))))))) (pss_one (ps_set (i := 3) sc_places_in.nd rfl (Or.inl rfl) (pe_lst (pa_cons pe_int (pa_cons pe_int pa_nil))))) pss_nil)
      (pss_cons (ps_set (i := 4) sc_places_in.nd rfl (Or.inl rfl) (pe_dget2 (hu_of hr) (pe_disp (pps_cons pe_str (pe_lst (pa_cons pe_int pa_nil)) (pps_cons pe_str (pe_lst (pa_cons pe_int pa_nil)) (pps_cons pe_str (pe_lst (pa_cons pe_int (pa_cons pe_int pa_nil))) (pps_cons pe_str (pe_lst (pa_cons pe_int pa_nil)) (pps_cons pe_str (pe_lst (pa_cons pe_int pa_nil)) (pps_cons pe_str (pe_lst (pa_cons pe_int (pa_cons pe_int pa_nil))) (pps_cons pe_str (pe_lst (pa_cons pe_int pa_nil)) (pps_cons pe_str (pe_lst (pa_cons pe_int (pa_cons pe_int (pa_cons pe_int pa_nil)))) (pps_cons pe_str (pe_lst (pa_cons pe_int (pa_cons pe_int pa_nil))) (pps_cons pe_str (pe_lst (pa_cons pe_int (pa_cons pe_int pa_nil))) (pps_cons pe_str (pe_lst (pa_cons pe_int (pa_cons pe_int pa_nil))) (pps_cons pe_str (pe_lst (pa_cons pe_int (pa_cons pe_int (pa_cons pe_int pa_nil)))) (pps_cons pe_str (pe_lst (pa_cons pe_int pa_nil)) (pps_cons pe_str (pe_lst (pa_cons pe_int (pa_cons pe_int (pa_cons pe_int pa_nil)))) pps_nil)))))))))))))) rfl rfl (List.cons_ne_nil _ _) (by decide)) (pv 1) (pe_lst pa_nil) ⟨rfl, rfl, rfl, rfl⟩))
      (pss_cons (ps_set (i := 5) sc_places_in.nd rfl (Or.inl rfl) (pe_dget2 (hu_of hr) (pe_disp (pps_cons pe_str (pe_lst (pa_cons pe_int (pa_cons pe_int pa_nil))) (pps_cons pe_str (pe_lst (pa_cons pe_int (pa_cons pe_int pa_nil))) (pps_cons pe_str (pe_lst (pa_cons pe_int pa_nil)) (pps_cons pe_str (pe_lst (pa_cons pe_int pa_nil)) (pps_cons pe_str (pe_lst (pa_cons (pe_op o_sub (pe_callB (c_len K) (by rfl) T.n_len (by decide +kernel) (pa_cons (pv 0) pa_nil)) pe_int) pa_nil)) pps_nil))))) rfl rfl (List.cons_ne_nil _ _) (by decide)) (pv 1) (pe_lst pa_nil) ⟨rfl, rfl, rfl, rfl⟩))
      (pss_cons (ps_set (i := 6) sc_places_in.nd rfl (Or.inl rfl) (pe_dget2 (hu_of hr) (pe_disp (pps_cons pe_str pe_int (pps_cons pe_str pe_int (pps_cons pe_str (pe_ifExp (pt_val (pv 2)) pe_int pe_int) pps_nil))) rfl rfl (List.cons_ne_nil _ _) (by decide)) (pv 1) pe_int ⟨rfl, rfl, rfl, rfl⟩))
      (pss_one (ps_ret (pe_lst (pa_cons (pe_op op_cat (pv 3) (pe_op op_rep (pe_lst (pa_cons pe_int pa_nil)) (pe_callTy c_int (by rfl) T.n_int (by decide +kernel) (pa_cons (pv 2) pa_nil)))) (pa_cons (pv 4) (pa_cons (pv 5) (pa_cons (pv 6) pa_nil)))))))))))))), body_of (W := W0) inferInstance h fun ds M AQ AX h => ?_⟩)
  · obtain ⟨d, ws, form, rfl, _⟩ := h
    rfl
  · obtain ⟨d, ws, form, rfl, hd, hf, h4, hl, q⟩ := h
    refine ⟨_, _, hd, atI_at (i := 0) (map_at hf), ?_⟩
    refine ⟨fun ρ' M' => M = M' ∧ ρ' = [some d, some (.str form), some (.bl (wideB ws form)), none, none, none, none], ?_, ?_⟩
    · refine ifB_d (c := form = "new") (fun hn => ?_) (fun hn => ?_)
      · obtain ⟨w4, hw4⟩ : ∃ w4, ws[4]? = some w4 := ⟨_, List.getElem?_eq_getElem (h4 hn)⟩
        have e : wideB ws form = decide (w4 = "under") := by unfold wideB; rw [decide_eq_true hn, List.getD_eq_getElem?_getD, hw4]; rfl
        refine ⟨_, _, hd, atI_at (i := 4) (map_at hw4), rfl, ?_⟩
        rw [e]
        rfl
      · have e : wideB ws form = false := by unfold wideB; rw [decide_eq_false hn]; rfl
        refine ⟨rfl, ?_⟩
        rw [e]
        rfl
    rintro ρ' M' ⟨rfl, rfl⟩
    repeat (refine ⟨sz_le (by simp), ?_⟩)
    refine ⟨tabD iL fixT, rfl, by decide, .inl ⟨_, rfl⟩, sz_le (by simp), _, disp_get iL (t := fixT) (by decide +kernel) form, ?_⟩
    rw [show (PD.lst [] : PD) = iL [] from rfl, look_getD iL]
    refine ⟨fun ρ' M' => M = M' ∧ ρ' = [some d, some (.str form), some (.bl (wideB ws form)), some (iL (if wideB ws form = true ∨ (form = "find" ∧ ws.length = 6) then [2, 4] else look fixT form [])), none, none, none], ?_, ?_⟩
    · refine ifB_2 (fun hw => ?_) (fun hw => ?_)
      · exact ⟨sz_le (by simp), rfl, by rw [if_pos (.inl hw)]; rfl⟩
      · refine ifB_d (c := form = "find") (fun hn => ?_) (fun hn => ?_)
        · refine ⟨_, .inl hd, ?_⟩
          rw [List.length_map]
          refine ifB_d (c := (ws.length : Int) = 6) (fun h6 => ?_) (fun h6 => ?_)
          · exact ⟨sz_le (by simp), rfl, by rw [if_pos (.inr ⟨hn, by omega⟩)]; rfl⟩
          · refine ⟨rfl, ?_⟩
            rw [if_neg (fun z => z.elim (fun z => by rw [hw] at z; cases z) fun z => h6 (by omega))]
            rfl
        · refine ⟨rfl, ?_⟩
          rw [if_neg (fun z => z.elim (fun z => by rw [hw] at z; cases z) fun z => hn z.1)]
          rfl
    rintro ρ' M' ⟨rfl, rfl⟩
    generalize hfx : (if wideB ws form = true ∨ (form = "find" ∧ ws.length = 6) then ([2, 4] : List Int) else look fixT form []) = fx
    repeat (refine ⟨sz_le (by simp), ?_⟩)
    refine ⟨tabD iL namT, rfl, by decide, .inl ⟨_, rfl⟩, sz_le (by simp), _, disp_get iL (t := namT) (by decide +kernel) form, ?_⟩
    rw [show (PD.lst [] : PD) = iL [] from rfl, look_getD iL]
    repeat (refine ⟨sz_le (by simp), ?_⟩)
    refine ⟨_, .inl hd, sz_le (by simp), tabD iL (terT (ws.map PD.str).length), rfl, (by show 5 ≤ 15; decide), .inl ⟨_, rfl⟩, sz_le (by simp), _, disp_get iL (t := terT _) (by unfold terT; simp only [List.map_cons, List.map_nil]; decide +kernel) form, ?_⟩
    rw [show (PD.lst [] : PD) = iL [] from rfl, look_getD iL, List.length_map]
    have f3 : fx.length ≤ 3 := by
      rw [← hfx]
      split
      · simp
      · rcases look_mem fixT form [] with e | ⟨p, hp, _, e⟩
        · rw [e]; simp
        · rw [e]
          have : ∀ p ∈ fixT, p.2.length ≤ 3 := by decide +kernel
          exact this p hp
    have fm : (fx.map PD.int).length = fx.length := List.length_map ..
    unfold plcD fixP leaP at q
    rw [hfx] at q
    cases hw : wideB ws form with
    | true =>
      rw [hw] at q
      refine ⟨tabD PD.int (leaT true), rfl, by decide, .inl ⟨_, rfl⟩, _, disp_get PD.int (t := leaT true) (by decide +kernel) form, ?_⟩
      rw [look_getD PD.int]
      refine ⟨sz_le (by simp), _, rfl, by decide, by decide, sz_le (by decide), _, _, rfl, rfl, sz_le (by rw [fm]; show _ + 1 ≤ _; omega), sz_le (by simp), ?_⟩
      rw [if_pos rfl, iL, List.map_append] at q
      exact q
    | false =>
      rw [hw] at q
      refine ⟨tabD PD.int (leaT false), rfl, by decide, .inl ⟨_, rfl⟩, _, disp_get PD.int (t := leaT false) (by decide +kernel) form, ?_⟩
      rw [look_getD PD.int]
      refine ⟨sz_le (by simp), _, rfl, by decide, by decide, sz_le (by decide), _, _, rfl, rfl, sz_le (by rw [fm]; show _ + 0 ≤ _; omega), sz_le (by simp), ?_⟩
      rw [if_neg (by decide), iL, List.map_append] at q
      exact q
theorem sc_word_spoiled : FnScope ["_law_state", "_law_line", "_law_words", "_law_fixed", "_law_named", "_law_terms", "_law_least", "_law_kind", "_law_at", "_law_wrong"] ["_law_state", "_law_line"] (defScope (topS 30)) := ⟨rfl, rfl, rfl, by decide +kernel, rfl, by decide +kernel, by decide +kernel⟩
set_option maxHeartbeats 16000000 in
theorem ok_word_spoiled {f : Addr} {fd : FuncData} (F : Fun K "_law_word_spoiled" "_law_word_spoiled" (topS 30) f fd) (T : Txt K mg) (c_draw : Callee P w K mg base "_law_draw" ["_law_st", "_law_limit"] (conc aDraw) 1) (c_places_in : Callee P w K mg base "_law_places_in" ["_law_words"] (conc aPlc) 1) : FnOk P w K mg base CX0 2 f fd ["_law_state", "_law_line"] (conc aWSp) := by
  refine F.ok sc_word_spoiled (conc_len fun ds M AQ AX h => ?_) (fun cdv A outer s H vs Q E hr h => ⟨_, (pss_cons (ps_set (i := 2) sc_word_spoiled.nd rfl (Or.inl rfl) (pe_mut (e_split (pv 1) pe_str)))
      (pss_cons (ps_asg (pe_co c_places_in hr (by decide) (by rfl) (pa_cons (pv 2) pa_nil)) (g_lst K (n := 4) rfl (pgs_cons (pg_name (i := 3) sc_word_spoiled.nd rfl (Or.inl rfl)) (pgs_cons (pg_name (i := 4) sc_word_spoiled.nd rfl (Or.inl rfl)) (pgs_cons (pg_name (i := 5) sc_word_spoiled.nd rfl (Or.inl rfl)) (pgs_cons (pg_name (i := 6) sc_word_spoiled.nd rfl (Or.inl rfl)) pgs_nil))))))
      (pss_cons (ps_set (i := 7) sc_word_spoiled.nd rfl (Or.inl rfl) (pe_co c_draw hr (by decide) (by rfl) (pa_cons (pv 0) (pa_cons pe_int pa_nil))))
      (C8.pss_cut (ps_if (PW.pt (pw_and (pt_cmpR op_eq (pv 7) pe_int (nomark _)) (pw_and1 (pt_cmpR (o_neD K hr.units) (pv 3) (pe_lst pa_nil) (nomark _))))) (pss_cons (ps_set (i := 8) sc_word_spoiled.nd rfl (Or.inl rfl) (pe_ix (ix_lst K) (pv 3) (pe_co c_draw hr (by decide) (by rfl) (pa_cons (pv 0) (pa_cons (pe_callB (c_len K) (by rfl) T.n_len (by decide +kernel) (pa_cons (pv 3) pa_nil)) pa_nil))) (fun _ _ => rfl)))
      (pss_one (ps_asg (pe_ix (ix_lst K) (pe_lst (pa_cons pe_str (pa_cons pe_str (pa_cons pe_str (pa_cons pe_str (pa_cons pe_str (pa_cons pe_str pa_nil))))))) (pe_co c_draw hr (by decide) (by rfl) (pa_cons (pv 0) (pa_cons pe_int pa_nil))) (fun _ _ => rfl)) (pg_sub (pv 2) (pv 8) set_list)))) (pss_one (ps_if (PW.pt (pw_and (pt_cmpR op_eq (pv 7) pe_int (nomark _)) (pw_and1 (pt_cmpR (o_neD K hr.units) (pv 4) (pe_lst pa_nil) (nomark _))))) (pss_cons (ps_set (i := 8) sc_word_spoiled.nd rfl (Or.inl rfl) (pe_ix (ix_lst K) (pv 4) (pe_co c_draw hr (by decide) (by rfl) (pa_cons (pv 0) (pa_cons (pe_callB (c_len K) (by rfl) T.n_len (by decide +kernel) (pa_cons (pv 4) pa_nil)) pa_nil))) (fun _ _ => rfl)))
      (pss_one (ps_asg (pe_op o_adds (pe_op o_adds (pe_ix (ix_lst K) (pv 2) (pv 8) (fun _ _ => rfl)) pe_str) (pe_ix (ix_lst K) (pv 2) (pv 8) (fun _ _ => rfl))) (pg_sub (pv 2) (pv 8) set_list)))) (pss_one (ps_if (PW.pt (pw_and (pt_cmpR op_eq (pv 7) pe_int (nomark _)) (pw_and1 (pt_cmpR (o_neD K hr.units) (pv 5) (pe_lst pa_nil) (nomark _))))) (pss_cons (ps_set (i := 8) sc_word_spoiled.nd rfl (Or.inl rfl) (pe_ix (ix_lst K) (pv 5) (pe_co c_draw hr (by decide) (by rfl) (pa_cons (pv 0) (pa_cons (pe_callB (c_len K) (by rfl) T.n_len (by decide +kernel) (pa_cons (pv 5) pa_nil)) pa_nil))) (fun _ _ => rfl)))
      (pss_cons (ps_set (i := 9) sc_word_spoiled.nd rfl (Or.inl rfl) (pe_lst (pa_cons pe_str (pa_cons pe_str (pa_cons pe_str (pa_cons (pe_op o_adds (pe_op o_adds pe_str (pe_op op_rep_str pe_str pe_int)) pe_str) (pa_cons pe_str (pa_cons pe_str (pa_cons pe_str pa_nil)))))))))
      (pss_one (ps_asg (pe_ix (ix_lst K) (pv 9) (pe_co c_draw hr (by decide) (by rfl) (pa_cons (pv 0) (pa_cons (pe_callB (c_len K) (by rfl) T.n_len (by decide +kernel) (pa_cons (pv 9) pa_nil)) pa_nil))) (fun _ _ => rfl)) (pg_sub (pv 2) (pv 8) set_list))))) (pss_one (ps_if (pt_cmpR o_gt (pv 6) pe_int (nomark _)) (pss_one (ps_set (i := 2) sc_word_spoiled.nd rfl (Or.inl rfl) (pe_slice (sl_lst K) (pv 2) po_none (po_some (pv 6))))) (pss_one (ps_expr (e_bm K PySem.F.plainAttrs_list PySem.F.slot_list_append PySem.F.type_list_append mt_append (pv 2) (pa_cons pe_str pa_nil)))))))))))
      (pss_one (ps_ret (e_join K pe_str (pv 2)))))))), body_of (W := W0) inferInstance h fun ds M AQ AX h => ?_⟩)
  · obtain ⟨st, ws, form, rfl, _⟩ := h
    rfl
  · obtain ⟨st, ws, form, rfl, hD, hf, h4, w16, wd, inr, q⟩ := h
    have wne : ws ≠ [] := fun z => by rw [z] at hf; cases hf
    have ll := joinW_len wd w16
    refine ⟨by decide +kernel, sz_le (by omega), fun p hp => ?_⟩
    rw [show Txt.split (Txt.join spc ws) (Str.ofString " ") = ws from split_spc wne fun w hw => (wd w hw).sp]
    have hM : mset M p (.lst (ws.map PD.str)) p = some (.lst (ws.map PD.str)) := mset_same
    have sub : Sub M (mset M p (.lst (ws.map PD.str))) := Sub.new (Sub.refl M) hp
    generalize hM1 : mset M p (.lst (ws.map PD.str)) = M1 at hM sub
    have hD1 := hD.sub sub
    have sub2 : ∀ m, Sub M (mset M1 p m) := fun m => Sub.put sub hp
    refine ⟨.ptr p, ws, form, rfl, sqOf_ptr hM, hf, h4, by omega, rfl, st, 4, rfl, hD1, by decide, by decide, fun kind k0 k1 => ?_⟩
    have len1 : ∀ w ∈ ws, w.length ≤ 200 := fun w hw => by have := (wd w hw).len; omega
    refine ⟨fun ρ' M' => ∃ (dl : PD) (xs : List Str) (o8 o9 : Option PD), ρ' = [some (.ptr st), some (.str (Txt.join spc ws)), some dl, some (iL (fixP ws form)), some (iL (namP form)), some (iL (terP ws form)), some (.int (leaP ws form)), some (.int kind), o8, o9] ∧ lstOf M' dl (xs.map PD.str) ∧ (∀ x ∈ xs, x.length ≤ 200) ∧ xs.length ≤ 17 ∧ Sub M M' ∧ WSp ws form (Txt.join spc xs), ?_, ?_⟩
    · have idx : ∀ (ks : List Int), (∀ i ∈ ks, 0 ≤ i ∧ i < (ws.length : Int)) → ∀ r : Nat, (r : Int) < ((ks.map PD.int).length : Int) → ∃ n : Nat, ks[r]? = some (n : Int) ∧ n < ws.length ∧ (n : Int) ∈ ks := fun ks hk r h => by
        rw [List.length_map] at h
        obtain ⟨i, hi⟩ : ∃ i, ks[r]? = some i := ⟨_, List.getElem?_eq_getElem (by omega)⟩
        have hm := List.mem_of_getElem? hi
        obtain ⟨i0, i1⟩ := hk i hm
        obtain ⟨n, rfl⟩ := Int.eq_ofNat_of_zero_le i0
        exact ⟨n, hi, by omega, hm⟩
      have lim : ∀ ks : List Int, ks ≠ [] → ks.length ≤ 10 → 0 < ((ks.map PD.int).length : Int) ∧ ((ks.map PD.int).length : Int) ≤ 10 := fun ks ne l => by
        rw [List.length_map]; have := List.length_pos_iff.mpr ne; omega
      have done : ∀ (n : Nat) (o : Str), n < ws.length → o.length ≤ 200 → WSp ws form (Txt.join spc (ws.set n o)) → ∀ o9 : Option PD, ∃ (dl : PD) (xs : List Str) (o8 o9' : Option PD), ([some (.ptr st), some (.str (Txt.join spc ws)), some (.ptr p), some (iL (fixP ws form)), some (iL (namP form)), some (iL (terP ws form)), some (.int (leaP ws form)), some (.int kind), some (.int (n : Int)), o9] : AEnv) = [some (.ptr st), some (.str (Txt.join spc ws)), some dl, some (iL (fixP ws form)), some (iL (namP form)), some (iL (terP ws form)), some (.int (leaP ws form)), some (.int kind), o8, o9'] ∧ lstOf (mset M1 p (.lst ((ws.map PD.str).set n (.str o)))) dl (xs.map PD.str) ∧ (∀ x ∈ xs, x.length ≤ 200) ∧ xs.length ≤ 17 ∧ Sub M (mset M1 p (.lst ((ws.map PD.str).set n (.str o)))) ∧ WSp ws form (Txt.join spc xs) := fun n o hn ho hw o9 => by
        refine ⟨_, ws.set n o, _, _, rfl, ?_, fun x hx => ?_, by rw [List.length_set]; omega, sub2 _, hw⟩
        · rw [List.map_set]
          exact .inl (sqOf_ptr mset_same)
        · rcases mem_set hx with e | hx
          · rw [e]; exact ho
          · exact len1 x hx
      refine ifS_kl rfl rfl (fun ne => ?_) (ifS_kl rfl rfl (fun ne => ?_) (ifS_kl rfl rfl (fun ne => ?_) ?_))
      · obtain ⟨b1, b2⟩ := lim _ ne (fix_len ws form)
        refine ⟨_, .inl rfl, st, _, rfl, hD1, b1, by omega, fun r r0 r1 => ?_⟩
        obtain ⟨rn, rfl⟩ := Int.eq_ofNat_of_zero_le r0
        obtain ⟨n, hn, nl, nm⟩ := idx _ (fun i hi => inr i (List.mem_append_left _ (List.mem_append_left _ hi))) rn r1
        refine ⟨_, _, rfl, atI_at (map_at hn), sz_le (by simp), st, 6, rfl, hD1, by decide, by decide, fun o o0 o1 => ?_⟩
        obtain ⟨on, rfl⟩ := Int.eq_ofNat_of_zero_le o0
        obtain ⟨ow, ho⟩ : ∃ ow, opsW[on]? = some ow := ⟨_, List.getElem?_eq_getElem (by show on < 6; omega)⟩
        have hom := List.mem_of_getElem? ho
        have ol : ∀ w ∈ opsW, w.length ≤ 200 := by decide +kernel
        refine ⟨opsW.map PD.str, .str ow, rfl, atI_at (map_at ho), _, n, hM, by rw [List.length_map]; exact ixN_at nl, ?_⟩
        exact done n ow nl (ol _ hom) (.fix nm hom) none
      · obtain ⟨b1, b2⟩ := lim _ ne (nam_len form)
        refine ⟨_, .inl rfl, st, _, rfl, hD1, b1, by omega, fun r r0 r1 => ?_⟩
        obtain ⟨rn, rfl⟩ := Int.eq_ofNat_of_zero_le r0
        obtain ⟨n, hn, nl, nm⟩ := idx _ (fun i hi => inr i (List.mem_append_left _ (List.mem_append_right _ hi))) rn r1
        obtain ⟨wn, hwn⟩ : ∃ wn, ws[n]? = some wn := ⟨_, List.getElem?_eq_getElem nl⟩
        have wl := (wd wn (List.mem_of_getElem? hwn)).len
        have pd : (Str.ofString ".").length = 1 := by decide +kernel
        refine ⟨_, _, rfl, atI_at (map_at hn), _, _, sqOf_ptr hM, atI_at (map_at hwn), sz_le (by omega), _, _, sqOf_ptr hM, atI_at (map_at hwn), sz_le (by rw [app_len]; omega), _, n, hM, by rw [List.length_map]; exact ixN_at nl, ?_⟩
        exact done n (wn ++ Str.ofString "." ++ wn) nl (by rw [app_len, app_len]; omega) (.nam nm hwn) none
      · obtain ⟨b1, b2⟩ := lim _ ne (ter_len ws form)
        refine ⟨_, .inl rfl, st, _, rfl, hD1, b1, by omega, fun r r0 r1 => ?_⟩
        obtain ⟨rn, rfl⟩ := Int.eq_ofNat_of_zero_le r0
        obtain ⟨n, hn, nl, nm⟩ := idx _ (fun i hi => inr i (List.mem_append_right _ hi)) rn r1
        refine ⟨_, _, rfl, atI_at (map_at hn), ⟨by decide, by decide, by decide +kernel⟩, sz_le (by decide +kernel), sz_le (by decide +kernel), sz_le (by simp), _, .inl rfl, st, 7, rfl, hD1, by decide, by decide, fun o o0 o1 => ?_⟩
        obtain ⟨on, rfl⟩ := Int.eq_ofNat_of_zero_le o0
        obtain ⟨ow, ho⟩ : ∃ ow, wrongW[on]? = some ow := ⟨_, List.getElem?_eq_getElem (by show on < 7; omega)⟩
        have hom := List.mem_of_getElem? ho
        have ol : ∀ w ∈ wrongW, w.length ≤ 200 := by decide +kernel
        refine ⟨wrongW.map PD.str, .str ow, rfl, atI_at (map_at ho), _, n, hM, by rw [List.length_map]; exact ixN_at nl, ?_⟩
        exact done n ow nl (ol _ hom) (.ter nm hom) _
      · refine ifB_d (c := 0 < leaP ws form) (fun hc => ?_) (fun hc => ?_)
        · obtain ⟨n, hn⟩ := Int.eq_ofNat_of_zero_le (Int.le_of_lt hc)
          have hw := WSp.cut hc
          refine ⟨_, sqOf_ptr hM, ?_⟩
          rw [hn] at hw ⊢
          rw [Int.toNat_natCast] at hw
          rw [cutT_all]
          exact ⟨_, ws.take n, _, _, rfl, .inl rfl, fun x hx => len1 x (List.mem_of_mem_take hx), by rw [List.length_take]; omega, sub, hw⟩
        · refine ⟨⟨_, sqOf_ptr hM⟩, _, hM, sz_lt (by rw [List.length_map]; omega), ?_⟩
          refine ⟨_, ws ++ [Str.ofString "a"], _, _, rfl, ?_, fun x hx => ?_, by rw [List.length_append]; show _ + 1 ≤ _; omega, sub2 _, .more hc⟩
          · rw [List.map_append]
            exact .inl (sqOf_ptr mset_same)
          · rcases List.mem_append.mp hx with hx | hx
            · exact len1 x hx
            · rw [List.mem_singleton.mp hx]; decide +kernel
    · rintro ρ' M' ⟨dl, xs, o8, o9, rfl, hl, h2, h17, s', hw⟩
      exact ⟨xs, hl, sum_200 h2 (by omega), q _ hw M' s'⟩
end
end OA

/-! ### k04: lines that are no line -/
namespace OA
open PySem PySem.Spec PyProof.Rows L2
theorem spl_chars (s : Nat) : ∀ (r acc : List Nat), ∀ p ∈ TL.spl [s] 0 acc r, ∀ d ∈ p, d ∈ acc ∨ d ∈ r
  | [], acc => by
    rw [TL.spl_nil]
    intro p hp d hd
    rw [List.mem_singleton.mp hp] at hd
    exact .inl hd
  | c :: r, acc => by
    cases h : TL.pre [s] (c :: r) with
    | true =>
      rw [TL.spl_hit h]
      intro p hp d hd
      rcases List.mem_cons.mp hp with e | e
      · rw [e] at hd; exact .inl hd
      · rcases spl_chars s r [] p e d hd with g | g
        · cases g
        · exact .inr (List.mem_cons_of_mem _ g)
    | false =>
      rw [TL.spl_miss h]
      intro p hp d hd
      rcases spl_chars s r (acc ++ [c]) p hp d hd with g | g
      · rcases List.mem_append.mp g with g | g
        · exact .inl g
        · rw [List.mem_singleton.mp g]; exact .inr List.mem_cons_self
      · exact .inr (List.mem_cons_of_mem _ g)
/-- a word's signs are among the text's signs -/
theorem spc_chars {x p : Str} (h : p ∈ Txt.split x spc) {d : Nat} (hd : d ∈ p.cps.toList) : d ∈ x.cps.toList := by
  have e := TL.split_spl x spc (by decide +kernel) (TL.kind_ok (by decide +kernel))
  have es : TL.tl spc = [32] := by decide +kernel
  rw [es] at e
  have hm : TL.tl p ∈ TL.spl [32] 0 [] (TL.tl x) := by rw [← e]; exact List.mem_map.mpr ⟨p, h, rfl⟩
  rcases spl_chars 32 (TL.tl x) [] (TL.tl p) hm d hd with g | g
  · cases g
  · exact g
theorem upper_chars {x : Str} {d : Nat} (h : d ∈ (Txt.upper x).cps.toList) : ∃ c ∈ x.cps.toList, d ∈ Unicode.upperOf c := by
  unfold Txt.upper placed at h
  rw [Array.toList_flatten, List.mem_flatten] at h
  obtain ⟨l, hl, hd⟩ := h
  obtain ⟨a, ha, rfl⟩ := List.mem_map.mp hl
  have ha := Array.mem_toList_iff.mp ha
  obtain ⟨i, hi, rfl⟩ := Array.mem_mapIdx.mp ha
  exact ⟨_, Array.mem_toList_iff.mpr (Array.getElem_mem hi), by simpa using hd⟩
/-- the signs of a drawn line: blank, dot, letters and digits -/
def LnCh (c : Nat) : Prop := c = 32 ∨ c = 46 ∨ Alnum c
def upOk : Bool := (List.range 123).all fun c => if c = 32 ∨ c = 46 ∨ (97 ≤ c ∧ c ≤ 122) ∨ (48 ≤ c ∧ c ≤ 57) then (Unicode.upperOf c).all fun d => d != 10 && !(decide (97 ≤ d) && decide (d ≤ 122)) else true
theorem up_ok : upOk = true := by decide +kernel
theorem up_of {c d : Nat} (h : LnCh c) (hd : d ∈ Unicode.upperOf c) : d ≠ 10 ∧ ¬ (97 ≤ d ∧ d ≤ 122) := by
  have h1 : c = 32 ∨ c = 46 ∨ (97 ≤ c ∧ c ≤ 122) ∨ (48 ≤ c ∧ c ≤ 57) := by
    unfold LnCh Alnum Low at h
    omega
  have h2 := List.all_eq_true.mp up_ok c (List.mem_range.mpr (by omega))
  rw [if_pos h1] at h2
  have h3 := List.all_eq_true.mp h2 d hd
  simp at h3
  exact ⟨h3.1, fun z => by have := h3.2; omega⟩
theorem replace_split {x y z : Str} {ws : List Str} (h : Txt.split x y = ws) (h2 : 2 ≤ ws.length) (hy : (y.length == 0) = false) : Txt.replace x y z = Txt.join z ws := by
  unfold Txt.split at h
  split at h
  · rw [← h] at h2; simp at h2
  · split at h
    · rw [← h] at h2; simp at h2
    · rename_i ho
      unfold Txt.replace
      rw [if_neg (by rw [hy]; simpa using ho), h]
      rfl
def BadW (ws : List Str) : Prop := ∀ s, rdLine s ws = .error .bad
theorem bad_nil : BadW [] := fun _ => rfl
theorem rd_bad {w : Str} {r : List Str} (h1 : w = Str.ofString "root" → ¬ (1 < r.length ∧ r.all isNameB = true)) (h2 : w = Str.ofString "table" → ¬ (2 < r.length ∧ r.all isNameB = true))
    (h3 : w = Str.ofString "owner" → ¬ (r.length = 2 ∧ isNameB (r.getD 0 Str.empty) = true ∧ isPathB (r.getD 1 Str.empty) = true)) (h4 : w = Str.ofString "follow" → ¬ (r.length = 3 ∧ r.all isNameB = true)) : BadW (w :: r) := fun s => by
  rw [rdLine_cons, if_neg (fun z => h1 z.1 z.2), if_neg (fun z => h2 z.1 z.2), if_neg (fun z => h3 z.1 z.2), if_neg (fun z => h4 z.1 z.2)]
theorem name_no {l : Str} (h : isNameB l = true) : ∀ c ∈ l.cps.toList, c ∈ sgnL := by
  unfold isNameB at h
  rw [Bool.and_eq_true] at h
  intro c hc
  exact of_decide_eq_true (List.all_eq_true.mp h.2 c hc)
theorem name_path {l : Str} (h : isNameB l = true) : isPathB l = true := by
  have no : 46 ∉ l.cps.toList := fun hm => by
    have := name_no h 46 hm
    exact absurd this (by decide +kernel)
  have sp : Txt.split l dotS = [l] := by
    have := split_dot (ws := [l]) (by simp) (fun w hw => by rw [List.mem_singleton.mp hw]; exact no)
    rwa [join_one] at this
  unfold isPathB
  rw [sp]
  show (true && (isNameB l && true)) = true
  rw [h]
  rfl
theorem path_bad {q : List Str} {y : Str} (nd : ∀ w ∈ q, 46 ∉ w.cps.toList) (hy : y ∈ q) (h : isNameB y = false) : isPathB (Txt.join dotS q) = false := by
  have ne : q ≠ [] := fun z => by rw [z] at hy; cases hy
  unfold isPathB
  rw [split_dot ne nd]
  have : q.all isNameB = false := by
    cases e : q.all isNameB with
    | false => rfl
    | true => rw [List.all_eq_true.mp e y hy] at h; cases h
  rw [this, Bool.and_false]
theorem bad_last {ini : List Str} {l : Str} (hi : ini ≠ []) (hp : isPathB l = false) : BadW (ini ++ [l]) := by
  have hn : isNameB l = false := by
    cases e : isNameB l with
    | false => rfl
    | true => rw [name_path e] at hp; cases hp
  obtain ⟨w, r, rfl⟩ : ∃ w r, ini = w :: r := by cases ini with | nil => exact absurd rfl hi | cons a b => exact ⟨a, b, rfl⟩
  have al : ¬ (r ++ [l]).all isNameB = true := fun z => by
    have := List.all_eq_true.mp z l (by simp)
    rw [hn] at this
    cases this
  refine rd_bad (fun _ z => al z.2) (fun _ z => al z.2) (fun _ z => ?_) (fun _ z => al z.2)
  obtain ⟨z1, _, z3⟩ := z
  have z1 : (r ++ [l]).length = 2 := z1
  have : r.length = 1 := by rw [List.length_append] at z1; exact Nat.succ.inj z1
  obtain ⟨a, rfl⟩ : ∃ a, r = [a] := by
    match r, this with
    | [a], _ => exact ⟨a, rfl⟩
  have z3 : isPathB l = true := z3
  rw [hp] at z3
  cases z3
/-- the lines of a valid text -/
inductive LnF : List Str → Prop
  | root {n : Str} {cols : List Str} : (∀ w ∈ n :: cols, Name 12 w) → cols ≠ [] → cols.length ≤ 4 → LnF (Str.ofString "root" :: n :: cols)
  | table {n p : Str} {cols : List Str} : (∀ w ∈ n :: p :: cols, Name 12 w) → cols ≠ [] → cols.length ≤ 4 → LnF (Str.ofString "table" :: n :: p :: cols)
  | owner {n : Str} {q : List Str} : Name 12 n → q ≠ [] → q.length ≤ 4 → (∀ y ∈ q, Name 12 y) → LnF [Str.ofString "owner", n, Txt.join dotS q]
  | follow {a b c : Str} : Name 12 a → Name 12 b → Name 12 c → LnF [Str.ofString "follow", a, b, c]
def nameOk (w : Str) : Bool := (match w.cps.toList with | c :: _ => decide (97 ≤ c ∧ c ≤ 122) | [] => false) && (w.cps.toList.all fun c => decide ((97 ≤ c ∧ c ≤ 122) ∨ (48 ≤ c ∧ c ≤ 57))) && decide (w.length ≤ 12)
theorem nameOk_name {w : Str} (h : nameOk w = true) : Name 12 w := by
  unfold nameOk at h
  rw [Bool.and_eq_true, Bool.and_eq_true] at h
  obtain ⟨⟨h1, h2⟩, h3⟩ := h
  refine ⟨?_, fun c hc => of_decide_eq_true (p := (97 ≤ c ∧ c ≤ 122) ∨ (48 ≤ c ∧ c ≤ 57)) (List.all_eq_true.mp h2 c hc), of_decide_eq_true h3⟩
  cases e : w.cps.toList with
  | nil => rw [e] at h1; cases h1
  | cons c r => rw [e] at h1; exact ⟨c, r, rfl, of_decide_eq_true (p := 97 ≤ c ∧ c ≤ 122) h1⟩
theorem nm_root : Name 12 (Str.ofString "root") := nameOk_name (by decide +kernel)
theorem nm_table : Name 12 (Str.ofString "table") := nameOk_name (by decide +kernel)
theorem nm_owner : Name 12 (Str.ofString "owner") := nameOk_name (by decide +kernel)
theorem nm_follow : Name 12 (Str.ofString "follow") := nameOk_name (by decide +kernel)
/-- a line of names, the last one a path of names -/
structure LnE (ini q : List Str) : Prop where
  two : 2 ≤ ini.length ∧ ini.length ≤ 6
  nm : ∀ w ∈ ini, Name 12 w
  qn : q ≠ []
  q4 : q.length ≤ 4
  qN : ∀ y ∈ q, Name 12 y
  w0 : ∃ w r, ini = w :: r ∧ (w = Str.ofString "root" ∨ w = Str.ofString "table" ∨ w = Str.ofString "owner" ∨ w = Str.ofString "follow")
theorem snoc_ne {α : Type} {l : List α} (h : l ≠ []) : ∃ a b, l = a ++ [b] := ⟨l.dropLast, l.getLast h, (List.dropLast_concat_getLast h).symm⟩
theorem LnF.e {ws : List Str} (h : LnF ws) : ∃ ini q, ws = ini ++ [Txt.join dotS q] ∧ LnE ini q := by
  cases h with
  | @root n cols hn ne l =>
    obtain ⟨a, b, rfl⟩ := snoc_ne ne
    rw [List.length_append] at l
    refine ⟨Str.ofString "root" :: n :: a, [b], by rw [join_one]; rfl, ⟨by simp, by simp; have : a.length + 1 ≤ 4 := l; omega⟩, fun w hw => ?_, by simp, by simp, fun y hy => by rw [List.mem_singleton.mp hy]; exact hn b (by simp), _, _, rfl, .inl rfl⟩
    rcases List.mem_cons.mp hw with e | hw
    · rw [e]; exact nm_root
    rcases List.mem_cons.mp hw with e | hw
    · rw [e]; exact hn n (by simp)
    · exact hn w (by simp [hw])
  | @table n p cols hn ne l =>
    obtain ⟨a, b, rfl⟩ := snoc_ne ne
    rw [List.length_append] at l
    refine ⟨Str.ofString "table" :: n :: p :: a, [b], by rw [join_one]; rfl, ⟨by simp, by simp; have : a.length + 1 ≤ 4 := l; omega⟩, fun w hw => ?_, by simp, by simp, fun y hy => by rw [List.mem_singleton.mp hy]; exact hn b (by simp), _, _, rfl, .inr (.inl rfl)⟩
    rcases List.mem_cons.mp hw with e | hw
    · rw [e]; exact nm_table
    rcases List.mem_cons.mp hw with e | hw
    · rw [e]; exact hn n (by simp)
    rcases List.mem_cons.mp hw with e | hw
    · rw [e]; exact hn p (by simp)
    · exact hn w (by simp [hw])
  | @owner n q hn ne l hq =>
    refine ⟨[Str.ofString "owner", n], q, rfl, ⟨by simp, by simp⟩, fun w hw => ?_, ne, l, hq, _, _, rfl, .inr (.inr (.inl rfl))⟩
    simp at hw
    rcases hw with e | e <;> rw [e]
    · exact nm_owner
    · exact hn
  | @follow a b c ha hb hc =>
    refine ⟨[Str.ofString "follow", a, b], [c], by rw [join_one]; rfl, ⟨by simp, by simp⟩, fun w hw => ?_, by simp, by simp, fun y hy => by rw [List.mem_singleton.mp hy]; exact hc, _, _, rfl, .inr (.inr (.inr rfl))⟩
    simp at hw
    rcases hw with e | e | e <;> rw [e]
    · exact nm_follow
    · exact ha
    · exact hb
/-! texts and their words -/
theorem str_eq {a b : Str} (h : a.cps.toList = b.cps.toList) : a = b := by
  obtain ⟨x⟩ := a
  obtain ⟨y⟩ := b
  have h : x = y := Array.toList_inj.mp h
  rw [h]
theorem emp_list : (Str.ofString "").cps.toList = [] := by decide +kernel
theorem app_emp (a : Str) : a ++ Str.ofString "" = a := str_eq (by rw [app_list, emp_list, List.append_nil])
theorem emp_app (a : Str) : Str.ofString "" ++ a = a := str_eq (by rw [app_list, emp_list, List.nil_append])
theorem splitW_ws {ws : List Str} (ne : ws ≠ []) (h : ∀ w ∈ ws, 32 ∉ w.cps.toList) (h0 : Str.ofString "" ∉ ws) : splitW (Txt.join spc ws) = ws := by
  unfold splitW
  rw [split_spc ne h, if_neg h0]
theorem splitW_hole {ws : List Str} (h : ∀ w ∈ ws, 32 ∉ w.cps.toList) (h0 : Str.ofString "" ∈ ws) : splitW (Txt.join spc ws) = [] := by
  unfold splitW
  rw [split_spc (fun z => by rw [z] at h0; cases h0) h, if_pos h0]
theorem bad_one (w : Str) : BadW [w] := rd_bad (fun _ z => absurd z.1 (by decide)) (fun _ z => absurd z.1 (by decide)) (fun _ z => absurd z.1 (by decide)) (fun _ z => absurd z.1 (by decide))
theorem bad_two (w a : Str) : BadW [w, a] := rd_bad (fun _ z => absurd z.1 (show ¬ 1 < 1 by decide)) (fun _ z => absurd z.1 (show ¬ 2 < 1 by decide)) (fun _ z => absurd z.1 (show ¬ 1 = 2 by decide)) (fun _ z => absurd z.1 (show ¬ 1 = 3 by decide))
/-- words without a blank: the line is bad if they are, or if one is empty -/
theorem bad_join {ws : List Str} (h : ∀ w ∈ ws, 32 ∉ w.cps.toList) (hb : BadW ws) : BadW (splitW (Txt.join spc ws)) := by
  by_cases ne : ws = []
  · subst ne
    have : splitW (Txt.join spc []) = [] := by decide +kernel
    rw [this]
    exact bad_nil
  · by_cases h0 : Str.ofString "" ∈ ws
    · rw [splitW_hole h h0]; exact bad_nil
    · rw [splitW_ws ne h h0]; exact hb
theorem hole_join {ws : List Str} (h : ∀ w ∈ ws, 32 ∉ w.cps.toList) (h0 : Str.ofString "" ∈ ws) : BadW (splitW (Txt.join spc ws)) := by
  rw [splitW_hole h h0]
  exact bad_nil
def dbl : List Str → List Str
  | [] => []
  | [a] => [a]
  | a :: r => a :: Str.ofString "" :: dbl r
theorem dbl_ne : ∀ {ws : List Str}, ws ≠ [] → dbl ws ≠ []
  | [], h => absurd rfl h
  | [_], _ => by simp [dbl]
  | _ :: _ :: _, _ => by simp [dbl]
theorem dbl_mem : ∀ {ws : List Str} {w : Str}, w ∈ dbl ws → w = Str.ofString "" ∨ w ∈ ws
  | [], w, h => by cases h
  | [a], w, h => .inr h
  | a :: b :: r, w, h => by
    have h : w ∈ a :: Str.ofString "" :: dbl (b :: r) := h
    rcases List.mem_cons.mp h with e | h
    · exact .inr (by rw [e]; simp)
    rcases List.mem_cons.mp h with e | h
    · exact .inl e
    · exact (dbl_mem h).imp id (List.mem_cons_of_mem _)
theorem two_blanks : Str.ofString "  " = spc ++ spc := by decide +kernel
theorem dbl_join : ∀ {ws : List Str}, Txt.join (Str.ofString "  ") ws = Txt.join spc (dbl ws)
  | [] => by show Txt.join _ [] = Txt.join _ []; rw [TL.join_eq, TL.join_eq]; rfl
  | [a] => by show _ = Txt.join spc [a]; rw [join_one, join_one]
  | a :: b :: r => by
    show _ = Txt.join spc (a :: Str.ofString "" :: dbl (b :: r))
    have e := dbl_join (ws := b :: r)
    rw [join_two (y := Str.ofString "  ") (a := a) (r := b :: r) (by simp), join_two (y := spc) (a := a) (r := Str.ofString "" :: dbl (b :: r)) (by simp), join_two (y := spc) (a := Str.ofString "") (dbl_ne (by simp)), emp_app, e, two_blanks]
    simp only [app_assoc]
theorem nl_app {a b : Str} (h1 : 10 ∉ a.cps.toList) (h2 : 10 ∉ b.cps.toList) : 10 ∉ (a ++ b).cps.toList := by
  rw [app_list]
  exact fun h => (List.mem_append.mp h).elim h1 h2
theorem sp_app {c : Nat} {a b : Str} (h1 : c ∉ a.cps.toList) (h2 : c ∉ b.cps.toList) : c ∉ (a ++ b).cps.toList := by
  rw [app_list]
  exact fun h => (List.mem_append.mp h).elim h1 h2
end OA

/-! ### k04: every spoiled line is bad -/
namespace OA
open PySem PySem.Spec PyProof.Rows L2
theorem name_sgn {x : Str} {d : Nat} (hd : d ∈ x.cps.toList) (h : d ∉ sgnL) : isNameB x = false := by
  cases e : isNameB x with
  | false => rfl
  | true => exact absurd (name_no e d hd) h
theorem name_long {x : Str} (h : 12 < x.length) : isNameB x = false := by
  unfold isNameB
  rw [show decide (x.length ≤ 12) = false from decide_eq_false (by omega), Bool.and_false]
  rfl
theorem name_first {x : Str} {c : Nat} {r : List Nat} (h : x.cps.toList = c :: r) (hc : c ∉ letL) : isNameB x = false := by
  unfold isNameB
  rw [h]
  show (_ && decide (c ∈ letL) && _) = false
  rw [decide_eq_false hc, Bool.and_false, Bool.false_and]
theorem join_end {y c x : Str} : ∀ {cs : List Str}, Txt.join y (cs ++ [c]) ++ x = Txt.join y (cs ++ [c ++ x])
  | [] => by rw [List.nil_append, List.nil_append, join_one, join_one]
  | a :: r => by rw [join_snoc y c (a :: r) (by simp), join_snoc y (c ++ x) (a :: r) (by simp), app_assoc]
theorem join_front {y c x : Str} : ∀ {r : List Str}, x ++ Txt.join y (c :: r) = Txt.join y ((x ++ c) :: r)
  | [] => by rw [join_one, join_one]
  | a :: r => by
    rw [join_two (y := y) (a := c) (r := a :: r) (by simp), join_two (y := y) (a := x ++ c) (r := a :: r) (by simp)]
    simp only [app_assoc]
def upLen : Bool := (List.range 123).all fun c => if c = 32 ∨ c = 46 ∨ (97 ≤ c ∧ c ≤ 122) ∨ (48 ≤ c ∧ c ≤ 57) then decide ((Unicode.upperOf c).length ≤ 1) else true
theorem up_len : upLen = true := by decide +kernel
section
variable {ini q : List Str} (E : LnE ini q)
include E
theorem LnE.lwd : Wd (Txt.join dotS q) ∧ Txt.split (Txt.join dotS q) dotS = q := ⟨(dotWd E.qn E.q4 E.qN).1, (dotWd E.qn E.q4 E.qN).2.1⟩
theorem LnE.wd : ∀ w ∈ ini ++ [Txt.join dotS q], Wd w := fun w hw => by
  rcases List.mem_append.mp hw with hw | hw
  · exact (E.nm w hw).wd
  · rw [List.mem_singleton.mp hw]; exact E.lwd.1
theorem LnE.line_len : (Txt.join spc (ini ++ [Txt.join dotS q])).length ≤ 7 * 61 := joinW_len E.wd (by rw [List.length_append]; have := E.two.2; show _ + 1 ≤ _; omega)
theorem LnE.st_len : (Txt.join spc ini).length ≤ 6 * 61 := joinW_len (fun w hw => (E.nm w hw).wd) E.two.2
theorem LnE.line_nl : 10 ∉ (Txt.join spc (ini ++ [Txt.join dotS q])).cps.toList := joinW_nl E.wd
theorem LnE.st_nl : 10 ∉ (Txt.join spc ini).cps.toList := joinW_nl fun w hw => (E.nm w hw).wd
theorem LnE.lch : ∀ c ∈ (Txt.join dotS q).cps.toList, LnCh c := fun c hc => by
  rcases join_mem hc with g | ⟨w, hw, g⟩
  · have e : dotS.cps.toList = [46] := by decide +kernel
    rw [e] at g
    exact .inr (.inl (List.mem_singleton.mp g))
  · exact .inr (.inr ((E.qN w hw).all c g))
theorem LnE.ch : ∀ c ∈ (Txt.join spc (ini ++ [Txt.join dotS q])).cps.toList, LnCh c := fun c hc => by
  rcases join_mem hc with g | ⟨w, hw, g⟩
  · have e : spc.cps.toList = [32] := by decide +kernel
    rw [e] at g
    exact .inl (List.mem_singleton.mp g)
  · rcases List.mem_append.mp hw with hw | hw
    · exact .inr (.inr ((E.nm w hw).all c g))
    · rw [List.mem_singleton.mp hw] at g; exact E.lch c g
/-- another last word -/
theorem LnE.last {l : Str} (h1 : 32 ∉ l.cps.toList) (h2 : 10 ∉ l.cps.toList) (h3 : l.length ≤ 100) (hp : isPathB l = false) : LnOk (Txt.join spc ini ++ spc ++ l) ∧ BadW (splitW (Txt.join spc ini ++ spc ++ l)) := by
  have ne : ini ≠ [] := fun z => by have := E.two.1; rw [z] at this; simp at this
  have sl := E.st_len
  have s1 : spc.length = 1 := by decide +kernel
  refine ⟨⟨nl_app (nl_app E.st_nl (by decide +kernel)) h2, by rw [app_len, app_len]; omega⟩, ?_⟩
  rw [← join_snoc spc l ini ne]
  refine bad_join (fun w hw => ?_) (bad_last ne hp)
  rcases List.mem_append.mp hw with hw | hw
  · exact (E.nm w hw).wd.sp
  · rw [List.mem_singleton.mp hw]; exact h1
/-- the last word's last name longer, or with a wrong sign -/
theorem LnE.ended {cs : List Str} {c x : Str} (hc : q = cs ++ [c]) (h1 : 32 ∉ x.cps.toList) (h2 : 10 ∉ x.cps.toList) (h4 : 46 ∉ x.cps.toList) (hl : x.length ≤ 13) (hx : isNameB (c ++ x) = false) : LnOk (Txt.join spc ini ++ spc ++ (Txt.join dotS q ++ x)) ∧ BadW (splitW (Txt.join spc ini ++ spc ++ (Txt.join dotS q ++ x))) := by
  obtain ⟨lw, _⟩ := E.lwd
  refine E.last (sp_app lw.sp h1) (nl_app lw.nl h2) (by rw [app_len]; have := lw.len; omega) ?_
  rw [hc, join_end]
  refine path_bad (y := c ++ x) (fun w hw => ?_) (by simp) hx
  have hq : ∀ y ∈ cs ++ [c], 46 ∉ y.cps.toList := fun y hy => (E.qN y (by rw [hc]; exact hy)).no (by unfold Alnum Low; omega)
  rcases List.mem_append.mp hw with hw | hw
  · exact hq w (List.mem_append_left _ hw)
  · rw [List.mem_singleton.mp hw]
    exact sp_app (hq c (by simp)) h4
theorem LnE.upper_len : (Txt.upper (Txt.join spc (ini ++ [Txt.join dotS q]))).length ≤ 7 * 61 := by
  have h := E.line_len
  have hc := E.ch
  generalize Txt.join spc (ini ++ [Txt.join dotS q]) = x at h hc
  refine Nat.le_trans ?_ h
  rw [len_list]
  unfold Txt.upper placed
  show (Array.flatten _).toList.length ≤ _
  rw [Array.toList_flatten, List.length_flatten]
  refine Nat.le_trans (sum_le (B := 1) fun n hn => ?_) ?_
  · obtain ⟨l, hl, rfl⟩ := List.mem_map.mp hn
    obtain ⟨a, ha, rfl⟩ := List.mem_map.mp hl
    obtain ⟨k, hk, rfl⟩ := Array.mem_mapIdx.mp (Array.mem_toList_iff.mp ha)
    have hm := hc _ (Array.mem_toList_iff.mpr (Array.getElem_mem hk))
    have h1 : x.cps[k] = 32 ∨ x.cps[k] = 46 ∨ (97 ≤ x.cps[k] ∧ x.cps[k] ≤ 122) ∨ (48 ≤ x.cps[k] ∧ x.cps[k] ≤ 57) := by
      unfold LnCh Alnum Low at hm
      omega
    have h2 := List.all_eq_true.mp up_len x.cps[k] (List.mem_range.mpr (by omega))
    rw [if_pos h1] at h2
    have h3 := of_decide_eq_true h2
    simpa using h3
  · simp [Str.length]
theorem spoil_bad {cs : List Str} {c x : Str} (hc : Txt.split (Txt.join dotS q) dotS = cs ++ [c]) (hx : x ∈ spoils ini (Txt.join dotS q) c) : LnOk x ∧ BadW (splitW x) := by
  have hq : q = cs ++ [c] := by rw [← E.lwd.2]; exact hc
  have cN : Name 12 c := E.qN c (by rw [hq]; simp)
  have ll := E.line_len
  have sl := E.st_len
  have ln := E.line_nl
  have sn := E.st_nl
  have lw := E.lwd.1
  have wsp : ∀ w ∈ ini ++ [Txt.join dotS q], 32 ∉ w.cps.toList := fun w hw => (E.wd w hw).sp
  have two := E.two
  have wlen : 3 ≤ (ini ++ [Txt.join dotS q]).length := by rw [List.length_append]; show 3 ≤ _ + 1; omega
  obtain ⟨w, r, ew, hw4⟩ := E.w0
  have rne : r ++ [Txt.join dotS q] ≠ [] := by simp
  have ejoin : Txt.join spc (ini ++ [Txt.join dotS q]) = w ++ spc ++ Txt.join spc (r ++ [Txt.join dotS q]) := by rw [ew]; exact join_two rne
  have s1 : (Str.ofString " ").length = 1 := by decide +kernel
  have sx : (Str.ofString "x").length = 1 := by decide +kernel
  have st : (Str.ofString "\t").length = 1 := by decide +kernel
  have sk : (Str.ofString ",").length = 1 := by decide +kernel
  have s9 : (Str.ofString "9").length = 1 := by decide +kernel
  have sd : (Str.ofString ".").length = 1 := by decide +kernel
  have sspc : spc.length = 1 := by decide +kernel
  have lwl := lw.len
  have e1 : ∀ a b : Str, Txt.join spc ini ++ spc ++ Txt.join dotS q ++ a = Txt.join spc ini ++ spc ++ (Txt.join dotS q ++ a) := fun a _ => app_assoc _ _ _
  have jz : ∀ z : Str, z.length ≤ 2 → 10 ∉ z.cps.toList → LnOk (Txt.join z (ini ++ [Txt.join dotS q])) := fun z hz h10 => by
    have h1 := join_len z (ini ++ [Txt.join dotS q])
    have h2 : ((ini ++ [Txt.join dotS q]).map (·.length)).sum ≤ ((ini ++ [Txt.join dotS q]).map (·.length)).length * 60 := sum_le (B := 60) fun x hx => by
      obtain ⟨w, hw, rfl⟩ := List.mem_map.mp hx
      exact (E.wd w hw).len
    have h3 : (ini ++ [Txt.join dotS q]).length ≤ 7 := by rw [List.length_append]; show _ + 1 ≤ _; omega
    rw [List.length_map] at h2
    have h4 : (ini ++ [Txt.join dotS q]).length * z.length ≤ 7 * 2 := Nat.mul_le_mul h3 hz
    refine ⟨fun hm => ?_, by omega⟩
    rcases join_mem hm with g | ⟨w, hw, g⟩
    · exact h10 g
    · exact (E.wd w hw).nl g
  have spl : Txt.split (Txt.join spc (ini ++ [Txt.join dotS q])) (Str.ofString " ") = ini ++ [Txt.join dotS q] := split_spc (by simp) wsp
  have inin : ini ≠ [] := fun z => by rw [z] at two; simp at two
  have q46 : ∀ y ∈ q, 46 ∉ y.cps.toList := fun y hy => (E.qN y hy).no (by unfold Alnum Low; omega)
  simp only [spoils, List.mem_cons, List.not_mem_nil, or_false] at hx
  rcases hx with rfl | rfl | rfl | rfl | rfl | rfl | rfl | rfl | rfl | rfl | rfl | rfl | rfl | rfl | rfl | rfl | rfl
  · have e : splitW (Str.ofString "") = [] := by decide +kernel
    refine ⟨⟨by decide +kernel, by decide +kernel⟩, ?_⟩
    rw [e]
    exact bad_nil
  · refine ⟨⟨nl_app (by decide +kernel) ln, by rw [app_len]; omega⟩, ?_⟩
    have e : Str.ofString " " ++ Txt.join spc (ini ++ [Txt.join dotS q]) = Txt.join spc (Str.ofString "" :: (ini ++ [Txt.join dotS q])) := by rw [join_two (by simp), emp_app]; rfl
    rw [e]
    refine hole_join (fun z hz => ?_) (by simp)
    rcases List.mem_cons.mp hz with e | hz
    · rw [e]; decide +kernel
    · exact wsp z hz
  · refine ⟨⟨nl_app ln (by decide +kernel), by rw [app_len]; omega⟩, ?_⟩
    have e : Txt.join spc (ini ++ [Txt.join dotS q]) ++ Str.ofString " " = Txt.join spc ((ini ++ [Txt.join dotS q]) ++ [Str.ofString ""]) := by rw [join_snoc spc (Str.ofString "") (ini ++ [Txt.join dotS q]) (by simp), app_emp]; rfl
    rw [e]
    refine hole_join (fun z hz => ?_) (by simp)
    rcases List.mem_append.mp hz with hz | hz
    · exact wsp z hz
    · rw [List.mem_singleton.mp hz]; decide +kernel
  · rw [replace_split spl (by omega) (by decide +kernel)]
    refine ⟨jz _ (by decide +kernel) (by decide +kernel), ?_⟩
    rw [dbl_join]
    refine hole_join (fun z hz => ?_) ?_
    · rcases dbl_mem hz with e | hz
      · rw [e]; decide +kernel
      · exact wsp z hz
    · rw [ew]
      obtain ⟨b, t, eb⟩ : ∃ b t, r ++ [Txt.join dotS q] = b :: t := by cases h : r ++ [Txt.join dotS q] with | nil => exact absurd h rne | cons b t => exact ⟨b, t, rfl⟩
      show Str.ofString "" ∈ dbl (w :: (r ++ [Txt.join dotS q]))
      rw [eb]
      show _ ∈ w :: Str.ofString "" :: dbl (b :: t)
      simp
  · refine ⟨⟨nl_app (by decide +kernel) ln, by rw [app_len]; omega⟩, ?_⟩
    rw [ew, List.cons_append, join_front]
    refine bad_join (fun z hz => ?_) ?_
    · rcases List.mem_cons.mp hz with e | hz
      · rw [e]; exact sp_app (by decide +kernel) (wsp w (by rw [ew]; simp))
      · exact wsp z (by rw [ew]; exact List.mem_cons_of_mem _ hz)
    · rcases hw4 with e | e | e | e <;> rw [e] <;> exact rd_bad (fun z => absurd z (by decide +kernel)) (fun z => absurd z (by decide +kernel)) (fun z => absurd z (by decide +kernel)) (fun z => absurd z (by decide +kernel))
  · have up : ∀ d ∈ (Txt.upper (Txt.join spc (ini ++ [Txt.join dotS q]))).cps.toList, d ≠ 10 ∧ ¬ (97 ≤ d ∧ d ≤ 122) := fun d hd => by
      obtain ⟨c', h1, h2⟩ := upper_chars hd
      exact up_of (E.ch c' h1) h2
    have ul := E.upper_len
    refine ⟨⟨fun h => (up 10 h).1 rfl, by omega⟩, ?_⟩
    have mem : ∀ v ∈ splitW (Txt.upper (Txt.join spc (ini ++ [Txt.join dotS q]))), ∀ d ∈ v.cps.toList, ¬ (97 ≤ d ∧ d ≤ 122) := fun v hv d hd => by
      unfold splitW at hv
      split at hv
      · cases hv
      · exact (up d (spc_chars hv hd)).2
    generalize splitW (Txt.upper (Txt.join spc (ini ++ [Txt.join dotS q]))) = V at mem
    cases V with
    | nil => exact bad_nil
    | cons v r' =>
      have hv := mem v (by simp)
      exact rd_bad (fun z => absurd (show 97 ≤ 111 ∧ 111 ≤ 122 by decide) (hv 111 (by rw [z]; decide +kernel))) (fun z => absurd (show 97 ≤ 97 ∧ 97 ≤ 122 by decide) (hv 97 (by rw [z]; decide +kernel))) (fun z => absurd (show 97 ≤ 111 ∧ 111 ≤ 122 by decide) (hv 111 (by rw [z]; decide +kernel))) (fun z => absurd (show 97 ≤ 111 ∧ 111 ≤ 122 by decide) (hv 111 (by rw [z]; decide +kernel)))
  · have e : (ini ++ [Txt.join dotS q]).getD 0 Str.empty = w := by rw [ew]; rfl
    rw [e]
    have ww := E.wd w (by rw [ew]; simp)
    have e2 : splitW w = [w] := by
      have := splitW_ws (ws := [w]) (by simp) (fun z hz => by rw [List.mem_singleton.mp hz]; exact ww.sp) (fun z => ww.ne (List.mem_singleton.mp z).symm)
      rwa [join_one] at this
    refine ⟨⟨ww.nl, by have := ww.len; omega⟩, ?_⟩
    rw [e2]
    exact bad_one w
  · rw [show Txt.join spc (ini ++ [Txt.join dotS q]) ++ Str.ofString "\t" = Txt.join spc ini ++ spc ++ (Txt.join dotS q ++ Str.ofString "\t") by rw [join_snoc _ _ _ (fun z => by rw [z] at two; simp at two)]; exact app_assoc _ _ _]
    exact E.ended hq (by decide +kernel) (by decide +kernel) (by decide +kernel) (by decide +kernel) (name_sgn (d := 9) (by rw [app_list]; exact List.mem_append_right _ (by decide +kernel)) (by decide +kernel))
  · refine ⟨⟨nl_app sn (by decide +kernel), by rw [app_len]; omega⟩, ?_⟩
    have e : Txt.join spc ini ++ spc = Txt.join spc (ini ++ [Str.ofString ""]) := by rw [join_snoc spc (Str.ofString "") ini inin, app_emp]
    rw [e]
    refine hole_join (fun z hz => ?_) (by simp)
    rcases List.mem_append.mp hz with hz | hz
    · exact wsp z (List.mem_append_left _ hz)
    · rw [List.mem_singleton.mp hz]; decide +kernel
  · rw [app_assoc]
    exact E.ended hq (by decide +kernel) (by decide +kernel) (by decide +kernel) (by decide +kernel) (name_sgn (d := 65) (by rw [app_list]; exact List.mem_append_right _ (by decide +kernel)) (by decide +kernel))
  · rw [app_assoc]
    refine E.last (sp_app (by decide +kernel) lw.sp) (nl_app (by decide +kernel) lw.nl) (by rw [app_len]; omega) ?_
    obtain ⟨q0, qr, eq⟩ : ∃ q0 qr, q = q0 :: qr := by cases h : q with | nil => exact absurd h E.qn | cons b t => exact ⟨b, t, rfl⟩
    rw [eq, join_front]
    refine path_bad (y := Str.ofString "9" ++ q0) (fun z hz => ?_) (by simp) (name_first (c := 57) (r := q0.cps.toList) (by rw [app_list]; rfl) (by decide +kernel))
    rcases List.mem_cons.mp hz with e | hz
    · rw [e]; exact sp_app (by decide +kernel) (q46 q0 (by rw [eq]; simp))
    · exact q46 z (by rw [eq]; exact List.mem_cons_of_mem _ hz)
  · rw [app_assoc]
    have kb : spK c.length ≤ 13 := by unfold spK; split <;> omega
    have kc : 12 < c.length + spK c.length := by unfold spK; have := cN.len; split <;> omega
    have el : (repS (Str.ofString "a") (spK c.length)).cps.toList = List.replicate (spK c.length) 97 := by
      have e1 : Str.ofString "a" = ⟨#[97]⟩ := by decide +kernel
      rw [e1]; exact repS_one 97 _
    have rl : (repS (Str.ofString "a") (spK c.length)).length = spK c.length := by rw [len_list, el, List.length_replicate]
    have no : ∀ d : Nat, d ≠ 97 → d ∉ (repS (Str.ofString "a") (spK c.length)).cps.toList := fun d hd hm => by
      rw [el] at hm
      exact hd (List.mem_replicate.mp hm).2
    exact E.ended hq (no 32 (by decide)) (no 10 (by decide)) (no 46 (by decide)) (by rw [rl]; exact kb) (name_long (by rw [app_len, rl]; exact kc))
  · rw [app_assoc]
    exact E.ended hq (by decide +kernel) (by decide +kernel) (by decide +kernel) (by decide +kernel) (name_sgn (d := 45) (by rw [app_list]; exact List.mem_append_right _ (by decide +kernel)) (by decide +kernel))
  · rw [app_assoc]
    refine E.last (sp_app lw.sp (by decide +kernel)) (nl_app lw.nl (by decide +kernel)) (by rw [app_len]; omega) ?_
    have e : Txt.join dotS q ++ Str.ofString "." = Txt.join dotS (q ++ [Str.ofString ""]) := by rw [join_snoc dotS (Str.ofString "") q E.qn, app_emp]; rfl
    rw [e]
    refine path_bad (y := Str.ofString "") (fun z hz => ?_) (by simp) (by decide +kernel)
    rcases List.mem_append.mp hz with hz | hz
    · exact q46 z hz
    · rw [List.mem_singleton.mp hz]; decide +kernel
  · rw [app_assoc]
    refine E.last (sp_app (by decide +kernel) lw.sp) (nl_app (by decide +kernel) lw.nl) (by rw [app_len]; omega) ?_
    have e : Str.ofString "." ++ Txt.join dotS q = Txt.join dotS (Str.ofString "" :: q) := by rw [join_two E.qn, emp_app]; rfl
    rw [e]
    refine path_bad (y := Str.ofString "") (fun z hz => ?_) (by simp) (by decide +kernel)
    rcases List.mem_cons.mp hz with e | hz
    · rw [e]; decide +kernel
    · exact q46 z hz
  · rw [replace_split spl (by omega) (by decide +kernel)]
    have L := jz (Str.ofString "\t") (by decide +kernel) (by decide +kernel)
    refine ⟨L, ?_⟩
    have no32 : 32 ∉ (Txt.join (Str.ofString "\t") (ini ++ [Txt.join dotS q])).cps.toList := fun hm => by
      rcases join_mem hm with g | ⟨w, hw, g⟩
      · revert g; decide +kernel
      · exact wsp w hw g
    have hb := bad_join (ws := [Txt.join (Str.ofString "\t") (ini ++ [Txt.join dotS q])]) (fun z hz => by rw [List.mem_singleton.mp hz]; exact no32) (bad_one _)
    rwa [join_one] at hb
  · obtain ⟨a, t, et⟩ : ∃ a t, r = a :: t := by
      rw [ew] at two
      cases h : r with
      | nil => rw [h] at two; simp at two
      | cons a t => exact ⟨a, t, rfl⟩
    have e : (ini ++ [Txt.join dotS q]).take 2 = [w] ++ [a] := by rw [ew, et]; rfl
    have wa : Wd a := E.wd a (by rw [ew, et]; simp)
    have ww : Wd w := E.wd w (by rw [ew]; simp)
    rw [e, show Txt.join (Str.ofString " ") ([w] ++ [a]) ++ Str.ofString "," = Txt.join spc ([w] ++ [a ++ Str.ofString ","]) from join_end]
    refine ⟨?_, ?_⟩
    · rw [← join_end]
      have h : LnOk (Txt.join spc ([w] ++ [a])) := words_ln (fun z hz => by
        simp at hz
        rcases hz with e | e <;> rw [e] <;> assumption) (by simp)
      have h2 : (Txt.join spc ([w] ++ [a])).length ≤ 2 * 61 := joinW_len (fun z hz => by
        simp at hz
        rcases hz with e | e <;> rw [e] <;> assumption) (by simp)
      exact ⟨nl_app h.nl (by decide +kernel), by rw [app_len]; omega⟩
    · refine bad_join (fun z hz => ?_) (bad_two _ _)
      simp at hz
      rcases hz with e | e <;> rw [e]
      · exact ww.sp
      · exact sp_app wa.sp (by decide +kernel)
end
end OA

/-! ### k04: a line with a spoiled word is bad; the drawn lines -/
namespace OA
open PySem PySem.Spec PyProof.Rows L2
def Four (form : Str) : Prop := form = Str.ofString "root" ∨ form = Str.ofString "table" ∨ form = Str.ofString "owner" ∨ form = Str.ofString "follow"
theorem four_plc {form : Str} (h : Four form) (ws : List Str) : fixP ws form = [] ∧ terP ws form = [] ∧ form ≠ "new" ∧ wideB ws form = false := by
  have hn : form ≠ "new" := by rcases h with e | e | e | e <;> rw [e] <;> decide +kernel
  have hw : wideB ws form = false := by unfold wideB; rw [decide_eq_false hn]; rfl
  have hf : form ≠ "find" := by rcases h with e | e | e | e <;> rw [e] <;> decide +kernel
  refine ⟨?_, ?_, hn, hw⟩
  · unfold fixP
    rw [hw, if_neg (fun z => z.elim (fun z => by cases z) fun z => hf z.1), if_neg (by decide), List.append_nil]
    rcases h with e | e | e | e <;> rw [e] <;> decide +kernel
  · unfold terP
    rcases look_mem (terT ws.length) form [] with e | ⟨p, hp, hq, _⟩
    · exact e
    · unfold terT at hp
      simp only [List.mem_cons, List.not_mem_nil, or_false] at hp
      exfalso
      have hk : p.1 ∈ [Str.ofString "need", Str.ofString "where", Str.ofString "set", Str.ofString "each", Str.ofString "new"] := by rcases hp with e | e | e | e | e <;> rw [e] <;> simp
      rw [hq] at hk
      rcases h with g | g | g | g <;> rw [g] at hk <;> revert hk <;> decide +kernel
theorem four_nam : namP "root" = [1, 2] ∧ namP "table" = [1, 2, 3] ∧ namP "owner" = [1] ∧ namP "follow" = [1, 2, 3] := by decide +kernel
theorem four_lea {form : Str} (h : Four form) (ws : List Str) : leaP ws form = look (leaT false) form 0 := by
  unfold leaP
  rw [(four_plc h ws).2.2.2]
theorem four_lea4 : look (leaT false) "root" 0 = 2 ∧ look (leaT false) "table" 0 = 3 ∧ look (leaT false) "owner" 0 = 0 ∧ look (leaT false) "follow" 0 = 0 := by decide +kernel
theorem dotted_bad (w : Str) : isNameB (w ++ Str.ofString "." ++ w) = false := name_sgn (d := 46) (by rw [app_list, app_list]; exact List.mem_append_left _ (List.mem_append_right _ (by decide +kernel))) (by decide +kernel)
theorem dotted_wd {w : Str} (h : Name 12 w) : Wd (w ++ Str.ofString "." ++ w) := by
  have d := h.wd
  have l := h.len
  have ld : (Str.ofString ".").length = 1 := by decide +kernel
  refine ⟨sp_app (sp_app d.sp (by decide +kernel)) d.sp, nl_app (nl_app d.nl (by decide +kernel)) d.nl, fun z => ?_, by rw [app_len, app_len]; omega⟩
  have := congrArg Str.length z
  rw [app_len, app_len] at this
  have e : (Str.ofString "").length = 0 := by decide +kernel
  omega
theorem bad_names {w : Str} {r : List Str} (h : w ≠ Str.ofString "owner") {y : Str} (hy : y ∈ r) (hb : isNameB y = false) : BadW (w :: r) := by
  have al : ¬ r.all isNameB = true := fun z => by rw [List.all_eq_true.mp z y hy] at hb; cases hb
  exact rd_bad (fun _ z => al z.2) (fun _ z => al z.2) (fun z => absurd z h) (fun _ z => al z.2)
theorem wd_ln {ws : List Str} (h : ∀ w ∈ ws, Wd w) (n : ws.length ≤ 16) (hb : BadW ws) : LnOk (Txt.join spc ws) ∧ BadW (splitW (Txt.join spc ws)) := ⟨words_ln h n, bad_join (fun w hw => (h w hw).sp) hb⟩
theorem lnf_wd {ws : List Str} (h : LnF ws) : (∀ w ∈ ws, Wd w) ∧ 3 ≤ ws.length ∧ ws.length ≤ 7 := by
  obtain ⟨ini, q, e, E⟩ := h.e
  rw [e]
  exact ⟨E.wd, by rw [List.length_append]; have := E.two; constructor <;> show _ ≤ _ <;> simp <;> omega⟩
theorem set_wd {ws : List Str} {i : Nat} {y : Str} (h : ∀ w ∈ ws, Wd w) (hy : Wd y) : ∀ w ∈ ws.set i y, Wd w := fun w hw => by
  rcases mem_set hw with e | hw
  · rw [e]; exact hy
  · exact h w hw
theorem wd_a : Wd (Str.ofString "a") := ⟨by decide +kernel, by decide +kernel, by decide +kernel, by decide +kernel⟩
theorem wsp_bad {ws : List Str} {form l : Str} (h : LnF ws) (hf : ws[0]? = some form) (hw : WSp ws form l) : LnOk l ∧ BadW (splitW l) := by
  obtain ⟨wd, w3, w7⟩ := lnf_wd h
  have F4 : Four form := by
    cases h with
    | root => cases hf; exact .inl rfl
    | table => cases hf; exact .inr (.inl rfl)
    | owner => cases hf; exact .inr (.inr (.inl rfl))
    | follow => cases hf; exact .inr (.inr (.inr rfl))
  obtain ⟨f0, t0, _, _⟩ := four_plc F4 ws
  obtain ⟨n1, n2, n3, n4⟩ := four_nam
  have lea := four_lea F4 ws
  obtain ⟨l1, l2, l3, l4⟩ := four_lea4
  cases hw with
  | fix hm => rw [f0] at hm; cases hm
  | ter hm => rw [t0] at hm; cases hm
  | @nam i w hm hi =>
    have pos : 1 ≤ i ∧ i ≤ 3 := by
      rcases F4 with e | e | e | e <;> subst e
      · rw [n1] at hm; simp at hm; omega
      · rw [n2] at hm; simp at hm; omega
      · rw [n3] at hm; simp at hm; omega
      · rw [n4] at hm; simp at hm; omega
    obtain ⟨j, rfl⟩ : ∃ j, i = j + 1 := ⟨i - 1, by omega⟩
    have wn : Name 12 w := by
      cases h with
      | root h1 h2 h3 => exact h1 w (List.mem_of_getElem? (i := j) hi)
      | table h1 h2 h3 => exact h1 w (List.mem_of_getElem? (i := j) hi)
      | owner h1 =>
        cases hf
        rw [n3] at hm
        have : j = 0 := by simp at hm; omega
        subst this
        cases hi
        exact h1
      | follow h1 h2 h3 =>
        have := List.mem_of_getElem? (i := j) hi
        simp at this
        rcases this with e | e | e <;> rw [e] <;> assumption
    refine wd_ln (set_wd wd (dotted_wd wn)) (by rw [List.length_set]; omega) ?_
    have hin : ∀ {r : List Str}, r[j]? = some w → (w ++ Str.ofString "." ++ w) ∈ r.set j (w ++ Str.ofString "." ++ w) := fun {r} hr => List.mem_set (get_lt hr) _
    cases h with
    | root h1 h2 h3 => exact bad_names (by decide +kernel) (hin hi) (dotted_bad w)
    | table h1 h2 h3 => exact bad_names (by decide +kernel) (hin hi) (dotted_bad w)
    | @owner n q h1 =>
      cases hf
      rw [n3] at hm
      have : j = 0 := by simp at hm; omega
      subst this
      refine rd_bad (fun z => absurd z (by decide +kernel)) (fun z => absurd z (by decide +kernel)) (fun _ z => ?_) (fun z => absurd z (by decide +kernel))
      have z2 : isNameB (w ++ Str.ofString "." ++ w) = true := z.2.1
      rw [dotted_bad] at z2
      cases z2
    | follow h1 h2 h3 => exact bad_names (by decide +kernel) (hin hi) (dotted_bad w)
  | cut hp =>
    have sub : ∀ k, ∀ w ∈ ws.take k, Wd w := fun k w hw => wd w (List.mem_of_mem_take hw)
    rw [lea] at hp ⊢
    refine wd_ln (sub _) (by rw [List.length_take]; omega) ?_
    cases h with
    | @root n cols h1 h2 h3 =>
      cases hf
      rw [show (look (leaT false) (Str.ofString "root") 0) = 2 from l1]
      exact bad_two _ _
    | @table n p cols h1 h2 h3 =>
      cases hf
      rw [show (look (leaT false) (Str.ofString "table") 0) = 3 from l2]
      exact rd_bad (fun z => absurd z (by decide +kernel)) (fun _ z => absurd z.1 (show ¬ 2 < 2 by decide)) (fun z => absurd z (by decide +kernel)) (fun z => absurd z (by decide +kernel))
    | owner => cases hf; rw [show (look (leaT false) (Str.ofString "owner") 0) = 0 from l3] at hp; exact absurd hp (by decide)
    | follow => cases hf; rw [show (look (leaT false) (Str.ofString "follow") 0) = 0 from l4] at hp; exact absurd hp (by decide)
  | more hp =>
    rw [lea] at hp
    refine wd_ln (fun w hw => ?_) (by rw [List.length_append]; show _ + 1 ≤ _; omega) ?_
    · rcases List.mem_append.mp hw with hw | hw
      · exact wd w hw
      · rw [List.mem_singleton.mp hw]; exact wd_a
    cases h with
    | root => cases hf; rw [show (look (leaT false) (Str.ofString "root") 0) = 2 from l1] at hp; exact absurd (by decide) hp
    | table => cases hf; rw [show (look (leaT false) (Str.ofString "table") 0) = 3 from l2] at hp; exact absurd (by decide) hp
    | owner => exact rd_bad (fun z => absurd z (by decide +kernel)) (fun z => absurd z (by decide +kernel)) (fun _ z => absurd z.1 (show ¬ 3 = 2 by decide)) (fun z => absurd z (by decide +kernel))
    | follow => exact rd_bad (fun z => absurd z (by decide +kernel)) (fun z => absurd z (by decide +kernel)) (fun z => absurd z (by decide +kernel)) (fun _ z => absurd z.1 (show ¬ 4 = 3 by decide))
section
variable {names : List Str} {tb : List TB} (F : For names tb) (W : Words 12 12 names)
include F W
theorem Blk.lnf {ow : List (Nat × Str)} {fo : List (Nat × Str × Str)} (O : OwOk tb ow) (Fo : FoOk tb fo) {k : Nat} {D : List Nat} {ls : List (List Str)} (h : Blk tb ow fo k D ls) : ∀ l ∈ ls, LnF l := by
  induction h with
  | nil => intro l hl; cases hl
  | @tab k D ls x _ hx ih =>
    intro l hl
    rcases List.mem_append.mp hl with hl | hl
    · exact ih l hl
    · rw [List.mem_singleton.mp hl]
      obtain ⟨c1, c2, c3, c4⟩ := F.cols k x hx
      have hpp := F.par k x hx
      have hk := get_lt hx
      have ne : x.cols ≠ [] := fun z => by rw [z] at c1; simp at c1
      unfold tlW
      by_cases hp : x.par < 0
      · rw [if_pos hp]
        refine .root (fun w hw => ?_) ne c2
        rcases List.mem_cons.mp hw with e | hw
        · rw [e]; exact nameAt F W hx
        · exact nameC F W hx hw
      · rw [if_neg hp]
        refine .table (fun w hw => ?_) ne c2
        rcases List.mem_cons.mp hw with e | hw
        · rw [e]; exact nameAt F W hx
        · rcases List.mem_cons.mp hw with e | hw
          · rw [e]; exact nameI F W (by omega)
          · exact nameC F W hx hw
  | @ext k t D ls _ ht hn ih =>
    intro l hl
    rcases List.mem_append.mp hl with hl | hl
    · exact ih l hl
    · rcases List.mem_append.mp hl with hl | hl
      · obtain ⟨e, he, rfl⟩ := List.mem_map.mp hl
        obtain ⟨cs, hc, hz⟩ := O.ok e (ofT_mem he).1
        obtain ⟨q, _, ez, sp, q4, qN, wz⟩ := plcW F W hc hz
        have qn : q ≠ [] := fun z => by rw [z] at sp; exact (dot_bound e.2).2.2 sp
        show LnF [Str.ofString "owner", nmI tb e.1, e.2]
        rw [ez]
        exact .owner (nameI F W hc.lt) qn q4 qN
      · obtain ⟨e, he, rfl⟩ := List.mem_map.mp hl
        obtain ⟨x, y, p, hx, _, hc, hy, hu⟩ := Fo.ok e (ofT_mem he).1
        exact .follow (nameI F W (get_lt hx)) (nameC F W hx hc) (nameC F W hy hu)
end
theorem nam_range {ws : List Str} {form : Str} (h : LnF ws) (hf : ws[0]? = some form) : ∀ k ∈ namP form, 0 ≤ k ∧ k < (ws.length : Int) := by
  obtain ⟨n1, n2, n3, n4⟩ := four_nam
  intro k hk
  cases h with
  | @root n cols h1 h2 h3 =>
    cases hf
    rw [n1] at hk
    have := List.length_pos_iff.mpr h2
    simp at hk ⊢
    omega
  | @table n p cols h1 h2 h3 =>
    cases hf
    rw [n2] at hk
    have := List.length_pos_iff.mpr h2
    simp at hk ⊢
    omega
  | owner =>
    cases hf
    rw [n3] at hk
    simp at hk ⊢
    omega
  | follow =>
    cases hf
    rw [n4] at hk
    simp at hk ⊢
    omega
end OA

/-! ### k04: a text with one bad line -/
namespace OA
open PySem PySem.Spec PyProof.Rows L2
theorem rdAll_pre {a b : List (List Str)} {s s' : Sch} {i : Nat} (h : rdAll s i (a ++ b) = .ok s') : ∃ s1, rdAll s i a = .ok s1 := by
  cases e : rdAll s i a with
  | ok s1 => exact ⟨s1, rfl⟩
  | error x =>
    obtain ⟨j, er⟩ := x
    rw [rdAll_err_app e] at h
    cases h
def BadLn (x : Str) : Prop := LnOk x ∧ BadW (splitW x)
theorem text_bad {wss : List (List Str)} {S : Sch} (hw : ∀ l ∈ wss, l ≠ [] ∧ l.length ≤ 16 ∧ ∀ w ∈ l, Wd w) (hr : rdAll ⟨[], [], []⟩ 1 wss = .ok S) {at_ : Nat} (hat : at_ ≤ wss.length) {x : Str} (hx : BadLn x) {rest : List Str} (hrest : ∀ l ∈ rest, LnOk l) (n : at_ + 1 + rest.length ≤ 400) :
    TxtOk (Txt.join nlS ((wss.map (Txt.join spc)).take at_ ++ x :: rest)) ∧ rdTxt (Txt.join nlS ((wss.map (Txt.join spc)).take at_ ++ x :: rest)) = .error (1 + at_, .bad) ∧ (∀ l ∈ (wss.map (Txt.join spc)).take at_ ++ x :: rest, LnOk l) ∧ ((wss.map (Txt.join spc)).take at_ ++ x :: rest).length ≤ 400 := by
  have ok : ∀ l ∈ (wss.map (Txt.join spc)).take at_ ++ x :: rest, LnOk l := fun l hl => by
    rcases List.mem_append.mp hl with hl | hl
    · obtain ⟨ws, hws, rfl⟩ := List.mem_map.mp (List.mem_of_mem_take hl)
      exact words_ln (hw ws hws).2.2 (hw ws hws).2.1
    · rcases List.mem_cons.mp hl with e | hl
      · rw [e]; exact hx.1
      · exact hrest l hl
  have tl : ((wss.map (Txt.join spc)).take at_).length = at_ := by rw [List.length_take, List.length_map]; omega
  have len : ((wss.map (Txt.join spc)).take at_ ++ x :: rest).length ≤ 400 := by rw [List.length_append, tl, List.length_cons]; omega
  obtain ⟨t1, t2⟩ := lines_ok (by simp) ok len
  refine ⟨t1, ?_, ok, len⟩
  unfold rdTxt
  rw [t2, List.map_append, List.map_cons]
  have e : ((wss.map (Txt.join spc)).take at_).map splitW = wss.take at_ := by
    rw [← List.map_take, List.map_map]
    conv => rhs; rw [← List.map_id (wss.take at_)]
    exact List.map_congr_left fun ws hws => splitW_join (hw ws (List.mem_of_mem_take hws)).1 (hw ws (List.mem_of_mem_take hws)).2.2
  rw [e]
  obtain ⟨s1, h1⟩ := rdAll_pre (a := wss.take at_) (b := wss.drop at_) (by rw [List.take_append_drop]; exact hr)
  rw [rdAll_ok_app h1, List.length_take, Nat.min_eq_left hat]
  exact rdAll_err (hx.2 s1)
theorem bad_more {ws : List Str} {form : Str} (h : LnF ws) (hf : ws[0]? = some form) (hk : form = Str.ofString "owner" ∨ form = Str.ofString "follow") : BadLn (Txt.join spc (ws ++ [Str.ofString "a"])) := by
  refine wsp_bad h hf (.more ?_)
  have F4 : Four form := hk.elim (fun e => .inr (.inr (.inl e))) (fun e => .inr (.inr (.inr e)))
  rw [four_lea F4 ws]
  obtain ⟨_, _, l3, l4⟩ := four_lea4
  rcases hk with e | e
  · rw [e, show (look (leaT false) (Str.ofString "owner") 0) = 0 from l3]; decide
  · rw [e, show (look (leaT false) (Str.ofString "follow") 0) = 0 from l4]; decide
def insW : List Str := ["", " ", "root", "table", "x", "owner", "follow"]
theorem ins_bad : ∀ x ∈ insW, BadLn x := by
  have one : ∀ x ∈ insW, LnOk x := fun x hx => ⟨by revert x; decide +kernel, by revert x; decide +kernel⟩
  have sp : ∀ x ∈ insW, splitW x = [] ∨ splitW x = [x] := by decide +kernel
  intro x hx
  refine ⟨one x hx, ?_⟩
  rcases sp x hx with e | e
  · rw [e]; exact bad_nil
  · rw [e]; exact bad_one x
end OA

/-! ### the law -/
namespace OA
open PySem PySem.Spec PyProof.Rows L2
theorem ifS_and1 {t1 t2 : AT} {A B : AS} {AW : AWX} {D : AEnds} {ρ : AEnv} {M : MH} {c : Prop} (hB : B AW D ρ M) (h1 : ∀ R : Bool → MH → Prop, R true M → R false M → t1 AW ρ M R) (h2 : ∀ R : Bool → MH → Prop, (c → R true M) → R false M → t2 AW ρ M R) (hA : c → A AW D ρ M) : aIfS (aAnd t1 t2) A B AW D ρ M :=
  h1 _ (h2 _ hA hB) hB
theorem told_empty : TxtOk (Str.ofString "") ∧ rdTxt (Str.ofString "") = .error (1, .bad) := by
  have h := (lines_ok (ls := [Str.ofString ""]) (by simp) (fun l hl => by rw [List.mem_singleton.mp hl]; exact (ins_bad _ (by simp [insW])).1) (by simp)).1
  rw [join_one] at h
  refine ⟨h, ?_⟩
  unfold rdTxt
  rw [show (Txt.split (Str.ofString "") nlS).map splitW = [[]] by decide +kernel]
  rfl
section
variable {P : Program} {w : World} {K : PySem.W.Frag} {mg : Str → Option Value} {base : Heap}
theorem sc_law : FnScope ["_law_script", "_law_state", "_law_tables", "_law_lines", "_law_turn", "_law_at", "_law_spoiled", "_law_kind"] ["_law_script"] (defScope (topS 38)) := ⟨rfl, rfl, rfl, by decide +kernel, rfl, by decide +kernel, by decide +kernel⟩
set_option maxHeartbeats 16000000 in
theorem ok_law {f : Addr} {fd : FuncData} (F : Fun K "law" "law" (topS 38) f fd) (T : Txt K mg)
    (c_get_state : Callee P w K mg base "_law_get_state" ["_law_script"] (spState K) 1) (c_draw : Callee P w K mg base "_law_draw" ["_law_st", "_law_limit"] (conc aDraw) 1) (c_get_words : Callee P w K mg base "_law_get_words" ["_law_st", "_law_most", "_law_count"] (conc aWords) 2)
    (c_forest : Callee P w K mg base "_law_forest" ["_law_state", "_law_names", "_law_most"] (conc aForest) 5) (c_get_owners : Callee P w K mg base "_law_get_owners" ["_law_st", "_law_tb"] (conc aOwners) 5)
    (c_schema_lines : Callee P w K mg base "_law_schema_lines" ["_law_state", "_law_tables", "_law_owners", "_law_follows"] (conc aSLines) 2) (c_all_follows : Callee P w K mg base "_law_all_follows" ["_law_state", "_law_tables", "_law_chance"] (conc aFollows) 2)
    (c_get_spoiled : Callee P w K mg base "_law_get_spoiled" ["_law_state", "_law_line"] (conc aSpoil) 2) (c_word_spoiled : Callee P w K mg base "_law_word_spoiled" ["_law_state", "_law_line"] (conc aWSp) 2)
    (c_schema_told : Callee P w K mg base "_law_schema_told" ["_law_text"] (conc aTold) 8) :
    FnOk P w K mg base CX0 9 f fd ["_law_script"] (spLaw K) := by
  refine F.ok sc_law law_len (fun cdv A outer s H vs Q E hr h => ⟨_, (pss_cons (ps_set (i := 1) sc_law.nd rfl (Or.inl rfl) (pe_co c_get_state hr (by decide) (by rfl) (pa_cons (pv 0) pa_nil)))
      (pss_cons (ps_set (i := 2) sc_law.nd rfl (Or.inl rfl) (pe_co c_forest hr (by decide) (by rfl) (pa_cons (pv 1) (pa_cons (pe_co c_get_words hr (by decide) (by rfl) (pa_cons (pv 1) (pa_cons pe_int (pa_cons pe_int pa_nil)))) (pa_cons pe_int pa_nil)))))
      (pss_cons (ps_set (i := 3) sc_law.nd rfl (Or.inl rfl) (pe_co c_schema_lines hr (by decide) (by rfl) (pa_cons (pv 1) (pa_cons (pv 2) (pa_cons (pe_co c_get_owners hr (by decide) (by rfl) (pa_cons (pv 1) (pa_cons (pv 2) pa_nil))) (pa_cons (pe_co c_all_follows hr (by decide) (by rfl) (pa_cons (pv 1) (pa_cons (pv 2) (pa_cons pe_int pa_nil)))) pa_nil))))))
      (pss_cons (ps_if (pt_cmpR (o_neD K hr.units) (pe_co c_schema_told hr (by decide) (by rfl) (pa_cons pe_str pa_nil)) (pe_tup (pa_cons pe_str (pa_cons pe_int pa_nil))) (nomark _)) (pss_one (ps_ret pe_bl)) pss_nil)
      (pss_cons (ps_for PassesOwn.never rfl (pi_range1 (by rfl) T.n_range (pa_cons pe_int pa_nil)) (pg_name (i := 4) sc_law.nd rfl (Or.inl rfl))
      (pss_cons (ps_set (i := 5) sc_law.nd rfl (Or.inl rfl) (pe_co c_draw hr (by decide) (by rfl) (pa_cons (pv 1) (pa_cons (pe_callB (c_len K) (by rfl) T.n_len (by decide +kernel) (pa_cons (pv 3) pa_nil)) pa_nil))))
      (pss_cons (ps_set (i := 6) sc_law.nd rfl (Or.inl rfl) (pe_mut (pe_callTy (c_list K) (by rfl) T.n_list (by decide +kernel) (pa_cons (pv 3) pa_nil))))
      (pss_cons (ps_set (i := 7) sc_law.nd rfl (Or.inl rfl) (pe_co c_draw hr (by decide) (by rfl) (pa_cons (pv 1) (pa_cons pe_int pa_nil))))
      (C8.pss_cut (ps_if (pt_cmpR op_eq (pv 7) pe_int (nomark _)) (pss_one (ps_expr (e_bm K PySem.F.plainAttrs_list PySem.F.slot_list_insert PySem.F.type_list_insert m_insert (pv 6) (pa_cons (pv 5) (pa_cons (pe_ix (ix_lst K) (pe_lst (pa_cons pe_str (pa_cons pe_str (pa_cons pe_str (pa_cons pe_str (pa_cons pe_str (pa_cons pe_str (pa_cons pe_str pa_nil)))))))) (pe_co c_draw hr (by decide) (by rfl) (pa_cons (pv 1) (pa_cons pe_int pa_nil))) (fun _ _ => rfl)) pa_nil))))) (pss_one (ps_if (PW.pt (pw_and (pt_cmpR op_eq (pv 7) pe_int (nomark _)) (pw_and1 (pt_cmpR (o_in K) (pe_ix (ix_lst K) (e_split (pe_ix (ix_lst K) (pv 3) (pv 5) (fun _ _ => rfl)) pe_str) pe_int (fun _ _ => rfl)) (pe_tup (pa_cons pe_str (pa_cons pe_str pa_nil))) (by rfl))))) (pss_one (ps_asg (pe_op o_adds (pe_ix (ix_lst K) (pv 3) (pv 5) (fun _ _ => rfl)) pe_str) (pg_sub (pv 6) (pv 5) set_list))) (pss_cons (ps_asg (pe_co c_get_spoiled hr (by decide) (by rfl) (pa_cons (pv 1) (pa_cons (pe_ix (ix_lst K) (pv 3) (pv 5) (fun _ _ => rfl)) pa_nil))) (pg_sub (pv 6) (pv 5) set_list))
      (pss_one (ps_if (pt_cmpR op_eq (pe_co c_draw hr (by decide) (by rfl) (pa_cons (pv 1) (pa_cons pe_int pa_nil))) pe_int (nomark _)) (pss_one (ps_asg (pe_co c_word_spoiled hr (by decide) (by rfl) (pa_cons (pv 1) (pa_cons (pe_ix (ix_lst K) (pv 3) (pv 5) (fun _ _ => rfl)) pa_nil))) (pg_sub (pv 6) (pv 5) set_list))) pss_nil))))))
      (pss_cons (ps_if (pt_cmpR (o_neD K hr.units) (pe_co c_schema_told hr (by decide) (by rfl) (pa_cons (e_join K pe_str (pv 6)) pa_nil)) (pe_tup (pa_cons pe_str (pa_cons (pe_op o_add (pv 5) pe_int) pa_nil))) (nomark _)) (pss_one (ps_ret pe_bl)) pss_nil)
      (pss_one (ps_if (pt_cmpR o_notN (pe_co c_schema_told hr (by decide) (by rfl) (pa_cons (e_join K pe_str (pv 3)) pa_nil)) pe_non (nomark _)) (pss_one (ps_ret pe_bl)) pss_nil))))))))
      (pss_one (ps_ret (pe_cmpR (o_eqD K hr.units) (pe_co c_schema_told hr (by decide) (by rfl) (pa_cons (e_join K pe_str (pe_op op_cat (pv 3) (pe_lst (pa_cons pe_str pa_nil)))) pa_nil)) (pe_tup (pa_cons pe_str (pa_cons (pe_op o_add (pe_callB (c_len K) (by rfl) T.n_len (by decide +kernel) (pa_cons (pv 3) pa_nil)) pe_int) pa_nil))) (nomark _))))))))), law_of inferInstance h fun st M hD => ?_⟩)
  refine ⟨st, 12, 12, rfl, hD, by decide, by decide, by decide, fun names W => ?_⟩
  refine ⟨st, names, 6, rfl, hD, W, by decide, by decide, fun tb FF one six => ⟨st, names, tb, rfl, hD, FF, W, fun ow OO ol => ⟨st, names, tb, 3, rfl, hD, FF, W, by decide, by decide, fun fo FO fl => ?_⟩⟩⟩
  refine ⟨st, names, tb, ow, fo, rfl, hD, FF, W, OO, FO, by omega, by omega, fun D wss b dA wl => ?_⟩
  obtain ⟨r1, r2, r3, r4⟩ := read_of FF W OO FO one six ol fl b wl
  have lnf := b.lnf FF W OO FO
  have wl2 : wss.length ≤ 366 := Nat.le_trans wl (show _ ≤ 6 * 61 from Nat.mul_le_mul six (by omega))
  have wne := b.len
  have wok : ∀ l ∈ wss, l ≠ [] ∧ l.length ≤ 16 ∧ ∀ w ∈ l, Wd w := fun l hl => by
    obtain ⟨g1, g2, g3⟩ := b.wd FF W OO FO l hl
    exact ⟨g1, by omega, g3⟩
  have wpos : 0 < wss.length := by omega
  have K0 : WssOk wss := ⟨List.length_pos_iff.mp wpos, by omega, wok⟩
  have rdt : rdTxt (txtOf wss) = .ok (schK tb ow fo tb.length D) := r4
  have rd0 : rdAll ⟨[], [], []⟩ 1 wss = .ok (schK tb ow fo tb.length D) := by
    have h := rdt
    rw [K0.rd] at h
    exact h
  have jl : ((wss.map (Txt.join spc)).map PD.str).length = wss.length := by rw [List.length_map, List.length_map]
  obtain ⟨te1, te2⟩ := told_empty
  have askB : Asc (Str.ofString "BadLine") := thrW_asc .bad
  have shB : ∀ i : Int, SeqAt.shaped (tN (Str.ofString "BadLine") i none) = true := fun i => tN_sh askB (fun _ h => nomatch h)
  refine ⟨Str.ofString "", rfl, te1, fun s' hs => (ok_ne hs te2).elim, fun i e he => ?_⟩
  cases te2.symm.trans he
  refine ⟨sz_le (by simp), tN (Str.ofString "BadLine") 1 none, tN (Str.ofString "BadLine") 1 none, named_pd _ _ none, named_pd _ _ none, shB 1, shB 1, ?_⟩
  refine ⟨⟨by decide, by decide⟩, loop_rng (lo := 0) (n := 3) (fun i ρ' M' => ∃ o4 o5 o6 o7 : Option PD, ρ' = [none, some (.ptr st), some (tbD tb), some (sL (wss.map (Txt.join spc))), o4, o5, o6, o7] ∧ Sub M M') ⟨none, none, none, none, rfl, Sub.refl M⟩ ?_ ?_⟩
  · rintro i ρ' M1 hi ⟨o4, o5, o6, o7, rfl, sub⟩
    have hD1 := hD.sub sub
    refine ⟨_, .inl rfl, st, _, rfl, hD1, by rw [jl]; omega, by rw [jl]; omega, fun r r0 r1 => ?_⟩
    obtain ⟨at_, rfl⟩ := Int.eq_ofNat_of_zero_le r0
    rw [jl] at r1
    have hat : at_ < wss.length := by omega
    refine ⟨_, .inl rfl, fun p hp => ?_⟩
    have hM : mset M1 p (.lst ((wss.map (Txt.join spc)).map PD.str)) p = some (.lst ((wss.map (Txt.join spc)).map PD.str)) := mset_same
    have sub1 : Sub M (mset M1 p (.lst ((wss.map (Txt.join spc)).map PD.str))) := Sub.new sub hp
    have hpM : M p = none := sub.none hp
    generalize mset M1 p (.lst ((wss.map (Txt.join spc)).map PD.str)) = M2 at hM sub1
    have hD2 := hD.sub sub1
    refine ⟨st, 3, rfl, hD2, by decide, by decide, fun kind k0 k1 => ?_⟩
    obtain ⟨ws, hws⟩ : ∃ ws, wss[at_]? = some ws := ⟨_, List.getElem?_eq_getElem hat⟩
    have hwm := List.mem_of_getElem? hws
    have hln : (wss.map (Txt.join spc))[at_]? = some (Txt.join spc ws) := map_at hws
    have F := lnf ws hwm
    obtain ⟨wd, w3, w7⟩ := lnf_wd F
    obtain ⟨w0, hw0⟩ : ∃ w0, ws[0]? = some w0 := ⟨_, List.getElem?_eq_getElem (by omega)⟩
    have lnk : ∀ n, ∀ l ∈ (wss.map (Txt.join spc)).drop n, LnOk l := fun n l hl => K0.ln l (List.mem_of_mem_drop hl)
    have dl : ∀ n, at_ ≤ n → ((wss.map (Txt.join spc)).drop n).length + at_ ≤ wss.length := fun n hn => by rw [List.length_drop, List.length_map]; omega
    have e_set : ∀ x : Str, ((wss.map (Txt.join spc)).map PD.str).set at_ (.str x) = ((wss.map (Txt.join spc)).take at_ ++ x :: (wss.map (Txt.join spc)).drop (at_ + 1)).map PD.str := fun x => by
      rw [← List.map_set, List.set_eq_take_append_cons_drop, if_pos (by rw [List.length_map]; exact hat)]
    have e_ins : ∀ x : Str, ((wss.map (Txt.join spc)).map PD.str).take at_ ++ [PD.str x] ++ ((wss.map (Txt.join spc)).map PD.str).drop at_ = ((wss.map (Txt.join spc)).take at_ ++ x :: (wss.map (Txt.join spc)).drop at_).map PD.str := fun x => by
      rw [List.map_append, List.map_cons, List.map_take, List.map_drop, List.append_assoc]; rfl
    have ix : ∀ xs : List PD, xs.length = wss.length → ixN xs.length (at_ : Int) = some at_ := fun xs h => by rw [h]; exact ixN_at hat
    refine ⟨fun ρ' M' => ∃ (x : Str) (rest : List Str), ρ' = [none, some (.ptr st), some (tbD tb), some (sL (wss.map (Txt.join spc))), some (.int (0 + (i : Int))), some (.int (at_ : Int)), some (.ptr p), some (.int kind)] ∧ M' p = some (.lst (((wss.map (Txt.join spc)).take at_ ++ x :: rest).map PD.str)) ∧ BadLn x ∧ (∀ l ∈ rest, LnOk l) ∧ rest.length + at_ ≤ wss.length ∧ Sub M M', ?_, ?_⟩
    · have lln := K0.ln _ (List.mem_map.mpr ⟨ws, hwm, rfl⟩)
      have ll := lln.len
      have lm : ((wss.map (Txt.join spc)).map PD.str).length = wss.length := jl
      refine ifB_d (c := kind = 0) (fun _ => ?_) (fun _ => ?_)
      · refine ⟨⟨_, sqOf_ptr hM⟩, sz_le (by simp), st, 7, rfl, hD2, by decide, by decide, fun q q0 q1 => ?_⟩
        obtain ⟨qn, rfl⟩ := Int.eq_ofNat_of_zero_le q0
        obtain ⟨x, hx⟩ : ∃ x, insW[qn]? = some x := ⟨_, List.getElem?_eq_getElem (by show qn < 7; omega)⟩
        refine ⟨insW.map PD.str, .str x, rfl, atI_at (map_at hx), _, hM, sz_lt (by rw [lm]; omega), by omega, by omega, ?_⟩
        refine ⟨x, (wss.map (Txt.join spc)).drop at_, rfl, ?_, ins_bad x (List.mem_of_getElem? hx), lnk _, dl _ (Nat.le_refl _), Sub.put sub1 hpM⟩
        rw [mset_same, Int.toNat_natCast, e_ins]
      · have fin : ∀ (x : Str) (M3 : MH), M3 p = some (.lst (((wss.map (Txt.join spc)).map PD.str).set at_ (.str x))) → BadLn x → Sub M M3 → ∃ (x : Str) (rest : List Str), ([none, some (.ptr st), some (tbD tb), some (sL (wss.map (Txt.join spc))), some (.int (0 + (i : Int))), some (.int (at_ : Int)), some (.ptr p), some (.int kind)] : AEnv) = [none, some (.ptr st), some (tbD tb), some (sL (wss.map (Txt.join spc))), some (.int (0 + (i : Int))), some (.int (at_ : Int)), some (.ptr p), some (.int kind)] ∧ M3 p = some (.lst (((wss.map (Txt.join spc)).take at_ ++ x :: rest).map PD.str)) ∧ BadLn x ∧ (∀ l ∈ rest, LnOk l) ∧ rest.length + at_ ≤ wss.length ∧ Sub M M3 := fun x M3 h hb hs =>
          ⟨x, (wss.map (Txt.join spc)).drop (at_ + 1), rfl, by rw [h, e_set], hb, lnk _, dl _ (Nat.le_succ _), hs⟩
        refine ifS_and1 (c := w0 ∈ [Str.ofString "owner", Str.ofString "follow"]) ?_ ?_ ?_ ?_
        · obtain ⟨ini, q, ews, E⟩ := F.e
          have e2 := E.two
          refine ⟨_, _, rfl, atI_at (map_at hln), st, ini, Txt.join dotS q, by rw [ews]; rfl, hD2, by omega, E.wd, fun c cs x hc hx => ?_⟩
          have hb : BadLn x := spoil_bad E hc hx
          refine ⟨_, at_, hM, ix _ lm, ?_⟩
          have hM3 : mset M2 p (.lst (((wss.map (Txt.join spc)).map PD.str).set at_ (.str x))) p = some (.lst (((wss.map (Txt.join spc)).map PD.str).set at_ (.str x))) := mset_same
          have sub3 : Sub M (mset M2 p (.lst (((wss.map (Txt.join spc)).map PD.str).set at_ (.str x)))) := Sub.put sub1 hpM
          generalize mset M2 p (.lst (((wss.map (Txt.join spc)).map PD.str).set at_ (.str x))) = M3 at hM3 sub3
          have hD3 := hD.sub sub3
          refine ⟨st, 2, rfl, hD3, by decide, by decide, fun z z0 z1 => ifB_d (c := z = 0) (fun _ => ?_) (fun _ => fin x M3 hM3 hb sub3)⟩
          have F4 : Four w0 := by
            obtain ⟨w', r', ew', h4⟩ := E.w0
            rw [ews, ew'] at hw0
            cases hw0
            exact h4
          obtain ⟨f0, t0, hn, _⟩ := four_plc F4 ws
          refine ⟨_, _, rfl, atI_at (map_at hln), st, ws, w0, rfl, hD3, hw0, fun h => absurd h hn, by omega, wd, fun k hk => ?_, fun l hl M4 s4 => ?_⟩
          · rw [f0, t0, List.nil_append, List.append_nil] at hk
            exact nam_range F hw0 k hk
          · have hb4 : BadLn l := wsp_bad F hw0 hl
            refine ⟨_, at_, s4 p _ hM3, ix _ (by rw [List.length_set]; exact lm), ?_⟩
            rw [List.set_set]
            exact fin l _ mset_same hb4 (Sub.put (sub3.trans s4) hpM)
        · intro R ra rb
          show R (decide (kind = 1)) M2
          cases decide (kind = 1) <;> assumption
        · intro R ra rb
          refine ⟨_, _, rfl, atI_at (map_at hln), by decide +kernel, sz_le (by omega), ?_⟩
          rw [show Txt.split (Txt.join spc ws) (Str.ofString " ") = ws from split_spc (fun z => by rw [z] at hw0; cases hw0) fun w hw => (wd w hw).sp]
          refine ⟨_, _, rfl, atI_at (i := 0) (map_at hw0), sz_le (by simp), _, .inr rfl, [Str.ofString "owner", Str.ofString "follow"], rfl, ?_⟩
          show R (decide (w0 ∈ [Str.ofString "owner", Str.ofString "follow"])) M2
          by_cases h : w0 ∈ [Str.ofString "owner", Str.ofString "follow"]
          · rw [decide_eq_true h]; exact ra h
          · rw [decide_eq_false h]; exact rb
        · intro hc
          have hk : w0 = Str.ofString "owner" ∨ w0 = Str.ofString "follow" := by simpa using hc
          have e : Txt.join spc ws ++ Str.ofString " a" = Txt.join spc (ws ++ [Str.ofString "a"]) := by
            rw [join_snoc spc (Str.ofString "a") ws (fun z => by rw [z] at hw0; cases hw0), show Str.ofString " a" = spc ++ Str.ofString "a" by decide +kernel, app_assoc]
          have la : (Str.ofString " a").length = 2 := by decide +kernel
          refine ⟨_, _, rfl, atI_at (map_at hln), sz_le (by omega), _, at_, hM, ix _ lm, ?_⟩
          refine fin (Txt.join spc ws ++ Str.ofString " a") _ mset_same ?_ (Sub.put sub1 hpM)
          rw [e]
          exact bad_more F hw0 hk
    · rintro ρ' M3 ⟨x, rest, rfl, hM3, hb, hr, rl, sub3⟩
      obtain ⟨t1, t2, t3, t4⟩ := text_bad wok rd0 (at_ := at_) (by omega) hb hr (by omega)
      refine ⟨_, .inl (sqOf_ptr hM3), lines_sum' t3 t4, _, rfl, t1, fun s' hs => (ok_ne hs t2).elim, fun i er he => ?_⟩
      cases t2.symm.trans he
      have ei : ((1 + at_ : Nat) : Int) = (at_ : Int) + 1 := by omega
      refine ⟨sz_le (by simp), tN (Str.ofString "BadLine") ((at_ : Int) + 1) none, tN (Str.ofString "BadLine") ((at_ : Int) + 1) none, by rw [ei]; exact named_pd _ _ none, named_pd _ _ none, shB _, shB _, ?_⟩
      refine ifB_F (by rw [tN_self]; rfl) ?_
      refine ⟨_, .inl rfl, K0.sum, txtOf wss, rfl, K0.ok, fun s' hs => ?_, fun i er he => (ok_ne rdt he).elim⟩
      exact ⟨_, _, _, _, rfl, sub3⟩
  · rintro ρ' M1 ⟨o4, o5, o6, o7, rfl, sub⟩
    obtain ⟨t1, t2, t3, t4⟩ := text_bad wok rd0 (at_ := wss.length) (Nat.le_refl _) (ins_bad (Str.ofString "") (by simp [insW])) (rest := []) (fun _ h => nomatch h) (by simp; omega)
    have et : (wss.map (Txt.join spc)).take wss.length = wss.map (Txt.join spc) := List.take_of_length_le (by rw [List.length_map]; exact Nat.le_refl _)
    rw [et] at t1 t2 t3 t4
    have el : (wss.map (Txt.join spc)).map PD.str ++ [PD.str (Str.ofString "")] = (wss.map (Txt.join spc) ++ [Str.ofString ""]).map PD.str := by rw [List.map_append]; rfl
    refine ⟨sz_le (by simp), _, _, rfl, rfl, sz_le (by rw [jl]; show _ + 1 ≤ _; omega), _, .inl (congrArg some el), lines_sum' t3 t4, _, rfl, t1, fun s' hs => (ok_ne hs t2).elim, fun i er he => ?_⟩
    cases t2.symm.trans he
    have ei : ((1 + wss.length : Nat) : Int) = (((wss.map (Txt.join spc)).map PD.str).length : Int) + 1 := by rw [jl]; omega
    refine ⟨_, .inl rfl, sz_le (by simp), tN (Str.ofString "BadLine") ((((wss.map (Txt.join spc)).map PD.str).length : Int) + 1) none, tN (Str.ofString "BadLine") ((((wss.map (Txt.join spc)).map PD.str).length : Int) + 1) none, by rw [ei]; exact named_pd _ _ none, named_pd _ _ none, shB _, shB _, ?_⟩
    show PD.bl (PyData.eqv _ _) = PD.bl true
    rw [tN_self]
end
end OA

namespace OA
open PySem PySem.Spec PyProof.Rows L2
theorem all_mk {l : PySem.W.OpenLaw} {w : World} {K : PySem.W.Frag} {h : Heap} {mg : Str → Option Value} {fa : Addr} (X : K.In h) (G : h.Ns mainGlobals mg) (hfa : mg "law" = some (.ref fa))
    {C : Addr}
    {t_Schema_MOST_TABLES : Tok}
    {t_Schema_MOST_COLUMNS : Tok}
    {t_Schema_LONGEST_CHAIN : Tok}
    {C_AgreeError : Addr}
    {C_BadLine : Addr}
    {C_TooMany : Addr}
    {C_DuplicateName : Addr}
    {C_UnknownName : Addr}
    {nm_BadLine qq_BadLine : Str} {N_BadLine : Addr} {bs_BadLine : List Value} {sn_BadLine : List Str} {sub_BadLine : List Value} {ab_BadLine : Bool} {col_BadLine : Option Bool} {dd_BadLine : Option Addr} {m0_BadLine m1_BadLine m2_BadLine m3_BadLine m5_BadLine : Option Value}
    {nm_TooMany qq_TooMany : Str} {N_TooMany : Addr} {bs_TooMany : List Value} {sn_TooMany : List Str} {sub_TooMany : List Value} {ab_TooMany : Bool} {col_TooMany : Option Bool} {dd_TooMany : Option Addr} {m0_TooMany m1_TooMany m2_TooMany m3_TooMany m5_TooMany : Option Value}
    {nm_DuplicateName qq_DuplicateName : Str} {N_DuplicateName : Addr} {bs_DuplicateName : List Value} {sn_DuplicateName : List Str} {sub_DuplicateName : List Value} {ab_DuplicateName : Bool} {col_DuplicateName : Option Bool} {dd_DuplicateName : Option Addr} {m0_DuplicateName m1_DuplicateName m2_DuplicateName m3_DuplicateName m5_DuplicateName : Option Value}
    {nm_UnknownName qq_UnknownName : Str} {N_UnknownName : Addr} {bs_UnknownName : List Value} {sn_UnknownName : List Str} {sub_UnknownName : List Value} {ab_UnknownName : Bool} {col_UnknownName : Option Bool} {dd_UnknownName : Option Addr} {m0_UnknownName m1_UnknownName m2_UnknownName m3_UnknownName m5_UnknownName : Option Value}
    {f_is_name : Addr} {od_is_name an_is_name : Option Addr} {sl_is_name : Array (Option Value)} {oc_is_name kV_is_name dc_is_name pm_is_name cd_is_name ct_is_name : Value}
    {f_split_words : Addr} {od_split_words an_split_words : Option Addr} {sl_split_words : Array (Option Value)} {oc_split_words kV_split_words dc_split_words pm_split_words cd_split_words ct_split_words : Value}
    {f_all_names : Addr} {od_all_names an_all_names : Option Addr} {sl_all_names : Array (Option Value)} {oc_all_names kV_all_names dc_all_names pm_all_names cd_all_names ct_all_names : Value}
    {f_is_path : Addr} {od_is_path an_is_path : Option Addr} {sl_is_path : Array (Option Value)} {oc_is_path kV_is_path dc_is_path pm_is_path cd_is_path ct_is_path : Value}
    {f_BadLine___init__ : Addr} {od_BadLine___init__ an_BadLine___init__ : Option Addr} {sl_BadLine___init__ : Array (Option Value)} {oc_BadLine___init__ kV_BadLine___init__ dc_BadLine___init__ pm_BadLine___init__ cd_BadLine___init__ ct_BadLine___init__ : Value}
    {f_TooMany___init__ : Addr} {od_TooMany___init__ an_TooMany___init__ : Option Addr} {sl_TooMany___init__ : Array (Option Value)} {oc_TooMany___init__ kV_TooMany___init__ dc_TooMany___init__ pm_TooMany___init__ cd_TooMany___init__ ct_TooMany___init__ : Value}
    {f_DuplicateName___init__ : Addr} {od_DuplicateName___init__ an_DuplicateName___init__ : Option Addr} {sl_DuplicateName___init__ : Array (Option Value)} {oc_DuplicateName___init__ kV_DuplicateName___init__ dc_DuplicateName___init__ pm_DuplicateName___init__ cd_DuplicateName___init__ ct_DuplicateName___init__ : Value}
    {f_UnknownName___init__ : Addr} {od_UnknownName___init__ an_UnknownName___init__ : Option Addr} {sl_UnknownName___init__ : Array (Option Value)} {oc_UnknownName___init__ kV_UnknownName___init__ dc_UnknownName___init__ pm_UnknownName___init__ cd_UnknownName___init__ ct_UnknownName___init__ : Value}
    {f_Schema_check_table : Addr} {od_Schema_check_table an_Schema_check_table : Option Addr} {sl_Schema_check_table : Array (Option Value)} {oc_Schema_check_table kV_Schema_check_table dc_Schema_check_table pm_Schema_check_table cd_Schema_check_table ct_Schema_check_table : Value}
    {T_Schema_check_table : Addr} {tc_Schema_check_table : Value} {td_Schema_check_table : Option Addr} {tn_Schema_check_table : Nat} {ts_Schema_check_table : Array (Option Value)}
    {dt_Schema_check_table_0 : Tok}
    {f_Schema_chain_of : Addr} {od_Schema_chain_of an_Schema_chain_of : Option Addr} {sl_Schema_chain_of : Array (Option Value)} {oc_Schema_chain_of kV_Schema_chain_of dc_Schema_chain_of pm_Schema_chain_of cd_Schema_chain_of ct_Schema_chain_of : Value}
    {f_Schema_check_position : Addr} {od_Schema_check_position an_Schema_check_position : Option Addr} {sl_Schema_check_position : Array (Option Value)} {oc_Schema_check_position kV_Schema_check_position dc_Schema_check_position pm_Schema_check_position cd_Schema_check_position ct_Schema_check_position : Value}
    {f_Schema___init__ : Addr} {od_Schema___init__ an_Schema___init__ : Option Addr} {sl_Schema___init__ : Array (Option Value)} {oc_Schema___init__ kV_Schema___init__ dc_Schema___init__ pm_Schema___init__ cd_Schema___init__ ct_Schema___init__ : Value}
    {f_read_table : Addr} {od_read_table an_read_table : Option Addr} {sl_read_table : Array (Option Value)} {oc_read_table kV_read_table dc_read_table pm_read_table cd_read_table ct_read_table : Value}
    {f_read_owner : Addr} {od_read_owner an_read_owner : Option Addr} {sl_read_owner : Array (Option Value)} {oc_read_owner kV_read_owner dc_read_owner pm_read_owner cd_read_owner ct_read_owner : Value}
    {f_read_follow : Addr} {od_read_follow an_read_follow : Option Addr} {sl_read_follow : Array (Option Value)} {oc_read_follow kV_read_follow dc_read_follow pm_read_follow cd_read_follow ct_read_follow : Value}
    {f_read_line : Addr} {od_read_line an_read_line : Option Addr} {sl_read_line : Array (Option Value)} {oc_read_line kV_read_line dc_read_line pm_read_line cd_read_line ct_read_line : Value}
    {f_Schema_read : Addr} {od_Schema_read an_Schema_read : Option Addr} {sl_Schema_read : Array (Option Value)} {oc_Schema_read kV_Schema_read dc_Schema_read pm_Schema_read cd_Schema_read ct_Schema_read : Value}
    {p_Schema_read : Addr} {rest_Schema_read : List Value}
    {f_get_named : Addr} {od_get_named an_get_named : Option Addr} {sl_get_named : Array (Option Value)} {oc_get_named kV_get_named dc_get_named pm_get_named cd_get_named ct_get_named : Value}
    {f_schema_told : Addr} {od_schema_told an_schema_told : Option Addr} {sl_schema_told : Array (Option Value)} {oc_schema_told kV_schema_told dc_schema_told pm_schema_told cd_schema_told ct_schema_told : Value}
    {f_draw : Addr} {od_draw an_draw : Option Addr} {sl_draw : Array (Option Value)} {oc_draw kV_draw dc_draw pm_draw cd_draw ct_draw : Value}
    {f_get_state : Addr} {od_get_state an_get_state : Option Addr} {sl_get_state : Array (Option Value)} {oc_get_state kV_get_state dc_get_state pm_get_state cd_get_state ct_get_state : Value}
    {f_get_words : Addr} {od_get_words an_get_words : Option Addr} {sl_get_words : Array (Option Value)} {oc_get_words kV_get_words dc_get_words pm_get_words cd_get_words ct_get_words : Value}
    {f_get_chain : Addr} {od_get_chain an_get_chain : Option Addr} {sl_get_chain : Array (Option Value)} {oc_get_chain kV_get_chain dc_get_chain pm_get_chain cd_get_chain ct_get_chain : Value}
    {f_get_places : Addr} {od_get_places an_get_places : Option Addr} {sl_get_places : Array (Option Value)} {oc_get_places kV_get_places dc_get_places pm_get_places cd_get_places ct_get_places : Value}
    {f_table_line : Addr} {od_table_line an_table_line : Option Addr} {sl_table_line : Array (Option Value)} {oc_table_line kV_table_line dc_table_line pm_table_line cd_table_line ct_table_line : Value}
    {f_forest : Addr} {od_forest an_forest : Option Addr} {sl_forest : Array (Option Value)} {oc_forest kV_forest dc_forest pm_forest cd_forest ct_forest : Value}
    {f_get_owners : Addr} {od_get_owners an_get_owners : Option Addr} {sl_get_owners : Array (Option Value)} {oc_get_owners kV_get_owners dc_get_owners pm_get_owners cd_get_owners ct_get_owners : Value}
    {f_all_follows : Addr} {od_all_follows an_all_follows : Option Addr} {sl_all_follows : Array (Option Value)} {oc_all_follows kV_all_follows dc_all_follows pm_all_follows cd_all_follows ct_all_follows : Value}
    {f_extra_lines : Addr} {od_extra_lines an_extra_lines : Option Addr} {sl_extra_lines : Array (Option Value)} {oc_extra_lines kV_extra_lines dc_extra_lines pm_extra_lines cd_extra_lines ct_extra_lines : Value}
    {f_schema_lines : Addr} {od_schema_lines an_schema_lines : Option Addr} {sl_schema_lines : Array (Option Value)} {oc_schema_lines kV_schema_lines dc_schema_lines pm_schema_lines cd_schema_lines ct_schema_lines : Value}
    {f_get_spoiled : Addr} {od_get_spoiled an_get_spoiled : Option Addr} {sl_get_spoiled : Array (Option Value)} {oc_get_spoiled kV_get_spoiled dc_get_spoiled pm_get_spoiled cd_get_spoiled ct_get_spoiled : Value}
    {f_places_in : Addr} {od_places_in an_places_in : Option Addr} {sl_places_in : Array (Option Value)} {oc_places_in kV_places_in dc_places_in pm_places_in cd_places_in ct_places_in : Value}
    {f_word_spoiled : Addr} {od_word_spoiled an_word_spoiled : Option Addr} {sl_word_spoiled : Array (Option Value)} {oc_word_spoiled kV_word_spoiled dc_word_spoiled pm_word_spoiled cd_word_spoiled ct_word_spoiled : Value}
    {f_law : Addr} {od_law an_law : Option Addr} {sl_law : Array (Option Value)} {oc_law kV_law dc_law pm_law cd_law ct_law : Value}
    {t_LETTERS : Tok}
    {t_SIGNS : Tok}
    {t_LONGEST_NAME : Tok}
    (aC_Schema : PySem.W.nsIn K mainGlobals "Schema" = some (some (.ref C)))
    (pg_Schema : PySem.W.plainGet K C Str.empty = true)
    (hd_Schema : PySem.W.hasDictIn K C = true)
    (po_Schema : PySem.W.plainOver K C = true)
    (sa_Schema : PySem.W.findIn K (.ref C) "__setattr__" = some (some (.builtin "object.__setattr__")))
    (mk_Schema : PySem.W.makesIn K C = true)
    (kc_Schema : PySem.W.keepIn K (.ref C) = true)
    (rd_Schema : PySem.W.readsIn K C (.type "type") = true)
    (sg_Schema : PySem.W.specialIn K (.ref C) "__getattribute__" = some (some (.builtin "type.__getattribute__")))
    (n_text_Schema : PySem.W.findIn K (.ref C) "text" = some none)
    (n_column_lists_Schema : PySem.W.findIn K (.ref C) "column_lists" = some none)
    (n_parents_Schema : PySem.W.findIn K (.ref C) "parents" = some none)
    (n_owners_Schema : PySem.W.findIn K (.ref C) "owners" = some none)
    (n_following_Schema : PySem.W.findIn K (.ref C) "following" = some none)
    (cv_Schema_MOST_TABLES : PySem.W.findCls K (.ref C) (.type "type") "MOST_TABLES" = some (.val (.int 6 t_Schema_MOST_TABLES)))
    (cv_Schema_MOST_COLUMNS : PySem.W.findCls K (.ref C) (.type "type") "MOST_COLUMNS" = some (.val (.int 4 t_Schema_MOST_COLUMNS)))
    (cv_Schema_LONGEST_CHAIN : PySem.W.findCls K (.ref C) (.type "type") "LONGEST_CHAIN" = some (.val (.int 4 t_Schema_LONGEST_CHAIN)))
    (g_AgreeError : PySem.W.nsIn K mainGlobals "AgreeError" = some (some (.ref C_AgreeError)))
    (g_BadLine : PySem.W.nsIn K mainGlobals "BadLine" = some (some (.ref C_BadLine)))
    (g_TooMany : PySem.W.nsIn K mainGlobals "TooMany" = some (some (.ref C_TooMany)))
    (g_DuplicateName : PySem.W.nsIn K mainGlobals "DuplicateName" = some (some (.ref C_DuplicateName)))
    (g_UnknownName : PySem.W.nsIn K mainGlobals "UnknownName" = some (some (.ref C_UnknownName)))
    (x_BadLine : K.lookup C_BadLine = some (PySem.excClassObj nm_BadLine qq_BadLine C_BadLine N_BadLine bs_BadLine [.ref C_AgreeError, .type "ValueError", .type "Exception", .type "BaseException", .type "object"] true sn_BadLine sub_BadLine ab_BadLine col_BadLine dd_BadLine m0_BadLine m1_BadLine m2_BadLine m3_BadLine m5_BadLine "ValueError.__new__"))
    (sa_BadLine : PySem.W.findIn K (.ref C_BadLine) "__setattr__" = some (some (.builtin "object.__setattr__")))
    (ga_BadLine : PySem.W.findIn K (.ref C_BadLine) "__getattribute__" = some (some (.builtin "BaseException.__getattribute__")))
    (gg_BadLine : PySem.W.findIn K (.ref C_BadLine) "__getattr__" = some none)
    (eb_BadLine : PySem.W.subIn K (.ref C_BadLine) (.type "BaseException") = some true)
    (ty_BadLine : PySem.W.typeIn K (.ref C_BadLine) = some (.type "type"))
    (hd_BadLine : PySem.W.hasDictIn K C_BadLine = true)
    (kp_BadLine : PySem.W.keepIn K (.ref C_BadLine) = true)
    (ca_BadLine : PySem.W.findIn K (.ref C_BadLine) "__class__" = some (some (.builtin "object.__class__")))
    (mr_BadLine : PySem.W.mroIn K C_BadLine (.type "object") = some true)
    (ss_BadLine : PySem.W.subIn K (.ref C_BadLine) (.ref C_BadLine) = some true)
    (no_BadLine_line : PySem.W.findIn K (.ref C_BadLine) "line" = some none)
    (x_TooMany : K.lookup C_TooMany = some (PySem.excClassObj nm_TooMany qq_TooMany C_TooMany N_TooMany bs_TooMany [.ref C_AgreeError, .type "ValueError", .type "Exception", .type "BaseException", .type "object"] true sn_TooMany sub_TooMany ab_TooMany col_TooMany dd_TooMany m0_TooMany m1_TooMany m2_TooMany m3_TooMany m5_TooMany "ValueError.__new__"))
    (sa_TooMany : PySem.W.findIn K (.ref C_TooMany) "__setattr__" = some (some (.builtin "object.__setattr__")))
    (ga_TooMany : PySem.W.findIn K (.ref C_TooMany) "__getattribute__" = some (some (.builtin "BaseException.__getattribute__")))
    (gg_TooMany : PySem.W.findIn K (.ref C_TooMany) "__getattr__" = some none)
    (eb_TooMany : PySem.W.subIn K (.ref C_TooMany) (.type "BaseException") = some true)
    (ty_TooMany : PySem.W.typeIn K (.ref C_TooMany) = some (.type "type"))
    (hd_TooMany : PySem.W.hasDictIn K C_TooMany = true)
    (kp_TooMany : PySem.W.keepIn K (.ref C_TooMany) = true)
    (ca_TooMany : PySem.W.findIn K (.ref C_TooMany) "__class__" = some (some (.builtin "object.__class__")))
    (mr_TooMany : PySem.W.mroIn K C_TooMany (.type "object") = some true)
    (ss_TooMany : PySem.W.subIn K (.ref C_TooMany) (.ref C_TooMany) = some true)
    (no_TooMany_line : PySem.W.findIn K (.ref C_TooMany) "line" = some none)
    (x_DuplicateName : K.lookup C_DuplicateName = some (PySem.excClassObj nm_DuplicateName qq_DuplicateName C_DuplicateName N_DuplicateName bs_DuplicateName [.ref C_AgreeError, .type "ValueError", .type "Exception", .type "BaseException", .type "object"] true sn_DuplicateName sub_DuplicateName ab_DuplicateName col_DuplicateName dd_DuplicateName m0_DuplicateName m1_DuplicateName m2_DuplicateName m3_DuplicateName m5_DuplicateName "ValueError.__new__"))
    (sa_DuplicateName : PySem.W.findIn K (.ref C_DuplicateName) "__setattr__" = some (some (.builtin "object.__setattr__")))
    (ga_DuplicateName : PySem.W.findIn K (.ref C_DuplicateName) "__getattribute__" = some (some (.builtin "BaseException.__getattribute__")))
    (gg_DuplicateName : PySem.W.findIn K (.ref C_DuplicateName) "__getattr__" = some none)
    (eb_DuplicateName : PySem.W.subIn K (.ref C_DuplicateName) (.type "BaseException") = some true)
    (ty_DuplicateName : PySem.W.typeIn K (.ref C_DuplicateName) = some (.type "type"))
    (hd_DuplicateName : PySem.W.hasDictIn K C_DuplicateName = true)
    (kp_DuplicateName : PySem.W.keepIn K (.ref C_DuplicateName) = true)
    (ca_DuplicateName : PySem.W.findIn K (.ref C_DuplicateName) "__class__" = some (some (.builtin "object.__class__")))
    (mr_DuplicateName : PySem.W.mroIn K C_DuplicateName (.type "object") = some true)
    (ss_DuplicateName : PySem.W.subIn K (.ref C_DuplicateName) (.ref C_DuplicateName) = some true)
    (no_DuplicateName_line : PySem.W.findIn K (.ref C_DuplicateName) "line" = some none)
    (no_DuplicateName_name : PySem.W.findIn K (.ref C_DuplicateName) "name" = some none)
    (x_UnknownName : K.lookup C_UnknownName = some (PySem.excClassObj nm_UnknownName qq_UnknownName C_UnknownName N_UnknownName bs_UnknownName [.ref C_AgreeError, .type "ValueError", .type "Exception", .type "BaseException", .type "object"] true sn_UnknownName sub_UnknownName ab_UnknownName col_UnknownName dd_UnknownName m0_UnknownName m1_UnknownName m2_UnknownName m3_UnknownName m5_UnknownName "ValueError.__new__"))
    (sa_UnknownName : PySem.W.findIn K (.ref C_UnknownName) "__setattr__" = some (some (.builtin "object.__setattr__")))
    (ga_UnknownName : PySem.W.findIn K (.ref C_UnknownName) "__getattribute__" = some (some (.builtin "BaseException.__getattribute__")))
    (gg_UnknownName : PySem.W.findIn K (.ref C_UnknownName) "__getattr__" = some none)
    (eb_UnknownName : PySem.W.subIn K (.ref C_UnknownName) (.type "BaseException") = some true)
    (ty_UnknownName : PySem.W.typeIn K (.ref C_UnknownName) = some (.type "type"))
    (hd_UnknownName : PySem.W.hasDictIn K C_UnknownName = true)
    (kp_UnknownName : PySem.W.keepIn K (.ref C_UnknownName) = true)
    (ca_UnknownName : PySem.W.findIn K (.ref C_UnknownName) "__class__" = some (some (.builtin "object.__class__")))
    (mr_UnknownName : PySem.W.mroIn K C_UnknownName (.type "object") = some true)
    (ss_UnknownName : PySem.W.subIn K (.ref C_UnknownName) (.ref C_UnknownName) = some true)
    (no_UnknownName_line : PySem.W.findIn K (.ref C_UnknownName) "line" = some none)
    (no_UnknownName_name : PySem.W.findIn K (.ref C_UnknownName) "name" = some none)
    (q_k_BadLine : PySem.W.kitOne K (.ref C_BadLine) (.ref C_AgreeError) = some true)
    (su_BadLine_DuplicateName : PySem.W.subIn K (.ref C_BadLine) (.ref C_DuplicateName) = some false)
    (su_BadLine_UnknownName : PySem.W.subIn K (.ref C_BadLine) (.ref C_UnknownName) = some false)
    (su_BadLine_TooMany : PySem.W.subIn K (.ref C_BadLine) (.ref C_TooMany) = some false)
    (q_k_DuplicateName : PySem.W.kitOne K (.ref C_DuplicateName) (.ref C_AgreeError) = some true)
    (su_DuplicateName_BadLine : PySem.W.subIn K (.ref C_DuplicateName) (.ref C_BadLine) = some false)
    (su_DuplicateName_UnknownName : PySem.W.subIn K (.ref C_DuplicateName) (.ref C_UnknownName) = some false)
    (su_DuplicateName_TooMany : PySem.W.subIn K (.ref C_DuplicateName) (.ref C_TooMany) = some false)
    (q_k_UnknownName : PySem.W.kitOne K (.ref C_UnknownName) (.ref C_AgreeError) = some true)
    (su_UnknownName_BadLine : PySem.W.subIn K (.ref C_UnknownName) (.ref C_BadLine) = some false)
    (su_UnknownName_DuplicateName : PySem.W.subIn K (.ref C_UnknownName) (.ref C_DuplicateName) = some false)
    (su_UnknownName_TooMany : PySem.W.subIn K (.ref C_UnknownName) (.ref C_TooMany) = some false)
    (q_k_TooMany : PySem.W.kitOne K (.ref C_TooMany) (.ref C_AgreeError) = some true)
    (su_TooMany_BadLine : PySem.W.subIn K (.ref C_TooMany) (.ref C_BadLine) = some false)
    (su_TooMany_DuplicateName : PySem.W.subIn K (.ref C_TooMany) (.ref C_DuplicateName) = some false)
    (su_TooMany_UnknownName : PySem.W.subIn K (.ref C_TooMany) (.ref C_UnknownName) = some false)
    (a_is_name : PySem.W.nsIn K mainGlobals "is_name" = some (some (.ref f_is_name)))
    (l_is_name : K.lookup f_is_name = some ⟨oc_is_name, od_is_name, .func (PySem.W.fnOf "is_name" "is_name" (defArgs (topS 11)) (defBody (topS 11)) (defScope (topS 11)) .none kV_is_name dc_is_name pm_is_name an_is_name cd_is_name ct_is_name), sl_is_name⟩)
    (o_is_name : PySem.W.codeIn K cd_is_name "is_name" = true) (k_is_name : PySem.W.keepIn K (.ref f_is_name) = true)
    (a_split_words : PySem.W.nsIn K mainGlobals "split_words" = some (some (.ref f_split_words)))
    (l_split_words : K.lookup f_split_words = some ⟨oc_split_words, od_split_words, .func (PySem.W.fnOf "split_words" "split_words" (defArgs (topS 12)) (defBody (topS 12)) (defScope (topS 12)) .none kV_split_words dc_split_words pm_split_words an_split_words cd_split_words ct_split_words), sl_split_words⟩)
    (o_split_words : PySem.W.codeIn K cd_split_words "split_words" = true) (k_split_words : PySem.W.keepIn K (.ref f_split_words) = true)
    (a_all_names : PySem.W.nsIn K mainGlobals "all_names" = some (some (.ref f_all_names)))
    (l_all_names : K.lookup f_all_names = some ⟨oc_all_names, od_all_names, .func (PySem.W.fnOf "all_names" "all_names" (defArgs (topS 13)) (defBody (topS 13)) (defScope (topS 13)) .none kV_all_names dc_all_names pm_all_names an_all_names cd_all_names ct_all_names), sl_all_names⟩)
    (o_all_names : PySem.W.codeIn K cd_all_names "all_names" = true) (k_all_names : PySem.W.keepIn K (.ref f_all_names) = true)
    (a_is_path : PySem.W.nsIn K mainGlobals "is_path" = some (some (.ref f_is_path)))
    (l_is_path : K.lookup f_is_path = some ⟨oc_is_path, od_is_path, .func (PySem.W.fnOf "is_path" "is_path" (defArgs (topS 14)) (defBody (topS 14)) (defScope (topS 14)) .none kV_is_path dc_is_path pm_is_path an_is_path cd_is_path ct_is_path), sl_is_path⟩)
    (o_is_path : PySem.W.codeIn K cd_is_path "is_path" = true) (k_is_path : PySem.W.keepIn K (.ref f_is_path) = true)
    (a_BadLine___init__ : PySem.W.findIn K (.ref C_BadLine) "__init__" = some (some (.ref f_BadLine___init__))) (i_BadLine___init__ : PySem.W.typeIn K (.ref f_BadLine___init__) = some (.type "function"))
    (l_BadLine___init__ : K.lookup f_BadLine___init__ = some ⟨oc_BadLine___init__, od_BadLine___init__, .func (PySem.W.fnOf "__init__" "BadLine.__init__" (defArgs (inClass (topS 3) 0)) (defBody (inClass (topS 3) 0)) (defScope (inClass (topS 3) 0)) .none kV_BadLine___init__ dc_BadLine___init__ pm_BadLine___init__ an_BadLine___init__ cd_BadLine___init__ ct_BadLine___init__), sl_BadLine___init__⟩)
    (o_BadLine___init__ : PySem.W.codeIn K cd_BadLine___init__ "BadLine.__init__" = true) (k_BadLine___init__ : PySem.W.keepIn K (.ref f_BadLine___init__) = true)
    (a_TooMany___init__ : PySem.W.findIn K (.ref C_TooMany) "__init__" = some (some (.ref f_TooMany___init__))) (i_TooMany___init__ : PySem.W.typeIn K (.ref f_TooMany___init__) = some (.type "function"))
    (l_TooMany___init__ : K.lookup f_TooMany___init__ = some ⟨oc_TooMany___init__, od_TooMany___init__, .func (PySem.W.fnOf "__init__" "TooMany.__init__" (defArgs (inClass (topS 6) 0)) (defBody (inClass (topS 6) 0)) (defScope (inClass (topS 6) 0)) .none kV_TooMany___init__ dc_TooMany___init__ pm_TooMany___init__ an_TooMany___init__ cd_TooMany___init__ ct_TooMany___init__), sl_TooMany___init__⟩)
    (o_TooMany___init__ : PySem.W.codeIn K cd_TooMany___init__ "TooMany.__init__" = true) (k_TooMany___init__ : PySem.W.keepIn K (.ref f_TooMany___init__) = true)
    (a_DuplicateName___init__ : PySem.W.findIn K (.ref C_DuplicateName) "__init__" = some (some (.ref f_DuplicateName___init__))) (i_DuplicateName___init__ : PySem.W.typeIn K (.ref f_DuplicateName___init__) = some (.type "function"))
    (l_DuplicateName___init__ : K.lookup f_DuplicateName___init__ = some ⟨oc_DuplicateName___init__, od_DuplicateName___init__, .func (PySem.W.fnOf "__init__" "DuplicateName.__init__" (defArgs (inClass (topS 4) 0)) (defBody (inClass (topS 4) 0)) (defScope (inClass (topS 4) 0)) .none kV_DuplicateName___init__ dc_DuplicateName___init__ pm_DuplicateName___init__ an_DuplicateName___init__ cd_DuplicateName___init__ ct_DuplicateName___init__), sl_DuplicateName___init__⟩)
    (o_DuplicateName___init__ : PySem.W.codeIn K cd_DuplicateName___init__ "DuplicateName.__init__" = true) (k_DuplicateName___init__ : PySem.W.keepIn K (.ref f_DuplicateName___init__) = true)
    (a_UnknownName___init__ : PySem.W.findIn K (.ref C_UnknownName) "__init__" = some (some (.ref f_UnknownName___init__))) (i_UnknownName___init__ : PySem.W.typeIn K (.ref f_UnknownName___init__) = some (.type "function"))
    (l_UnknownName___init__ : K.lookup f_UnknownName___init__ = some ⟨oc_UnknownName___init__, od_UnknownName___init__, .func (PySem.W.fnOf "__init__" "UnknownName.__init__" (defArgs (inClass (topS 5) 0)) (defBody (inClass (topS 5) 0)) (defScope (inClass (topS 5) 0)) .none kV_UnknownName___init__ dc_UnknownName___init__ pm_UnknownName___init__ an_UnknownName___init__ cd_UnknownName___init__ ct_UnknownName___init__), sl_UnknownName___init__⟩)
    (o_UnknownName___init__ : PySem.W.codeIn K cd_UnknownName___init__ "UnknownName.__init__" = true) (k_UnknownName___init__ : PySem.W.keepIn K (.ref f_UnknownName___init__) = true)
    (a_Schema_check_table : PySem.W.findIn K (.ref C) "check_table" = some (some (.ref f_Schema_check_table))) (i_Schema_check_table : PySem.W.isFn K (.ref f_Schema_check_table) = true)
    (l_Schema_check_table : K.lookup f_Schema_check_table = some ⟨oc_Schema_check_table, od_Schema_check_table, .func (PySem.W.fnOf "check_table" "Schema.check_table" (defArgs (inClass (topS 16) 7)) (defBody (inClass (topS 16) 7)) (defScope (inClass (topS 16) 7)) (.ref T_Schema_check_table) kV_Schema_check_table dc_Schema_check_table pm_Schema_check_table an_Schema_check_table cd_Schema_check_table ct_Schema_check_table), sl_Schema_check_table⟩)
    (lt_Schema_check_table : K.lookup T_Schema_check_table = some ⟨tc_Schema_check_table, td_Schema_check_table, .seq #[.int 0 dt_Schema_check_table_0] tn_Schema_check_table, ts_Schema_check_table⟩)
    (o_Schema_check_table : PySem.W.codeIn K cd_Schema_check_table "Schema.check_table" = true) (k_Schema_check_table : PySem.W.keepIn K (.ref f_Schema_check_table) = true)
    (a_Schema_chain_of : PySem.W.findIn K (.ref C) "chain_of" = some (some (.ref f_Schema_chain_of))) (i_Schema_chain_of : PySem.W.isFn K (.ref f_Schema_chain_of) = true)
    (l_Schema_chain_of : K.lookup f_Schema_chain_of = some ⟨oc_Schema_chain_of, od_Schema_chain_of, .func (PySem.W.fnOf "chain_of" "Schema.chain_of" (defArgs (inClass (topS 16) 10)) (defBody (inClass (topS 16) 10)) (defScope (inClass (topS 16) 10)) .none kV_Schema_chain_of dc_Schema_chain_of pm_Schema_chain_of an_Schema_chain_of cd_Schema_chain_of ct_Schema_chain_of), sl_Schema_chain_of⟩)
    (o_Schema_chain_of : PySem.W.codeIn K cd_Schema_chain_of "Schema.chain_of" = true) (k_Schema_chain_of : PySem.W.keepIn K (.ref f_Schema_chain_of) = true)
    (a_Schema_check_position : PySem.W.findIn K (.ref C) "check_position" = some (some (.ref f_Schema_check_position))) (i_Schema_check_position : PySem.W.isFn K (.ref f_Schema_check_position) = true)
    (l_Schema_check_position : K.lookup f_Schema_check_position = some ⟨oc_Schema_check_position, od_Schema_check_position, .func (PySem.W.fnOf "check_position" "Schema.check_position" (defArgs (inClass (topS 16) 15)) (defBody (inClass (topS 16) 15)) (defScope (inClass (topS 16) 15)) .none kV_Schema_check_position dc_Schema_check_position pm_Schema_check_position an_Schema_check_position cd_Schema_check_position ct_Schema_check_position), sl_Schema_check_position⟩)
    (o_Schema_check_position : PySem.W.codeIn K cd_Schema_check_position "Schema.check_position" = true) (k_Schema_check_position : PySem.W.keepIn K (.ref f_Schema_check_position) = true)
    (a_Schema___init__ : PySem.W.findIn K (.ref C) "__init__" = some (some (.ref f_Schema___init__))) (i_Schema___init__ : PySem.W.isFn K (.ref f_Schema___init__) = true)
    (l_Schema___init__ : K.lookup f_Schema___init__ = some ⟨oc_Schema___init__, od_Schema___init__, .func (PySem.W.fnOf "__init__" "Schema.__init__" (defArgs (inClass (topS 16) 3)) (defBody (inClass (topS 16) 3)) (defScope (inClass (topS 16) 3)) .none kV_Schema___init__ dc_Schema___init__ pm_Schema___init__ an_Schema___init__ cd_Schema___init__ ct_Schema___init__), sl_Schema___init__⟩)
    (o_Schema___init__ : PySem.W.codeIn K cd_Schema___init__ "Schema.__init__" = true) (k_Schema___init__ : PySem.W.keepIn K (.ref f_Schema___init__) = true)
    (a_read_table : PySem.W.nsIn K mainGlobals "read_table" = some (some (.ref f_read_table)))
    (l_read_table : K.lookup f_read_table = some ⟨oc_read_table, od_read_table, .func (PySem.W.fnOf "read_table" "read_table" (defArgs (topS 18)) (defBody (topS 18)) (defScope (topS 18)) .none kV_read_table dc_read_table pm_read_table an_read_table cd_read_table ct_read_table), sl_read_table⟩)
    (o_read_table : PySem.W.codeIn K cd_read_table "read_table" = true) (k_read_table : PySem.W.keepIn K (.ref f_read_table) = true)
    (a_read_owner : PySem.W.nsIn K mainGlobals "read_owner" = some (some (.ref f_read_owner)))
    (l_read_owner : K.lookup f_read_owner = some ⟨oc_read_owner, od_read_owner, .func (PySem.W.fnOf "read_owner" "read_owner" (defArgs (topS 19)) (defBody (topS 19)) (defScope (topS 19)) .none kV_read_owner dc_read_owner pm_read_owner an_read_owner cd_read_owner ct_read_owner), sl_read_owner⟩)
    (o_read_owner : PySem.W.codeIn K cd_read_owner "read_owner" = true) (k_read_owner : PySem.W.keepIn K (.ref f_read_owner) = true)
    (a_read_follow : PySem.W.nsIn K mainGlobals "read_follow" = some (some (.ref f_read_follow)))
    (l_read_follow : K.lookup f_read_follow = some ⟨oc_read_follow, od_read_follow, .func (PySem.W.fnOf "read_follow" "read_follow" (defArgs (topS 20)) (defBody (topS 20)) (defScope (topS 20)) .none kV_read_follow dc_read_follow pm_read_follow an_read_follow cd_read_follow ct_read_follow), sl_read_follow⟩)
    (o_read_follow : PySem.W.codeIn K cd_read_follow "read_follow" = true) (k_read_follow : PySem.W.keepIn K (.ref f_read_follow) = true)
    (a_read_line : PySem.W.nsIn K mainGlobals "read_line" = some (some (.ref f_read_line)))
    (l_read_line : K.lookup f_read_line = some ⟨oc_read_line, od_read_line, .func (PySem.W.fnOf "read_line" "read_line" (defArgs (topS 17)) (defBody (topS 17)) (defScope (topS 17)) .none kV_read_line dc_read_line pm_read_line an_read_line cd_read_line ct_read_line), sl_read_line⟩)
    (o_read_line : PySem.W.codeIn K cd_read_line "read_line" = true) (k_read_line : PySem.W.keepIn K (.ref f_read_line) = true)
    (s_Schema_read : PySem.W.findCls K (.ref C) (.type "type") "read" = some (.get (.builtin "staticmethod.__get__") (.ref p_Schema_read) .none (.ref C))) (r_Schema_read : PySem.W.recIn K p_Schema_read "staticmethod" = some (.ref f_Schema_read :: rest_Schema_read))
    (l_Schema_read : K.lookup f_Schema_read = some ⟨oc_Schema_read, od_Schema_read, .func (PySem.W.fnOf "read" "Schema.read" (defArgs (inClass (topS 16) 4)) (defBody (inClass (topS 16) 4)) (defScope (inClass (topS 16) 4)) .none kV_Schema_read dc_Schema_read pm_Schema_read an_Schema_read cd_Schema_read ct_Schema_read), sl_Schema_read⟩)
    (o_Schema_read : PySem.W.codeIn K cd_Schema_read "Schema.read" = true) (k_Schema_read : PySem.W.keepIn K (.ref f_Schema_read) = true)
    (a_get_named : PySem.W.nsIn K mainGlobals "_law_get_named" = some (some (.ref f_get_named)))
    (l_get_named : K.lookup f_get_named = some ⟨oc_get_named, od_get_named, .func (PySem.W.fnOf "_law_get_named" "_law_get_named" (defArgs (topS 26)) (defBody (topS 26)) (defScope (topS 26)) .none kV_get_named dc_get_named pm_get_named an_get_named cd_get_named ct_get_named), sl_get_named⟩)
    (o_get_named : PySem.W.codeIn K cd_get_named "_law_get_named" = true) (k_get_named : PySem.W.keepIn K (.ref f_get_named) = true)
    (a_schema_told : PySem.W.nsIn K mainGlobals "_law_schema_told" = some (some (.ref f_schema_told)))
    (l_schema_told : K.lookup f_schema_told = some ⟨oc_schema_told, od_schema_told, .func (PySem.W.fnOf "_law_schema_told" "_law_schema_told" (defArgs (topS 27)) (defBody (topS 27)) (defScope (topS 27)) .none kV_schema_told dc_schema_told pm_schema_told an_schema_told cd_schema_told ct_schema_told), sl_schema_told⟩)
    (o_schema_told : PySem.W.codeIn K cd_schema_told "_law_schema_told" = true) (k_schema_told : PySem.W.keepIn K (.ref f_schema_told) = true)
    (a_draw : PySem.W.nsIn K mainGlobals "_law_draw" = some (some (.ref f_draw)))
    (l_draw : K.lookup f_draw = some ⟨oc_draw, od_draw, .func (PySem.W.fnOf "_law_draw" "_law_draw" (defArgs (topS 32)) (defBody (topS 32)) (defScope (topS 32)) .none kV_draw dc_draw pm_draw an_draw cd_draw ct_draw), sl_draw⟩)
    (o_draw : PySem.W.codeIn K cd_draw "_law_draw" = true) (k_draw : PySem.W.keepIn K (.ref f_draw) = true)
    (a_get_state : PySem.W.nsIn K mainGlobals "_law_get_state" = some (some (.ref f_get_state)))
    (l_get_state : K.lookup f_get_state = some ⟨oc_get_state, od_get_state, .func (PySem.W.fnOf "_law_get_state" "_law_get_state" (defArgs (topS 31)) (defBody (topS 31)) (defScope (topS 31)) .none kV_get_state dc_get_state pm_get_state an_get_state cd_get_state ct_get_state), sl_get_state⟩)
    (o_get_state : PySem.W.codeIn K cd_get_state "_law_get_state" = true) (k_get_state : PySem.W.keepIn K (.ref f_get_state) = true)
    (a_get_words : PySem.W.nsIn K mainGlobals "_law_get_words" = some (some (.ref f_get_words)))
    (l_get_words : K.lookup f_get_words = some ⟨oc_get_words, od_get_words, .func (PySem.W.fnOf "_law_get_words" "_law_get_words" (defArgs (topS 33)) (defBody (topS 33)) (defScope (topS 33)) .none kV_get_words dc_get_words pm_get_words an_get_words cd_get_words ct_get_words), sl_get_words⟩)
    (o_get_words : PySem.W.codeIn K cd_get_words "_law_get_words" = true) (k_get_words : PySem.W.keepIn K (.ref f_get_words) = true)
    (a_get_chain : PySem.W.nsIn K mainGlobals "_law_get_chain" = some (some (.ref f_get_chain)))
    (l_get_chain : K.lookup f_get_chain = some ⟨oc_get_chain, od_get_chain, .func (PySem.W.fnOf "_law_get_chain" "_law_get_chain" (defArgs (topS 34)) (defBody (topS 34)) (defScope (topS 34)) .none kV_get_chain dc_get_chain pm_get_chain an_get_chain cd_get_chain ct_get_chain), sl_get_chain⟩)
    (o_get_chain : PySem.W.codeIn K cd_get_chain "_law_get_chain" = true) (k_get_chain : PySem.W.keepIn K (.ref f_get_chain) = true)
    (a_get_places : PySem.W.nsIn K mainGlobals "_law_get_places" = some (some (.ref f_get_places)))
    (l_get_places : K.lookup f_get_places = some ⟨oc_get_places, od_get_places, .func (PySem.W.fnOf "_law_get_places" "_law_get_places" (defArgs (topS 35)) (defBody (topS 35)) (defScope (topS 35)) .none kV_get_places dc_get_places pm_get_places an_get_places cd_get_places ct_get_places), sl_get_places⟩)
    (o_get_places : PySem.W.codeIn K cd_get_places "_law_get_places" = true) (k_get_places : PySem.W.keepIn K (.ref f_get_places) = true)
    (a_table_line : PySem.W.nsIn K mainGlobals "_law_table_line" = some (some (.ref f_table_line)))
    (l_table_line : K.lookup f_table_line = some ⟨oc_table_line, od_table_line, .func (PySem.W.fnOf "_law_table_line" "_law_table_line" (defArgs (topS 36)) (defBody (topS 36)) (defScope (topS 36)) .none kV_table_line dc_table_line pm_table_line an_table_line cd_table_line ct_table_line), sl_table_line⟩)
    (o_table_line : PySem.W.codeIn K cd_table_line "_law_table_line" = true) (k_table_line : PySem.W.keepIn K (.ref f_table_line) = true)
    (a_forest : PySem.W.nsIn K mainGlobals "_law_forest" = some (some (.ref f_forest)))
    (l_forest : K.lookup f_forest = some ⟨oc_forest, od_forest, .func (PySem.W.fnOf "_law_forest" "_law_forest" (defArgs (topS 22)) (defBody (topS 22)) (defScope (topS 22)) .none kV_forest dc_forest pm_forest an_forest cd_forest ct_forest), sl_forest⟩)
    (o_forest : PySem.W.codeIn K cd_forest "_law_forest" = true) (k_forest : PySem.W.keepIn K (.ref f_forest) = true)
    (a_get_owners : PySem.W.nsIn K mainGlobals "_law_get_owners" = some (some (.ref f_get_owners)))
    (l_get_owners : K.lookup f_get_owners = some ⟨oc_get_owners, od_get_owners, .func (PySem.W.fnOf "_law_get_owners" "_law_get_owners" (defArgs (topS 37)) (defBody (topS 37)) (defScope (topS 37)) .none kV_get_owners dc_get_owners pm_get_owners an_get_owners cd_get_owners ct_get_owners), sl_get_owners⟩)
    (o_get_owners : PySem.W.codeIn K cd_get_owners "_law_get_owners" = true) (k_get_owners : PySem.W.keepIn K (.ref f_get_owners) = true)
    (a_all_follows : PySem.W.nsIn K mainGlobals "_law_all_follows" = some (some (.ref f_all_follows)))
    (l_all_follows : K.lookup f_all_follows = some ⟨oc_all_follows, od_all_follows, .func (PySem.W.fnOf "_law_all_follows" "_law_all_follows" (defArgs (topS 25)) (defBody (topS 25)) (defScope (topS 25)) .none kV_all_follows dc_all_follows pm_all_follows an_all_follows cd_all_follows ct_all_follows), sl_all_follows⟩)
    (o_all_follows : PySem.W.codeIn K cd_all_follows "_law_all_follows" = true) (k_all_follows : PySem.W.keepIn K (.ref f_all_follows) = true)
    (a_extra_lines : PySem.W.nsIn K mainGlobals "_law_extra_lines" = some (some (.ref f_extra_lines)))
    (l_extra_lines : K.lookup f_extra_lines = some ⟨oc_extra_lines, od_extra_lines, .func (PySem.W.fnOf "_law_extra_lines" "_law_extra_lines" (defArgs (topS 24)) (defBody (topS 24)) (defScope (topS 24)) .none kV_extra_lines dc_extra_lines pm_extra_lines an_extra_lines cd_extra_lines ct_extra_lines), sl_extra_lines⟩)
    (o_extra_lines : PySem.W.codeIn K cd_extra_lines "_law_extra_lines" = true) (k_extra_lines : PySem.W.keepIn K (.ref f_extra_lines) = true)
    (a_schema_lines : PySem.W.nsIn K mainGlobals "_law_schema_lines" = some (some (.ref f_schema_lines)))
    (l_schema_lines : K.lookup f_schema_lines = some ⟨oc_schema_lines, od_schema_lines, .func (PySem.W.fnOf "_law_schema_lines" "_law_schema_lines" (defArgs (topS 23)) (defBody (topS 23)) (defScope (topS 23)) .none kV_schema_lines dc_schema_lines pm_schema_lines an_schema_lines cd_schema_lines ct_schema_lines), sl_schema_lines⟩)
    (o_schema_lines : PySem.W.codeIn K cd_schema_lines "_law_schema_lines" = true) (k_schema_lines : PySem.W.keepIn K (.ref f_schema_lines) = true)
    (a_get_spoiled : PySem.W.nsIn K mainGlobals "_law_get_spoiled" = some (some (.ref f_get_spoiled)))
    (l_get_spoiled : K.lookup f_get_spoiled = some ⟨oc_get_spoiled, od_get_spoiled, .func (PySem.W.fnOf "_law_get_spoiled" "_law_get_spoiled" (defArgs (topS 28)) (defBody (topS 28)) (defScope (topS 28)) .none kV_get_spoiled dc_get_spoiled pm_get_spoiled an_get_spoiled cd_get_spoiled ct_get_spoiled), sl_get_spoiled⟩)
    (o_get_spoiled : PySem.W.codeIn K cd_get_spoiled "_law_get_spoiled" = true) (k_get_spoiled : PySem.W.keepIn K (.ref f_get_spoiled) = true)
    (a_places_in : PySem.W.nsIn K mainGlobals "_law_places_in" = some (some (.ref f_places_in)))
    (l_places_in : K.lookup f_places_in = some ⟨oc_places_in, od_places_in, .func (PySem.W.fnOf "_law_places_in" "_law_places_in" (defArgs (topS 29)) (defBody (topS 29)) (defScope (topS 29)) .none kV_places_in dc_places_in pm_places_in an_places_in cd_places_in ct_places_in), sl_places_in⟩)
    (o_places_in : PySem.W.codeIn K cd_places_in "_law_places_in" = true) (k_places_in : PySem.W.keepIn K (.ref f_places_in) = true)
    (a_word_spoiled : PySem.W.nsIn K mainGlobals "_law_word_spoiled" = some (some (.ref f_word_spoiled)))
    (l_word_spoiled : K.lookup f_word_spoiled = some ⟨oc_word_spoiled, od_word_spoiled, .func (PySem.W.fnOf "_law_word_spoiled" "_law_word_spoiled" (defArgs (topS 30)) (defBody (topS 30)) (defScope (topS 30)) .none kV_word_spoiled dc_word_spoiled pm_word_spoiled an_word_spoiled cd_word_spoiled ct_word_spoiled), sl_word_spoiled⟩)
    (o_word_spoiled : PySem.W.codeIn K cd_word_spoiled "_law_word_spoiled" = true) (k_word_spoiled : PySem.W.keepIn K (.ref f_word_spoiled) = true)
    (a_law : PySem.W.nsIn K mainGlobals "law" = some (some (.ref f_law)))
    (l_law : K.lookup f_law = some ⟨oc_law, od_law, .func (PySem.W.fnOf "law" "law" (defArgs (topS 38)) (defBody (topS 38)) (defScope (topS 38)) .none kV_law dc_law pm_law an_law cd_law ct_law), sl_law⟩)
    (o_law : PySem.W.codeIn K cd_law "law" = true) (k_law : PySem.W.keepIn K (.ref f_law) = true)
    (z_len : PySem.W.nsIn K mainGlobals "len" = some none)
    (z_abs : PySem.W.nsIn K mainGlobals "abs" = some none)
    (z_int : PySem.W.nsIn K mainGlobals "int" = some none)
    (z_str : PySem.W.nsIn K mainGlobals "str" = some none)
    (z_list : PySem.W.nsIn K mainGlobals "list" = some none)
    (z_tuple : PySem.W.nsIn K mainGlobals "tuple" = some none)
    (z_range : PySem.W.nsIn K mainGlobals "range" = some none)
    (z_isinstance : PySem.W.nsIn K mainGlobals "isinstance" = some none)
    (z_any : PySem.W.nsIn K mainGlobals "any" = some none)
    (z_all : PySem.W.nsIn K mainGlobals "all" = some none)
    (z_sorted : PySem.W.nsIn K mainGlobals "sorted" = some none)
    (z_bool : PySem.W.nsIn K mainGlobals "bool" = some none)
    (z_enumerate : PySem.W.nsIn K mainGlobals "enumerate" = some none)
    (z_max : PySem.W.nsIn K mainGlobals "max" = some none)
    (z_min : PySem.W.nsIn K mainGlobals "min" = some none)
    (z_sum : PySem.W.nsIn K mainGlobals "sum" = some none)
    (z_zip : PySem.W.nsIn K mainGlobals "zip" = some none)
    (z_dict : PySem.W.nsIn K mainGlobals "dict" = some none)
    (v_LETTERS : PySem.W.nsIn K mainGlobals "LETTERS" = some (some (.str "abcdefghijklmnopqrstuvwxyz" t_LETTERS)))
    (v_SIGNS : PySem.W.nsIn K mainGlobals "SIGNS" = some (some (.str "abcdefghijklmnopqrstuvwxyz0123456789" t_SIGNS)))
    (v_LONGEST_NAME : PySem.W.nsIn K mainGlobals "LONGEST_NAME" = some (some (.int 12 t_LONGEST_NAME)))
    (q_hn : PySem.W.specialIn K (.builtin "object.__class__") "__get__" = some (some (.builtin "getset_descriptor.__get__")))
    (q_htk : PySem.W.takesIn K (.builtin "object.__class__") = some true) :
    ∃ fd : FuncData, (∀ (s : Shared) (v : Value), BindsTo s fd ⟨[v], []⟩ [("_law_script", v)]) ∧ ∀ base : Heap, K.In base → base.Ns mainGlobals mg → FnOk l.prog w K mg base CX0 9 fa fd ["_law_script"] (spLaw K) := by
  have e := hfa.symm.trans (PySem.W.mg_of X G a_law)
  cases e
  have T : Txt K mg := ⟨PySem.W.mg_none_of X G z_len, PySem.W.mg_none_of X G z_abs, PySem.W.mg_none_of X G z_int, PySem.W.mg_none_of X G z_str, PySem.W.mg_none_of X G z_list, PySem.W.mg_none_of X G z_tuple, PySem.W.mg_none_of X G z_range, PySem.W.mg_none_of X G z_isinstance, PySem.W.mg_none_of X G z_any, PySem.W.mg_none_of X G z_all, PySem.W.mg_none_of X G z_sorted, PySem.W.mg_none_of X G z_bool, PySem.W.mg_none_of X G z_enumerate, PySem.W.mg_none_of X G z_max, PySem.W.mg_none_of X G z_min, PySem.W.mg_none_of X G z_sum, PySem.W.mg_none_of X G z_zip, PySem.W.mg_none_of X G z_dict, ⟨_, PySem.W.mg_of X G v_LETTERS⟩, ⟨_, PySem.W.mg_of X G v_SIGNS⟩, ⟨_, PySem.W.mg_of X G v_LONGEST_NAME⟩⟩
  have cl_Schema : Cls K C := ⟨pg_Schema, hd_Schema, po_Schema, sa_Schema⟩
  have cr_Schema : ClX.CRead K C (.type "type") := ⟨rd_Schema, sg_Schema⟩
  have TS : STxt K mg C := ⟨cl_Schema, n_text_Schema, n_column_lists_Schema, n_parents_Schema, n_owners_Schema, n_following_Schema, PySem.W.mg_of X G aC_Schema, _, _, _, _, cr_Schema, ⟨cv_Schema_MOST_TABLES, ⟨_, rfl⟩⟩, ⟨cv_Schema_MOST_COLUMNS, ⟨_, rfl⟩⟩, ⟨cv_Schema_LONGEST_CHAIN, ⟨_, rfl⟩⟩⟩
  have oex_BadLine : OexC K C_BadLine := ⟨⟨_, _, _, _, _, _, _, _, _, _, _, _, _, _, _, x_BadLine, (show PySem.HandSPX.refsVE PySem.HandSPX.veTail = true from by decide +kernel)⟩, sa_BadLine, eb_BadLine, ty_BadLine, kp_BadLine⟩
  have exc_BadLine : ExcC K C_BadLine := ⟨ga_BadLine, gg_BadLine, eb_BadLine, hd_BadLine, ca_BadLine, q_hn, q_htk, mr_BadLine⟩
  have xf_BadLine : XfC K C_BadLine := ⟨ga_BadLine, gg_BadLine, eb_BadLine, hd_BadLine⟩
  have exm_BadLine := PySem.W.exm_ref eb_BadLine hd_BadLine ty_BadLine ss_BadLine
  have oex_TooMany : OexC K C_TooMany := ⟨⟨_, _, _, _, _, _, _, _, _, _, _, _, _, _, _, x_TooMany, (show PySem.HandSPX.refsVE PySem.HandSPX.veTail = true from by decide +kernel)⟩, sa_TooMany, eb_TooMany, ty_TooMany, kp_TooMany⟩
  have exc_TooMany : ExcC K C_TooMany := ⟨ga_TooMany, gg_TooMany, eb_TooMany, hd_TooMany, ca_TooMany, q_hn, q_htk, mr_TooMany⟩
  have xf_TooMany : XfC K C_TooMany := ⟨ga_TooMany, gg_TooMany, eb_TooMany, hd_TooMany⟩
  have exm_TooMany := PySem.W.exm_ref eb_TooMany hd_TooMany ty_TooMany ss_TooMany
  have oex_DuplicateName : OexC K C_DuplicateName := ⟨⟨_, _, _, _, _, _, _, _, _, _, _, _, _, _, _, x_DuplicateName, (show PySem.HandSPX.refsVE PySem.HandSPX.veTail = true from by decide +kernel)⟩, sa_DuplicateName, eb_DuplicateName, ty_DuplicateName, kp_DuplicateName⟩
  have exc_DuplicateName : ExcC K C_DuplicateName := ⟨ga_DuplicateName, gg_DuplicateName, eb_DuplicateName, hd_DuplicateName, ca_DuplicateName, q_hn, q_htk, mr_DuplicateName⟩
  have xf_DuplicateName : XfC K C_DuplicateName := ⟨ga_DuplicateName, gg_DuplicateName, eb_DuplicateName, hd_DuplicateName⟩
  have exm_DuplicateName := PySem.W.exm_ref eb_DuplicateName hd_DuplicateName ty_DuplicateName ss_DuplicateName
  have oex_UnknownName : OexC K C_UnknownName := ⟨⟨_, _, _, _, _, _, _, _, _, _, _, _, _, _, _, x_UnknownName, (show PySem.HandSPX.refsVE PySem.HandSPX.veTail = true from by decide +kernel)⟩, sa_UnknownName, eb_UnknownName, ty_UnknownName, kp_UnknownName⟩
  have exc_UnknownName : ExcC K C_UnknownName := ⟨ga_UnknownName, gg_UnknownName, eb_UnknownName, hd_UnknownName, ca_UnknownName, q_hn, q_htk, mr_UnknownName⟩
  have xf_UnknownName : XfC K C_UnknownName := ⟨ga_UnknownName, gg_UnknownName, eb_UnknownName, hd_UnknownName⟩
  have exm_UnknownName := PySem.W.exm_ref eb_UnknownName hd_UnknownName ty_UnknownName ss_UnknownName
  let ea : EA := ⟨C_AgreeError, C_BadLine, C_DuplicateName, C_UnknownName, C_AgreeError, C_AgreeError, C_TooMany, C_AgreeError, C_AgreeError, C_AgreeError, C_AgreeError, C_AgreeError, C_AgreeError, C_AgreeError, C_AgreeError, C_AgreeError, C_AgreeError, C_AgreeError, C_AgreeError, C_AgreeError, C_AgreeError, C_AgreeError⟩
  have TE : ErT K mg ea := ⟨PySem.W.mg_of X G g_AgreeError, PySem.W.mg_of X G g_BadLine, exc_BadLine, q_k_BadLine, xf_BadLine, no_BadLine_line, PySem.W.mg_of X G g_DuplicateName, exc_DuplicateName, q_k_DuplicateName, xf_DuplicateName, no_DuplicateName_line, no_DuplicateName_name, PySem.W.mg_of X G g_UnknownName, exc_UnknownName, q_k_UnknownName, xf_UnknownName, no_UnknownName_line, no_UnknownName_name, PySem.W.mg_of X G g_TooMany, exc_TooMany, q_k_TooMany, xf_TooMany, no_TooMany_line, exm_BadLine, PySem.W.exm_ref eb_DuplicateName hd_DuplicateName ty_DuplicateName su_BadLine_DuplicateName, PySem.W.exm_ref eb_UnknownName hd_UnknownName ty_UnknownName su_BadLine_UnknownName, PySem.W.exm_ref eb_TooMany hd_TooMany ty_TooMany su_BadLine_TooMany, PySem.W.exm_ref eb_BadLine hd_BadLine ty_BadLine su_DuplicateName_BadLine, exm_DuplicateName, PySem.W.exm_ref eb_UnknownName hd_UnknownName ty_UnknownName su_DuplicateName_UnknownName, PySem.W.exm_ref eb_TooMany hd_TooMany ty_TooMany su_DuplicateName_TooMany, PySem.W.exm_ref eb_BadLine hd_BadLine ty_BadLine su_UnknownName_BadLine, PySem.W.exm_ref eb_DuplicateName hd_DuplicateName ty_DuplicateName su_UnknownName_DuplicateName, exm_UnknownName, PySem.W.exm_ref eb_TooMany hd_TooMany ty_TooMany su_UnknownName_TooMany, PySem.W.exm_ref eb_BadLine hd_BadLine ty_BadLine su_TooMany_BadLine, PySem.W.exm_ref eb_DuplicateName hd_DuplicateName ty_DuplicateName su_TooMany_DuplicateName, PySem.W.exm_ref eb_UnknownName hd_UnknownName ty_UnknownName su_TooMany_UnknownName, exm_TooMany⟩
  have F_is_name := fun_mk (st := (topS 11)) l_is_name o_is_name k_is_name
  have b_is_name := F_is_name.binds (ps := ["word"]) fun _ _ _ _ _ _ us hl => match us, hl with | [_], _ => rfl
  have F_split_words := fun_mk (st := (topS 12)) l_split_words o_split_words k_split_words
  have b_split_words := F_split_words.binds (ps := ["line"]) fun _ _ _ _ _ _ us hl => match us, hl with | [_], _ => rfl
  have F_all_names := fun_mk (st := (topS 13)) l_all_names o_all_names k_all_names
  have b_all_names := F_all_names.binds (ps := ["words"]) fun _ _ _ _ _ _ us hl => match us, hl with | [_], _ => rfl
  have F_is_path := fun_mk (st := (topS 14)) l_is_path o_is_path k_is_path
  have b_is_path := F_is_path.binds (ps := ["word", "least"]) fun _ _ _ _ _ _ us hl => match us, hl with | [_, _], _ => rfl
  have F_BadLine___init__ := fun_mk (st := (inClass (topS 3) 0)) l_BadLine___init__ o_BadLine___init__ k_BadLine___init__
  have b_BadLine___init__ := F_BadLine___init__.binds (ps := ["self", "line"]) fun _ _ _ _ _ _ us hl => match us, hl with | [_, _], _ => rfl
  have F_TooMany___init__ := fun_mk (st := (inClass (topS 6) 0)) l_TooMany___init__ o_TooMany___init__ k_TooMany___init__
  have b_TooMany___init__ := F_TooMany___init__.binds (ps := ["self", "line"]) fun _ _ _ _ _ _ us hl => match us, hl with | [_, _], _ => rfl
  have F_DuplicateName___init__ := fun_mk (st := (inClass (topS 4) 0)) l_DuplicateName___init__ o_DuplicateName___init__ k_DuplicateName___init__
  have b_DuplicateName___init__ := F_DuplicateName___init__.binds (ps := ["self", "line", "name"]) fun _ _ _ _ _ _ us hl => match us, hl with | [_, _, _], _ => rfl
  have F_UnknownName___init__ := fun_mk (st := (inClass (topS 5) 0)) l_UnknownName___init__ o_UnknownName___init__ k_UnknownName___init__
  have b_UnknownName___init__ := F_UnknownName___init__.binds (ps := ["self", "line", "name"]) fun _ _ _ _ _ _ us hl => match us, hl with | [_, _, _], _ => rfl
  have F_Schema_check_table : FunD K "check_table" "Schema.check_table" (defArgs (inClass (topS 16) 7)) (defBody (inClass (topS 16) 7)) (defScope (inClass (topS 16) 7)) [.int 0] [] f_Schema_check_table _ := ⟨⟨_, _, _, _, _, _, _, _, _, _, rfl, l_Schema_check_table, o_Schema_check_table, .inr ⟨by simp, T_Schema_check_table, _, [.int 0 dt_Schema_check_table_0], _, rfl, lt_Schema_check_table, rfl, .cons ⟨_, rfl⟩ (.nil)⟩, .inl rfl⟩, k_Schema_check_table⟩
  have b_Schema_check_table := F_Schema_check_table.binds1 (ps := ["self", "table", "line"]) 3 1 (by simp) rfl fun _ _ _ _ _ _ _ us its hu hi => (match us, its, hu, hi with | [_, _, _], [_], _, _ => ⟨_, rfl, rfl⟩)
  have b_Schema_check_table_d := F_Schema_check_table.binds1 (ps := ["self", "table", "line"]) 2 0 (by simp) rfl fun _ _ _ _ _ _ _ us its hu hi => (match us, its, hu, hi with | [_, _], [_], _, _ => ⟨_, rfl, rfl⟩)
  have F_Schema_chain_of := fun_mk (st := (inClass (topS 16) 10)) l_Schema_chain_of o_Schema_chain_of k_Schema_chain_of
  have b_Schema_chain_of := F_Schema_chain_of.binds (ps := ["self", "table"]) fun _ _ _ _ _ _ us hl => match us, hl with | [_, _], _ => rfl
  have F_Schema_check_position := fun_mk (st := (inClass (topS 16) 15)) l_Schema_check_position o_Schema_check_position k_Schema_check_position
  have b_Schema_check_position := F_Schema_check_position.binds (ps := ["self", "line", "table", "names"]) fun _ _ _ _ _ _ us hl => match us, hl with | [_, _, _, _], _ => rfl
  have F_Schema___init__ := fun_mk (st := (inClass (topS 16) 3)) l_Schema___init__ o_Schema___init__ k_Schema___init__
  have b_Schema___init__ := F_Schema___init__.binds (ps := ["self", "text"]) fun _ _ _ _ _ _ us hl => match us, hl with | [_, _], _ => rfl
  have F_read_table := fun_mk (st := (topS 18)) l_read_table o_read_table k_read_table
  have b_read_table := F_read_table.binds (ps := ["schema", "line", "table", "parent", "columns"]) fun _ _ _ _ _ _ us hl => match us, hl with | [_, _, _, _, _], _ => rfl
  have F_read_owner := fun_mk (st := (topS 19)) l_read_owner o_read_owner k_read_owner
  have b_read_owner := F_read_owner.binds (ps := ["schema", "line", "table", "position"]) fun _ _ _ _ _ _ us hl => match us, hl with | [_, _, _, _], _ => rfl
  have F_read_follow := fun_mk (st := (topS 20)) l_read_follow o_read_follow k_read_follow
  have b_read_follow := F_read_follow.binds (ps := ["schema", "line", "table", "column", "upper"]) fun _ _ _ _ _ _ us hl => match us, hl with | [_, _, _, _, _], _ => rfl
  have F_read_line := fun_mk (st := (topS 17)) l_read_line o_read_line k_read_line
  have b_read_line := F_read_line.binds (ps := ["schema", "line", "words"]) fun _ _ _ _ _ _ us hl => match us, hl with | [_, _, _], _ => rfl
  have F_Schema_read := fun_mk (st := (inClass (topS 16) 4)) l_Schema_read o_Schema_read k_Schema_read
  have b_Schema_read := F_Schema_read.binds (ps := ["text"]) fun _ _ _ _ _ _ us hl => match us, hl with | [_], _ => rfl
  have F_get_named := fun_mk (st := (topS 26)) l_get_named o_get_named k_get_named
  have b_get_named := F_get_named.binds (ps := ["_law_error", "_law_word"]) fun _ _ _ _ _ _ us hl => match us, hl with | [_, _], _ => rfl
  have F_schema_told := fun_mk (st := (topS 27)) l_schema_told o_schema_told k_schema_told
  have b_schema_told := F_schema_told.binds (ps := ["_law_text"]) fun _ _ _ _ _ _ us hl => match us, hl with | [_], _ => rfl
  have F_draw := fun_mk (st := (topS 32)) l_draw o_draw k_draw
  have b_draw := F_draw.binds (ps := ["_law_st", "_law_limit"]) fun _ _ _ _ _ _ us hl => match us, hl with | [_, _], _ => rfl
  have F_get_state := fun_mk (st := (topS 31)) l_get_state o_get_state k_get_state
  have b_get_state := F_get_state.binds (ps := ["_law_script"]) fun _ _ _ _ _ _ us hl => match us, hl with | [_], _ => rfl
  have F_get_words := fun_mk (st := (topS 33)) l_get_words o_get_words k_get_words
  have b_get_words := F_get_words.binds (ps := ["_law_st", "_law_most", "_law_count"]) fun _ _ _ _ _ _ us hl => match us, hl with | [_, _, _], _ => rfl
  have F_get_chain := fun_mk (st := (topS 34)) l_get_chain o_get_chain k_get_chain
  have b_get_chain := F_get_chain.binds (ps := ["_law_tb", "_law_t"]) fun _ _ _ _ _ _ us hl => match us, hl with | [_, _], _ => rfl
  have F_get_places := fun_mk (st := (topS 35)) l_get_places o_get_places k_get_places
  have b_get_places := F_get_places.binds (ps := ["_law_tb", "_law_t"]) fun _ _ _ _ _ _ us hl => match us, hl with | [_, _], _ => rfl
  have F_table_line := fun_mk (st := (topS 36)) l_table_line o_table_line k_table_line
  have b_table_line := F_table_line.binds (ps := ["_law_tb", "_law_t"]) fun _ _ _ _ _ _ us hl => match us, hl with | [_, _], _ => rfl
  have F_forest := fun_mk (st := (topS 22)) l_forest o_forest k_forest
  have b_forest := F_forest.binds (ps := ["_law_state", "_law_names", "_law_most"]) fun _ _ _ _ _ _ us hl => match us, hl with | [_, _, _], _ => rfl
  have F_get_owners := fun_mk (st := (topS 37)) l_get_owners o_get_owners k_get_owners
  have b_get_owners := F_get_owners.binds (ps := ["_law_st", "_law_tb"]) fun _ _ _ _ _ _ us hl => match us, hl with | [_, _], _ => rfl
  have F_all_follows := fun_mk (st := (topS 25)) l_all_follows o_all_follows k_all_follows
  have b_all_follows := F_all_follows.binds (ps := ["_law_state", "_law_tables", "_law_chance"]) fun _ _ _ _ _ _ us hl => match us, hl with | [_, _, _], _ => rfl
  have F_extra_lines := fun_mk (st := (topS 24)) l_extra_lines o_extra_lines k_extra_lines
  have b_extra_lines := F_extra_lines.binds (ps := ["_law_tables", "_law_owners", "_law_follows", "_law_t"]) fun _ _ _ _ _ _ us hl => match us, hl with | [_, _, _, _], _ => rfl
  have F_schema_lines := fun_mk (st := (topS 23)) l_schema_lines o_schema_lines k_schema_lines
  have b_schema_lines := F_schema_lines.binds (ps := ["_law_state", "_law_tables", "_law_owners", "_law_follows"]) fun _ _ _ _ _ _ us hl => match us, hl with | [_, _, _, _], _ => rfl
  have F_get_spoiled := fun_mk (st := (topS 28)) l_get_spoiled o_get_spoiled k_get_spoiled
  have b_get_spoiled := F_get_spoiled.binds (ps := ["_law_state", "_law_line"]) fun _ _ _ _ _ _ us hl => match us, hl with | [_, _], _ => rfl
  have F_places_in := fun_mk (st := (topS 29)) l_places_in o_places_in k_places_in
  have b_places_in := F_places_in.binds (ps := ["_law_words"]) fun _ _ _ _ _ _ us hl => match us, hl with | [_], _ => rfl
  have F_word_spoiled := fun_mk (st := (topS 30)) l_word_spoiled o_word_spoiled k_word_spoiled
  have b_word_spoiled := F_word_spoiled.binds (ps := ["_law_state", "_law_line"]) fun _ _ _ _ _ _ us hl => match us, hl with | [_, _], _ => rfl
  have F_law := fun_mk (st := (topS 38)) l_law o_law k_law
  refine ⟨PySem.W.fnOf "law" "law" (defArgs (topS 38)) (defBody (topS 38)) (defScope (topS 38)) .none kV_law dc_law pm_law an_law cd_law ct_law, fun s v => .of_eq rfl, fun base _ _ => ?_⟩
  have c_is_name : Callee l.prog w K mg base "is_name" ["word"] spIsName 1 := ⟨_, _, ok_is_name F_is_name T, b_is_name, PySem.W.mg_of X G a_is_name, k_is_name⟩
  have c_split_words : Callee l.prog w K mg base "split_words" ["line"] spSplitW 1 := ⟨_, _, ok_split_words F_split_words T, b_split_words, PySem.W.mg_of X G a_split_words, k_split_words⟩
  have c_all_names : Callee l.prog w K mg base "all_names" ["words"] spAllN 2 := ⟨_, _, ok_all_names F_all_names T c_is_name, b_all_names, PySem.W.mg_of X G a_all_names, k_all_names⟩
  have c_is_path : Callee l.prog w K mg base "is_path" ["word", "least"] spIsPath 3 := ⟨_, _, ok_is_path F_is_path T c_all_names, b_is_path, PySem.W.mg_of X G a_is_path, k_is_path⟩
  have m_split_words := Callee.imp (sp' := conc aSplitW) c_split_words OA.b_splitW
  have m_all_names := Callee.imp (sp' := conc aAllN) c_all_names OA.b_allN
  have m_is_path := Callee.imp (sp' := conc aIsPath) c_is_path OA.b_isPath
  have c_BadLine : ErrMk l.prog w K mg base "BadLine" C_BadLine ["self", "line"] (spErr1 C_BadLine "line") 1 := ⟨_, _, ok_BadLine F_BadLine___init__ oex_BadLine no_BadLine_line, b_BadLine___init__, PySem.W.mg_of X G g_BadLine, oex_BadLine, a_BadLine___init__, i_BadLine___init__⟩
  have c_TooMany : ErrMk l.prog w K mg base "TooMany" C_TooMany ["self", "line"] (spErr1 C_TooMany "line") 1 := ⟨_, _, ok_TooMany F_TooMany___init__ oex_TooMany no_TooMany_line, b_TooMany___init__, PySem.W.mg_of X G g_TooMany, oex_TooMany, a_TooMany___init__, i_TooMany___init__⟩
  have c_DuplicateName : ErrMk l.prog w K mg base "DuplicateName" C_DuplicateName ["self", "line", "name"] (spErr2 C_DuplicateName "line" "name") 1 := ⟨_, _, ok_DuplicateName F_DuplicateName___init__ oex_DuplicateName no_DuplicateName_line no_DuplicateName_name, b_DuplicateName___init__, PySem.W.mg_of X G g_DuplicateName, oex_DuplicateName, a_DuplicateName___init__, i_DuplicateName___init__⟩
  have c_UnknownName : ErrMk l.prog w K mg base "UnknownName" C_UnknownName ["self", "line", "name"] (spErr2 C_UnknownName "line" "name") 1 := ⟨_, _, ok_UnknownName F_UnknownName___init__ oex_UnknownName no_UnknownName_line no_UnknownName_name, b_UnknownName___init__, PySem.W.mg_of X G g_UnknownName, oex_UnknownName, a_UnknownName___init__, i_UnknownName___init__⟩
  have c_Schema_check_table : MethX l.prog w K mg base C "check_table" ["self", "table", "line"] (conc (aChkT C ea.ec)) 3 [] := ⟨_, _, ok_check_table (ec := ea.ec) F_Schema_check_table T TS c_UnknownName, b_Schema_check_table, cl_Schema, ⟨a_Schema_check_table, i_Schema_check_table, k_Schema_check_table⟩⟩
  have c_Schema_check_table_1 : MethX l.prog w K mg base C "check_table" ["self", "table", "line"] (conc (aChkT C ea.ec)) 3 [.int 0] := ⟨_, _, ok_check_table (ec := ea.ec) F_Schema_check_table T TS c_UnknownName, b_Schema_check_table_d, cl_Schema, ⟨a_Schema_check_table, i_Schema_check_table, k_Schema_check_table⟩⟩
  have c_Schema_chain_of : MethX l.prog w K mg base C "chain_of" ["self", "table"] (conc (aChainOf C ea.ec)) 4 [] := ⟨_, _, ok_chain_of (ec := ea.ec) F_Schema_chain_of T TS c_Schema_check_table_1, ⟨[], .nil, b_Schema_chain_of⟩, cl_Schema, ⟨a_Schema_chain_of, i_Schema_chain_of, k_Schema_chain_of⟩⟩
  have c_Schema_check_position : MethX l.prog w K mg base C "check_position" ["self", "line", "table", "names"] (conc (aChkPos C ea.ec)) 3 [] := ⟨_, _, ok_check_position (ec := ea.ec) F_Schema_check_position T TS c_UnknownName, ⟨[], .nil, b_Schema_check_position⟩, cl_Schema, ⟨a_Schema_check_position, i_Schema_check_position, k_Schema_check_position⟩⟩
  have c_Schema : Maker l.prog w K mg base "Schema" C ["self", "text"] (conc (aSInit C)) 1 := ⟨_, _, ok_sinit F_Schema___init__ T TS, b_Schema___init__, PySem.W.mg_of X G aC_Schema, ⟨mk_Schema, a_Schema___init__, i_Schema___init__, kc_Schema⟩⟩
  have c_read_table : CalleeX l.prog w K mg base "read_table" ["schema", "line", "table", "parent", "columns"] (conc (aRdTable C ea.ec)) 5 := ⟨_, _, ok_read_table (ec := ea.ec) F_read_table T TS c_DuplicateName c_TooMany c_Schema_check_table c_Schema_chain_of, b_read_table, PySem.W.mg_of X G a_read_table, k_read_table⟩
  have c_read_owner : CalleeX l.prog w K mg base "read_owner" ["schema", "line", "table", "position"] (conc (aRdOwner C ea.ec)) 5 := ⟨_, _, ok_read_owner (ec := ea.ec) F_read_owner T TS c_DuplicateName c_Schema_check_table c_Schema_check_position, b_read_owner, PySem.W.mg_of X G a_read_owner, k_read_owner⟩
  have c_read_follow : CalleeX l.prog w K mg base "read_follow" ["schema", "line", "table", "column", "upper"] (conc (aRdFollow C ea.ec)) 5 := ⟨_, _, ok_read_follow (ec := ea.ec) F_read_follow T TS c_DuplicateName c_UnknownName c_Schema_check_table, b_read_follow, PySem.W.mg_of X G a_read_follow, k_read_follow⟩
  have c_read_line : CalleeX l.prog w K mg base "read_line" ["schema", "line", "words"] (conc (aRdLine C ea.ec)) 6 := ⟨_, _, ok_read_line (ec := ea.ec) F_read_line T c_BadLine m_all_names m_is_path c_read_table c_read_owner c_read_follow, b_read_line, PySem.W.mg_of X G a_read_line, k_read_line⟩
  have c_Schema_read : StaticX l.prog w K mg base C "read" ["text"] (conc (aRead C ea.ec)) 7 := ⟨_, _, _, _, _, ok_read (ec := ea.ec) F_Schema_read T c_Schema m_split_words c_read_line, b_Schema_read, cr_Schema, s_Schema_read, r_Schema_read, k_Schema_read⟩
  have c_get_named : CalleeW l.prog w K mg base "_law_get_named" ["_law_error", "_law_word"] (conc (aNamed K ea)) 1 := ⟨_, _, ok_get_named F_get_named T TE, b_get_named, PySem.W.mg_of X G a_get_named, k_get_named⟩
  have c_schema_told : Callee l.prog w K mg base "_law_schema_told" ["_law_text"] (conc aTold) 8 := ⟨_, _, ok_schema_told F_schema_told T TS TE c_get_named c_Schema_read, b_schema_told, PySem.W.mg_of X G a_schema_told, k_schema_told⟩
  have c_draw : Callee l.prog w K mg base "_law_draw" ["_law_st", "_law_limit"] spDraw 1 := ⟨_, _, ok_draw F_draw T, b_draw, PySem.W.mg_of X G a_draw, k_draw⟩
  have c_get_state : Callee l.prog w K mg base "_law_get_state" ["_law_script"] (spState K) 1 := ⟨_, _, ok_get_state F_get_state T, b_get_state, PySem.W.mg_of X G a_get_state, k_get_state⟩
  have c_get_words : Callee l.prog w K mg base "_law_get_words" ["_law_st", "_law_most", "_law_count"] spWords 2 := ⟨_, _, ok_get_words F_get_words T c_draw, b_get_words, PySem.W.mg_of X G a_get_words, k_get_words⟩
  have m_draw := Callee.imp (sp' := conc aDraw) c_draw OA.b_draw
  have m_get_words := Callee.imp (sp' := conc aWords) c_get_words OA.b_words
  have rc_get_chain : ∀ sp k, FnOk l.prog w K mg base CX0 k f_get_chain _ ["_law_tb", "_law_t"] sp → Callee l.prog w K mg base "_law_get_chain" ["_law_tb", "_law_t"] sp k := fun sp k h => ⟨_, _, h, b_get_chain, PySem.W.mg_of X G a_get_chain, k_get_chain⟩
  have c_get_chain := rc_get_chain _ _ (ok_get_chain F_get_chain T rc_get_chain 4)
  have rc_get_places : ∀ sp k, FnOk l.prog w K mg base CX0 k f_get_places _ ["_law_tb", "_law_t"] sp → Callee l.prog w K mg base "_law_get_places" ["_law_tb", "_law_t"] sp k := fun sp k h => ⟨_, _, h, b_get_places, PySem.W.mg_of X G a_get_places, k_get_places⟩
  have c_get_places := rc_get_places _ _ (ok_get_places F_get_places T rc_get_places 4)
  have c_table_line : Callee l.prog w K mg base "_law_table_line" ["_law_tb", "_law_t"] spTL 1 := ⟨_, _, ok_table_line F_table_line T, b_table_line, PySem.W.mg_of X G a_table_line, k_table_line⟩
  have c_forest : Callee l.prog w K mg base "_law_forest" ["_law_state", "_law_names", "_law_most"] spForest 5 := ⟨_, _, ok_forest F_forest T c_draw c_get_chain, b_forest, PySem.W.mg_of X G a_forest, k_forest⟩
  have c_get_owners : Callee l.prog w K mg base "_law_get_owners" ["_law_st", "_law_tb"] spOwners 5 := ⟨_, _, ok_get_owners F_get_owners T c_draw c_get_places, b_get_owners, PySem.W.mg_of X G a_get_owners, k_get_owners⟩
  have c_all_follows : Callee l.prog w K mg base "_law_all_follows" ["_law_state", "_law_tables", "_law_chance"] spFollows 2 := ⟨_, _, ok_all_follows F_all_follows T c_draw, b_all_follows, PySem.W.mg_of X G a_all_follows, k_all_follows⟩
  have c_extra_lines : Callee l.prog w K mg base "_law_extra_lines" ["_law_tables", "_law_owners", "_law_follows", "_law_t"] spExtra 1 := ⟨_, _, ok_extra_lines F_extra_lines T, b_extra_lines, PySem.W.mg_of X G a_extra_lines, k_extra_lines⟩
  have c_schema_lines : Callee l.prog w K mg base "_law_schema_lines" ["_law_state", "_law_tables", "_law_owners", "_law_follows"] spSLines 2 := ⟨_, _, ok_schema_lines F_schema_lines T c_draw c_table_line c_extra_lines, b_schema_lines, PySem.W.mg_of X G a_schema_lines, k_schema_lines⟩
  have m_get_chain := Callee.imp (sp' := conc (aGC 4)) c_get_chain OA.b_gc
  have m_get_places := Callee.imp (sp' := conc (aGP 4)) c_get_places OA.b_gp
  have m_table_line := Callee.imp (sp' := conc aTL) c_table_line OA.b_tl
  have m_forest := Callee.imp (sp' := conc aForest) c_forest OA.b_forest
  have m_get_owners := Callee.imp (sp' := conc aOwners) c_get_owners OA.b_owners
  have m_all_follows := Callee.imp (sp' := conc aFollows) c_all_follows OA.b_follows
  have m_schema_lines := Callee.imp (sp' := conc aSLines) c_schema_lines OA.b_slines
  have c_get_spoiled : Callee l.prog w K mg base "_law_get_spoiled" ["_law_state", "_law_line"] (conc aSpoil) 2 := ⟨_, _, ok_get_spoiled F_get_spoiled T m_draw, b_get_spoiled, PySem.W.mg_of X G a_get_spoiled, k_get_spoiled⟩
  have c_places_in : Callee l.prog w K mg base "_law_places_in" ["_law_words"] (conc aPlc) 1 := ⟨_, _, ok_places_in F_places_in T, b_places_in, PySem.W.mg_of X G a_places_in, k_places_in⟩
  have c_word_spoiled : Callee l.prog w K mg base "_law_word_spoiled" ["_law_state", "_law_line"] (conc aWSp) 2 := ⟨_, _, ok_word_spoiled F_word_spoiled T m_draw c_places_in, b_word_spoiled, PySem.W.mg_of X G a_word_spoiled, k_word_spoiled⟩
  exact ok_law F_law T c_get_state m_draw m_get_words m_forest m_get_owners m_schema_lines m_all_follows c_get_spoiled c_word_spoiled c_schema_told
theorem walk {l : PySem.W.OpenLaw} {q : Program} {loose : List Str} {XP : (Str → Option Value) → Heap → Prop} {YP : World → Heap → Prop} {d : DefRec} {K : Params → PySem.W.Frag} (hn : l.most = some 63) (hdf : d.params.defaults = [])
    (hY : ∀ (w : World) (h : Heap), YP w h → (K w.params).In h)
    (F : ∀ (w : World) (mg : Str → Option Value) (fa : Addr) (h : Heap), (K w.params).In h → h.Ns mainGlobals mg → mg d.name = some (.ref fa) →
      ∃ fd : FuncData, (∀ (s : Shared) (u : Value), BindsTo s fd ⟨[u], []⟩ [("_law_script", u)]) ∧ ∀ base : Heap, (K w.params).In base → base.Ns mainGlobals mg → FnOk l.prog w (K w.params) mg base CX0 9 fa fd ["_law_script"] (spLaw (K w.params))) :
    PySem.W.WalkO q loose XP YP l.row.toRowW d [] (fun f vs => PySem.call f vs) :=
  L2.walk_of (n := 63) (k := 9) (x := "_law_script") (CX := fun _ => CX0) (sp := fun w => spLaw (K w.params)) hn (by decide) hdf ⟨rfl, by decide, by decide⟩ hY F (fun _ _ a ns hl _ hS => ⟨a, ns, rfl, hS, hl, fun _ => rfl⟩) fun _ _ _ _ _ z => z
end OA
open PySem PySem.W PyProof.Rows
set_option maxRecDepth 100000 in
set_option maxHeartbeats 0 in
theorem PySem.Challenge.cw_ownersagree_k04_schema_lines_refused_holds : PySem.Challenge.rw_ownersagree_k04_schema_lines_refused.Holds := by
  w_on; o_law; k_head; (case hw => w_witness2)
  k_fill
  refine OA.walk (l := PySem.Challenge.rw_ownersagree_k04_schema_lines_refused) rfl rfl (fun w h Y => PySem.W.kIn_of Y) ?F
  case F =>
    intro w mg fa h KX G hmg
    refine' OA.all_mk KX G hmg ?aC_Schema ?pg_Schema ?hd_Schema ?po_Schema ?sa_Schema ?mk_Schema ?kc_Schema ?rd_Schema ?sg_Schema ?n_text_Schema ?n_column_lists_Schema ?n_parents_Schema ?n_owners_Schema ?n_following_Schema ?cv_Schema_MOST_TABLES ?cv_Schema_MOST_COLUMNS ?cv_Schema_LONGEST_CHAIN ?g_AgreeError ?g_BadLine ?g_TooMany ?g_DuplicateName ?g_UnknownName ?x_BadLine ?sa_BadLine ?ga_BadLine ?gg_BadLine ?eb_BadLine ?ty_BadLine ?hd_BadLine ?kp_BadLine ?ca_BadLine ?mr_BadLine ?ss_BadLine ?no_BadLine_line ?x_TooMany ?sa_TooMany ?ga_TooMany ?gg_TooMany ?eb_TooMany ?ty_TooMany ?hd_TooMany ?kp_TooMany ?ca_TooMany ?mr_TooMany ?ss_TooMany ?no_TooMany_line ?x_DuplicateName ?sa_DuplicateName ?ga_DuplicateName ?gg_DuplicateName ?eb_DuplicateName ?ty_DuplicateName ?hd_DuplicateName ?kp_DuplicateName ?ca_DuplicateName ?mr_DuplicateName ?ss_DuplicateName ?no_DuplicateName_line ?no_DuplicateName_name ?x_UnknownName ?sa_UnknownName ?ga_UnknownName ?gg_UnknownName ?eb_UnknownName ?ty_UnknownName ?hd_UnknownName ?kp_UnknownName ?ca_UnknownName ?mr_UnknownName ?ss_UnknownName ?no_UnknownName_line ?no_UnknownName_name ?q_k_BadLine ?su_BadLine_DuplicateName ?su_BadLine_UnknownName ?su_BadLine_TooMany ?q_k_DuplicateName ?su_DuplicateName_BadLine ?su_DuplicateName_UnknownName ?su_DuplicateName_TooMany ?q_k_UnknownName ?su_UnknownName_BadLine ?su_UnknownName_DuplicateName ?su_UnknownName_TooMany ?q_k_TooMany ?su_TooMany_BadLine ?su_TooMany_DuplicateName ?su_TooMany_UnknownName ?a_is_name ?l_is_name ?o_is_name ?k_is_name ?a_split_words ?l_split_words ?o_split_words ?k_split_words ?a_all_names ?l_all_names ?o_all_names ?k_all_names ?a_is_path ?l_is_path ?o_is_path ?k_is_path ?a_BadLine___init__ ?i_BadLine___init__ ?l_BadLine___init__ ?o_BadLine___init__ ?k_BadLine___init__ ?a_TooMany___init__ ?i_TooMany___init__ ?l_TooMany___init__ ?o_TooMany___init__ ?k_TooMany___init__ ?a_DuplicateName___init__ ?i_DuplicateName___init__ ?l_DuplicateName___init__ ?o_DuplicateName___init__ ?k_DuplicateName___init__ ?a_UnknownName___init__ ?i_UnknownName___init__ ?l_UnknownName___init__ ?o_UnknownName___init__ ?k_UnknownName___init__ ?a_Schema_check_table ?i_Schema_check_table ?l_Schema_check_table ?lt_Schema_check_table ?o_Schema_check_table ?k_Schema_check_table ?a_Schema_chain_of ?i_Schema_chain_of ?l_Schema_chain_of ?o_Schema_chain_of ?k_Schema_chain_of ?a_Schema_check_position ?i_Schema_check_position ?l_Schema_check_position ?o_Schema_check_position ?k_Schema_check_position ?a_Schema___init__ ?i_Schema___init__ ?l_Schema___init__ ?o_Schema___init__ ?k_Schema___init__ ?a_read_table ?l_read_table ?o_read_table ?k_read_table ?a_read_owner ?l_read_owner ?o_read_owner ?k_read_owner ?a_read_follow ?l_read_follow ?o_read_follow ?k_read_follow ?a_read_line ?l_read_line ?o_read_line ?k_read_line ?s_Schema_read ?r_Schema_read ?l_Schema_read ?o_Schema_read ?k_Schema_read ?a_get_named ?l_get_named ?o_get_named ?k_get_named ?a_schema_told ?l_schema_told ?o_schema_told ?k_schema_told ?a_draw ?l_draw ?o_draw ?k_draw ?a_get_state ?l_get_state ?o_get_state ?k_get_state ?a_get_words ?l_get_words ?o_get_words ?k_get_words ?a_get_chain ?l_get_chain ?o_get_chain ?k_get_chain ?a_get_places ?l_get_places ?o_get_places ?k_get_places ?a_table_line ?l_table_line ?o_table_line ?k_table_line ?a_forest ?l_forest ?o_forest ?k_forest ?a_get_owners ?l_get_owners ?o_get_owners ?k_get_owners ?a_all_follows ?l_all_follows ?o_all_follows ?k_all_follows ?a_extra_lines ?l_extra_lines ?o_extra_lines ?k_extra_lines ?a_schema_lines ?l_schema_lines ?o_schema_lines ?k_schema_lines ?a_get_spoiled ?l_get_spoiled ?o_get_spoiled ?k_get_spoiled ?a_places_in ?l_places_in ?o_places_in ?k_places_in ?a_word_spoiled ?l_word_spoiled ?o_word_spoiled ?k_word_spoiled ?a_law ?l_law ?o_law ?k_law ?z_len ?z_abs ?z_int ?z_str ?z_list ?z_tuple ?z_range ?z_isinstance ?z_any ?z_all ?z_sorted ?z_bool ?z_enumerate ?z_max ?z_min ?z_sum ?z_zip ?z_dict ?v_LETTERS ?v_SIGNS ?v_LONGEST_NAME ?q_hn ?q_htk
    (case aC_Schema => k_is)
    (case pg_Schema => k_is)
    (case hd_Schema => k_is)
    (case po_Schema => k_is)
    (case sa_Schema => k_is)
    (case mk_Schema => k_is)
    (case kc_Schema => k_is)
    (case rd_Schema => k_is)
    (case sg_Schema => k_is)
    (case n_text_Schema => k_is)
    (case n_column_lists_Schema => k_is)
    (case n_parents_Schema => k_is)
    (case n_owners_Schema => k_is)
    (case n_following_Schema => k_is)
    (case cv_Schema_MOST_TABLES => k_is)
    (case cv_Schema_MOST_COLUMNS => k_is)
    (case cv_Schema_LONGEST_CHAIN => k_is)
    (case g_AgreeError => k_is)
    (case g_BadLine => k_is)
    (case g_TooMany => k_is)
    (case g_DuplicateName => k_is)
    (case g_UnknownName => k_is)
    (case x_BadLine => k_is)
    (case sa_BadLine => k_is)
    (case ga_BadLine => k_is)
    (case gg_BadLine => k_is)
    (case eb_BadLine => k_is)
    (case ty_BadLine => k_is)
    (case hd_BadLine => k_is)
    (case kp_BadLine => k_is)
    (case ca_BadLine => k_is)
    (case mr_BadLine => k_is)
    (case ss_BadLine => k_is)
    (case no_BadLine_line => k_is)
    (case x_TooMany => k_is)
    (case sa_TooMany => k_is)
    (case ga_TooMany => k_is)
    (case gg_TooMany => k_is)
    (case eb_TooMany => k_is)
    (case ty_TooMany => k_is)
    (case hd_TooMany => k_is)
    (case kp_TooMany => k_is)
    (case ca_TooMany => k_is)
    (case mr_TooMany => k_is)
    (case ss_TooMany => k_is)
    (case no_TooMany_line => k_is)
    (case x_DuplicateName => k_is)
    (case sa_DuplicateName => k_is)
    (case ga_DuplicateName => k_is)
    (case gg_DuplicateName => k_is)
    (case eb_DuplicateName => k_is)
    (case ty_DuplicateName => k_is)
    (case hd_DuplicateName => k_is)
    (case kp_DuplicateName => k_is)
    (case ca_DuplicateName => k_is)
    (case mr_DuplicateName => k_is)
    (case ss_DuplicateName => k_is)
    (case no_DuplicateName_line => k_is)
    (case no_DuplicateName_name => k_is)
    (case x_UnknownName => k_is)
    (case sa_UnknownName => k_is)
    (case ga_UnknownName => k_is)
    (case gg_UnknownName => k_is)
    (case eb_UnknownName => k_is)
    (case ty_UnknownName => k_is)
    (case hd_UnknownName => k_is)
    (case kp_UnknownName => k_is)
    (case ca_UnknownName => k_is)
    (case mr_UnknownName => k_is)
    (case ss_UnknownName => k_is)
    (case no_UnknownName_line => k_is)
    (case no_UnknownName_name => k_is)
    (case q_k_BadLine => kit_is)
    (case su_BadLine_DuplicateName => k_is)
    (case su_BadLine_UnknownName => k_is)
    (case su_BadLine_TooMany => k_is)
    (case q_k_DuplicateName => kit_is)
    (case su_DuplicateName_BadLine => k_is)
    (case su_DuplicateName_UnknownName => k_is)
    (case su_DuplicateName_TooMany => k_is)
    (case q_k_UnknownName => kit_is)
    (case su_UnknownName_BadLine => k_is)
    (case su_UnknownName_DuplicateName => k_is)
    (case su_UnknownName_TooMany => k_is)
    (case q_k_TooMany => kit_is)
    (case su_TooMany_BadLine => k_is)
    (case su_TooMany_DuplicateName => k_is)
    (case su_TooMany_UnknownName => k_is)
    (case a_is_name => k_is)
    (case l_is_name => k_is)
    (case o_is_name => k_is)
    (case k_is_name => k_is)
    (case a_split_words => k_is)
    (case l_split_words => k_is)
    (case o_split_words => k_is)
    (case k_split_words => k_is)
    (case a_all_names => k_is)
    (case l_all_names => k_is)
    (case o_all_names => k_is)
    (case k_all_names => k_is)
    (case a_is_path => k_is)
    (case l_is_path => k_is)
    (case o_is_path => k_is)
    (case k_is_path => k_is)
    (case a_BadLine___init__ => k_is)
    (case i_BadLine___init__ => k_is)
    (case l_BadLine___init__ => k_is)
    (case o_BadLine___init__ => k_is)
    (case k_BadLine___init__ => k_is)
    (case a_TooMany___init__ => k_is)
    (case i_TooMany___init__ => k_is)
    (case l_TooMany___init__ => k_is)
    (case o_TooMany___init__ => k_is)
    (case k_TooMany___init__ => k_is)
    (case a_DuplicateName___init__ => k_is)
    (case i_DuplicateName___init__ => k_is)
    (case l_DuplicateName___init__ => k_is)
    (case o_DuplicateName___init__ => k_is)
    (case k_DuplicateName___init__ => k_is)
    (case a_UnknownName___init__ => k_is)
    (case i_UnknownName___init__ => k_is)
    (case l_UnknownName___init__ => k_is)
    (case o_UnknownName___init__ => k_is)
    (case k_UnknownName___init__ => k_is)
    (case a_Schema_check_table => k_is)
    (case i_Schema_check_table => k_is)
    (case l_Schema_check_table => k_is)
    (case lt_Schema_check_table => k_is)
    (case o_Schema_check_table => k_is)
    (case k_Schema_check_table => k_is)
    (case a_Schema_chain_of => k_is)
    (case i_Schema_chain_of => k_is)
    (case l_Schema_chain_of => k_is)
    (case o_Schema_chain_of => k_is)
    (case k_Schema_chain_of => k_is)
    (case a_Schema_check_position => k_is)
    (case i_Schema_check_position => k_is)
    (case l_Schema_check_position => k_is)
    (case o_Schema_check_position => k_is)
    (case k_Schema_check_position => k_is)
    (case a_Schema___init__ => k_is)
    (case i_Schema___init__ => k_is)
    (case l_Schema___init__ => k_is)
    (case o_Schema___init__ => k_is)
    (case k_Schema___init__ => k_is)
    (case a_read_table => k_is)
    (case l_read_table => k_is)
    (case o_read_table => k_is)
    (case k_read_table => k_is)
    (case a_read_owner => k_is)
    (case l_read_owner => k_is)
    (case o_read_owner => k_is)
    (case k_read_owner => k_is)
    (case a_read_follow => k_is)
    (case l_read_follow => k_is)
    (case o_read_follow => k_is)
    (case k_read_follow => k_is)
    (case a_read_line => k_is)
    (case l_read_line => k_is)
    (case o_read_line => k_is)
    (case k_read_line => k_is)
    (case s_Schema_read => k_is)
    (case r_Schema_read => k_is)
    (case l_Schema_read => k_is)
    (case o_Schema_read => k_is)
    (case k_Schema_read => k_is)
    (case a_get_named => k_is)
    (case l_get_named => k_is)
    (case o_get_named => k_is)
    (case k_get_named => k_is)
    (case a_schema_told => k_is)
    (case l_schema_told => k_is)
    (case o_schema_told => k_is)
    (case k_schema_told => k_is)
    (case a_draw => k_is)
    (case l_draw => k_is)
    (case o_draw => k_is)
    (case k_draw => k_is)
    (case a_get_state => k_is)
    (case l_get_state => k_is)
    (case o_get_state => k_is)
    (case k_get_state => k_is)
    (case a_get_words => k_is)
    (case l_get_words => k_is)
    (case o_get_words => k_is)
    (case k_get_words => k_is)
    (case a_get_chain => k_is)
    (case l_get_chain => k_is)
    (case o_get_chain => k_is)
    (case k_get_chain => k_is)
    (case a_get_places => k_is)
    (case l_get_places => k_is)
    (case o_get_places => k_is)
    (case k_get_places => k_is)
    (case a_table_line => k_is)
    (case l_table_line => k_is)
    (case o_table_line => k_is)
    (case k_table_line => k_is)
    (case a_forest => k_is)
    (case l_forest => k_is)
    (case o_forest => k_is)
    (case k_forest => k_is)
    (case a_get_owners => k_is)
    (case l_get_owners => k_is)
    (case o_get_owners => k_is)
    (case k_get_owners => k_is)
    (case a_all_follows => k_is)
    (case l_all_follows => k_is)
    (case o_all_follows => k_is)
    (case k_all_follows => k_is)
    (case a_extra_lines => k_is)
    (case l_extra_lines => k_is)
    (case o_extra_lines => k_is)
    (case k_extra_lines => k_is)
    (case a_schema_lines => k_is)
    (case l_schema_lines => k_is)
    (case o_schema_lines => k_is)
    (case k_schema_lines => k_is)
    (case a_get_spoiled => k_is)
    (case l_get_spoiled => k_is)
    (case o_get_spoiled => k_is)
    (case k_get_spoiled => k_is)
    (case a_places_in => k_is)
    (case l_places_in => k_is)
    (case o_places_in => k_is)
    (case k_places_in => k_is)
    (case a_word_spoiled => k_is)
    (case l_word_spoiled => k_is)
    (case o_word_spoiled => k_is)
    (case k_word_spoiled => k_is)
    (case a_law => k_is)
    (case l_law => k_is)
    (case o_law => k_is)
    (case k_law => k_is)
    (case z_len => k_is)
    (case z_abs => k_is)
    (case z_int => k_is)
    (case z_str => k_is)
    (case z_list => k_is)
    (case z_tuple => k_is)
    (case z_range => k_is)
    (case z_isinstance => k_is)
    (case z_any => k_is)
    (case z_all => k_is)
    (case z_sorted => k_is)
    (case z_bool => k_is)
    (case z_enumerate => k_is)
    (case z_max => k_is)
    (case z_min => k_is)
    (case z_sum => k_is)
    (case z_zip => k_is)
    (case z_dict => k_is)
    (case v_LETTERS => k_is)
    (case v_SIGNS => k_is)
    (case v_LONGEST_NAME => k_is)
    (case q_hn => k_is)
    (case q_htk => k_is)

