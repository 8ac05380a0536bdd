import PyProof.Rows.All
import Wide.All
import OpenK.AllK
import Wide.FinOn
import PyProof.EqAt
import PyProof.EqKinds
import PyProof.TupleCall
import Open.SpecLaws
import KE.OsGo
import PySem.Challenge.RW_linescriptsdesk_s01_answers
import HandS.ForSpec
import HandS.Comp
import HandS.Iter
import HandS.Text
import HandS.Flow
import HandS.RaiseMore
import HandS.ExcInit
import HandS.ExcField
import HandS.CallRecv
import HandS.Bytes
import HandS.ReplaceList
import HandS.TupAny
import HandS.Codes
import KE.GoesComp
import KE.GoesMore
import HandS.Replace
import PyProof.StrReplace2
import PyProof.StrLawsFirst
import KE.KAssignIn
set_option Elab.async false
set_option linter.all false
set_option maxRecDepth 100000
set_option maxHeartbeats 4000000
/-! Texts of bytes -/
namespace Lsd
open PySem VasedBase
/-- the text whose signs are these bytes -/
def sT (b : Bytes) : Str := ⟨(b.map UInt8.toNat).toArray⟩
theorem sT_cps (b : Bytes) : (sT b).cps.toList = b.map UInt8.toNat := by simp [sT]
theorem sT_len (b : Bytes) : (sT b).length = b.length := by simp [sT, Str.length]
theorem sT_inj {a b : Bytes} (h : sT a = sT b) : a = b := by
  have e : a.map UInt8.toNat = b.map UInt8.toNat := by rw [← sT_cps, ← sT_cps, h]
  exact (List.map_inj_right (fun x y z => UInt8.toNat_inj.mp z)).mp e
theorem sT_eq_iff {a b : Bytes} : sT a = sT b ↔ a = b := ⟨sT_inj, fun h => by rw [h]⟩
theorem sT_app (a b : Bytes) : sT a ++ sT b = sT (a ++ b) := Str.ext' (by
  rw [Str.cps_append]
  simp [sT])
theorem sT_nil : sT [] = Str.empty := rfl
theorem sT_ext {x : Str} {b : Bytes} (h : x.cps.toList = b.map UInt8.toNat) : x = sT b := Str.ext' (by
  rw [← Array.toList_inj, h, sT_cps])
/-- a written text is its word -/
theorem sT_word (s : String) (h : (Str.ofString s).cps.toList = (word s).map UInt8.toNat) : Str.ofString s = sT (word s) := sT_ext h
/-- joined by nothing -/
theorem join_nil : ∀ l : List Bytes, Txt.join (sT []) (l.map sT) = sT l.flatten := by
  intro l
  show Builtin.Str.glued _ _ = _
  rw [StrLaws.glued_eq_join]
  induction l with
  | nil => rfl
  | cons a r ih =>
    cases r with
    | nil =>
      show sT a = _
      simp
    | cons b r =>
      show sT a ++ sT [] ++ Str.join (sT []) ((b :: r).map sT) = _
      rw [ih, sT_app, sT_app, List.append_nil]
      rfl
/-- words with a blank between -/
def glue : List Bytes → Bytes
  | [] => []
  | [a] => a
  | a :: b :: r => a ++ (32 :: glue (b :: r))
theorem join_blank : ∀ l : List Bytes, Txt.join (sT [32]) (l.map sT) = sT (glue l) := by
  intro l
  show Builtin.Str.glued _ _ = _
  rw [StrLaws.glued_eq_join]
  induction l with
  | nil => rfl
  | cons a r ih =>
    cases r with
    | nil => rfl
    | cons b r =>
      show sT a ++ sT [32] ++ Str.join (sT [32]) ((b :: r).map sT) = _
      rw [ih, sT_app, sT_app, glue, List.append_assoc] <;> rfl
end Lsd
/-! Common words: the text by places, defs by name, constants -/
namespace Lsd
open PySem PySem.Spec PyProof.Rows L2 VasedBase
/-- the i-th statement of the program's top -/
def top (i : Nat) : Stmt := PySem.Challenge.pw_linescriptsdesk_s01_answers.main.body.getD i (.Pass ⟨0, 0, 0, 0⟩)
section
variable (P : Program) (w : World) (K : PySem.W.Frag) (mg : Str → Option Value) (base : Heap)
/-- the text's def stands under a global name -/
def GF (x : Str) (st : Stmt) : Prop := ∃ f fd, Fun K x x st f fd ∧ mg x = some (.ref f)
/-- a method of the class at C stands in the text -/
def MF (C : Addr) (m qual : Str) (st : Stmt) : Prop := ∃ f fd, Fun K m qual st f fd ∧ Meth K C m f
/-- a global def that keeps a promise -/
structure GD (CX : CXT) (k : Nat) (x : Str) (ps : List Str) (sp : Sp) : Prop where
  ex : ∃ f fd, FnOk P w K mg base CX k f fd ps sp ∧ mg x = some (.ref f) ∧ PySem.W.keepIn K (.ref f) = true ∧ Binds K fd ps []
/-- a method that keeps a promise -/
structure MD (CX : CXT) (k : Nat) (C : Addr) (m : Str) (ps : List Str) (sp : Sp) : Prop where
  ex : ∃ f fd, FnOk P w K mg base CX k f fd ps sp ∧ Meth K C m f ∧ Binds K fd ps []
/-- a global constant -/
def GC (x : Str) (v : V) : Prop := ∃ u, mg x = some u ∧ RelV v u
/-- a written tuple -/
def KT (a : Addr) (xs : List V) : Prop := ∃ (o : Obj) (its : Array Value) (n : Nat), K.lookup a = some o ∧ o.cls = .type "tuple" ∧ o.data = .seq its n ∧ its.size ≤ sizeLine ∧ Vals xs its.toList
def GT (x : Str) (xs : List V) : Prop := ∃ a, mg x = some (.ref a) ∧ KT K a xs
end
theorem KT.sq {K : PySem.W.Frag} {H : Hp} {a : Addr} {xs : List V} (h : KT K a xs) : SqT K H a xs := .inr h
section
variable {X : Cx}
theorem pe_gc {x : Str} {v : V} {pos : Pos} (h : GC X.mg x v) (hg : Gl X x := by rfl) (hd : (x == ("__debug__" : Str)) = false := by decide) : PE X (.Name x pos) (tC v) := by
  obtain ⟨u, hm, r⟩ := h
  exact L2.pe_glob hg hm r hd
/-- a written tuple by its name -/
def tKT (K : PySem.W.Frag) (xs : List V) : TE := fun _ H Q => ∀ a, KT K a xs → Q (.ref a) H
theorem pe_gt {x : Str} {xs : List V} {pos : Pos} (h : GT X.K X.mg x xs) (hg : Gl X x := by rfl) (hd : (x == ("__debug__" : Str)) = false := by decide) : PE X (.Name x pos) (tKT X.K xs) := by
  obtain ⟨a, hm, r⟩ := h
  exact ⟨fun pins s σ H Q I q => (L2.pe_glob (v := .ref a) hg hm rfl hd).run pins s σ H Q I (q a r)⟩
variable {CX : CXT} {k : Nat} {x m : Str} {ps : List Str} {sp : Sp} {E : XK} {C : Addr} {e o : Expr} {es : List Expr} {t : TA} {ta : TE} {p pos apos : Pos}
/-- f(e, ..) -/
theorem pe_g (D : GD X.prog X.w X.K X.mg X.base CX k x ps sp) (hr : Room k X.A) (hx : Passes CX X E) (ha : PA X (e :: es) t) (hg : Gl X x := by rfl) (hdb : (x == ("__debug__" : Str)) = false := by decide)
    (he : starEach (e :: es) X.env = (false, eval e X.env) :: starEach es X.env := by rfl) (hpl : (backTo pos (starEach es X.env)).any (·.1) = false := by rfl) : PE X (.Call (.Name x p) (e :: es) [] pos) (tCall sp [] E t) := by
  obtain ⟨f, fd, F, hm, hk, hb⟩ := D.ex
  exact L2.pe_call F hr hg hm hk hb .nil hx ha hdb he hpl
/-- o.m(e, ..) -/
theorem pe_m {pl : Sem Bool} (D : MD X.prog X.w X.K X.mg X.base CX k C m ps sp) (c : Cls X.K C) (hr : Room k X.A) (hx : Passes CX X E) (he : PE X o ta) (ha : PA X (e :: es) t)
    (hst : starEach (e :: es) X.env = (false, eval e X.env) :: starEach es X.env := by rfl) (hpl : (backTo pos (starEach es X.env)).any (·.1) = false := by rfl)
    (ht : eval (.Call (.Attribute o m apos) (e :: es) [] pos) X.env = (do
      let ov ← eval o X.env
      standAt apos.atName
      let (f, first) ← holding [ov] (getMethod ov m pl)
      callWith pos f first (backTo pos (starEach (e :: es) X.env)) (backToKw pos (keywordEach [] X.env))) := by rfl) :
    PE X (.Call (.Attribute o m apos) (e :: es) [] pos) (tMeth C m sp [] E ta t) := by
  obtain ⟨f, fd, F, hm, hb⟩ := D.ex
  exact L2.pe_meth he c hm F hr hb .nil hx ha hst hpl ht
/-- o.m() -/
theorem pe_m0 {pl : Sem Bool} (D : MD X.prog X.w X.K X.mg X.base CX k C m ps sp) (c : Cls X.K C) (hr : Room k X.A) (hx : Passes CX X E) (he : PE X o ta)
    (ht : eval (.Call (.Attribute o m apos) [] [] pos) X.env = (do
      let ov ← eval o X.env
      standAt apos.atName
      let (f, first) ← holding [ov] (getMethod ov m pl)
      callWith pos f first (backTo pos (starEach [] X.env)) (backToKw pos (keywordEach [] X.env))) := by rfl) :
    PE X (.Call (.Attribute o m apos) [] [] pos) (tMeth C m sp [] E ta tNil) := by
  obtain ⟨f, fd, F, hm, hb⟩ := D.ex
  exact L2.pe_meth0 he c hm F hr hb .nil hx ht
end
/-- what a raising body lets through -/
theorem passW {X : Cx} {E : XK} (tk : Takes X (fun c d _ H => E c d H)) : Passes (L2.CX X.prog X.w) X E := fun pins σ H s e s' I h => passes_call tk (fun _ _ _ _ q => q) pins σ H s e s' I h
/-- bytes as values -/
def ofB (b : Bytes) : List V := b.map fun c => V.int (c.toNat : Int)
theorem ofB_len (b : Bytes) : (ofB b).length = b.length := by simp [ofB]
theorem ofB_get {b : Bytes} {i : Nat} {c : UInt8} (h : b[i]? = some c) : (ofB b)[i]? = some (V.int (c.toNat : Int)) := by simp [ofB, h]
theorem ofB_at {b : Bytes} {i : Nat} {c : UInt8} (h : b[i]? = some c) : atI (ofB b) (i : Int) = some (V.int (c.toNat : Int)) := atI_nat (ofB_get h)
end Lsd
/-! tokens: is_small, is_digit, the three walks -/
namespace Lsd
open PySem PySem.Spec PyProof.Rows L2 VasedBase
theorem small_dec (b : UInt8) : (decide ((97 : Int) ≤ (b.toNat : Int)) && decide ((b.toNat : Int) ≤ 122)) = isLetter b := by
  unfold isLetter
  rw [Bool.eq_iff_iff]
  simp
  omega
theorem digit_dec (b : UInt8) : (decide ((48 : Int) ≤ (b.toNat : Int)) && decide ((b.toNat : Int) ≤ 57)) = isDigit b := by
  unfold isDigit
  rw [Bool.eq_iff_iff]
  simp
  omega
/-- a test of a byte -/
def spByte (f : UInt8 → Bool) : Sp := fun vs H Q _ => ∃ b : UInt8, vs = [.int (b.toNat : Int)] ∧ Q (.bl (f b)) H
abbrev sIsSmall : Stmt := top 11
abbrev sIsDigit : Stmt := top 12
theorem scIsSmall : FnScope ["octet"] ["octet"] (defScope sIsSmall) := ⟨rfl, rfl, rfl, by decide +kernel, rfl, by decide +kernel, by decide +kernel⟩
theorem scIsDigit : FnScope ["octet"] ["octet"] (defScope sIsDigit) := ⟨rfl, rfl, rfl, by decide +kernel, rfl, by decide +kernel, by decide +kernel⟩
section
variable {P : Program} {w : World} {K : PySem.W.Frag} {mg : Str → Option Value} {base : Heap}
theorem ok_is_small (F : GF K mg "is_small" sIsSmall) : GD P w K mg base CX0 1 "is_small" ["octet"] (spByte isLetter) := by
  obtain ⟨f, fd, F, hm⟩ := F
  refine ⟨f, fd, F.ok scIsSmall (fun vs H Q E h => ?_) (fun cdv A outer s H vs Q E hr h => ⟨_, pss_one (ps_ret (pe_and (pe_cmp (pc_le pe_int (pv 0)) rfl) (pe_one (pe_cmp (pc_le (pv 0) pe_int) rfl)))), ?_⟩), hm, F.kp, F.binds fun _ _ _ _ _ _ us hl => match us, hl with | [_], _ => rfl⟩
  · obtain ⟨b, rfl, _⟩ := h
    rfl
  · obtain ⟨b, rfl, q⟩ := h
    refine ⟨_, rfl, _, _, rfl, rfl, _, rfl, ite2 (fun c => ⟨_, rfl, _, _, rfl, rfl, ?_⟩) fun c => ?_⟩
    · rw [← small_dec, show decide ((97 : Int) ≤ (b.toNat : Int)) = true from c] at q
      exact q
    · rw [← small_dec, show decide ((97 : Int) ≤ (b.toNat : Int)) = false from Bool.eq_false_iff.mpr c] at q
      exact q
theorem ok_is_digit (F : GF K mg "is_digit" sIsDigit) : GD P w K mg base CX0 1 "is_digit" ["octet"] (spByte isDigit) := by
  obtain ⟨f, fd, F, hm⟩ := F
  refine ⟨f, fd, F.ok scIsDigit (fun vs H Q E h => ?_) (fun cdv A outer s H vs Q E hr h => ⟨_, pss_one (ps_ret (pe_and (pe_cmp (pc_le pe_int (pv 0)) rfl) (pe_one (pe_cmp (pc_le (pv 0) pe_int) rfl)))), ?_⟩), hm, F.kp, F.binds fun _ _ _ _ _ _ us hl => match us, hl with | [_], _ => rfl⟩
  · obtain ⟨b, rfl, _⟩ := h
    rfl
  · obtain ⟨b, rfl, q⟩ := h
    refine ⟨_, rfl, _, _, rfl, rfl, _, rfl, ite2 (fun c => ⟨_, rfl, _, _, rfl, rfl, ?_⟩) fun c => ?_⟩
    · rw [← digit_dec, show decide ((48 : Int) ≤ (b.toNat : Int)) = true from c] at q
      exact q
    · rw [← digit_dec, show decide ((48 : Int) ≤ (b.toNat : Int)) = false from Bool.eq_false_iff.mpr c] at q
      exact q
end
/-- where a run of bytes ends that stands from a place on -/
def runEnd (f : UInt8 → Bool) (b : Bytes) (i : Nat) : Nat := i + ((b.drop i).takeWhile f).length
theorem runEnd_stop {f : UInt8 → Bool} {b : Bytes} {i : Nat} (h : b.length ≤ i) : runEnd f b i = i := by
  unfold runEnd
  rw [List.drop_eq_nil_of_le h]
  rfl
theorem runEnd_no {f : UInt8 → Bool} {b : Bytes} {i : Nat} {c : UInt8} (h : b[i]? = some c) (hc : f c = false) : runEnd f b i = i := by
  unfold runEnd
  have hl : i < b.length := (List.getElem?_eq_some_iff.mp h).1
  have e : b.drop i = c :: b.drop (i + 1) := by
    rw [List.drop_eq_getElem_cons hl]
    congr 1
    exact (List.getElem?_eq_some_iff.mp h).2
  rw [e, List.takeWhile_cons_of_neg (by simp [hc])]
  rfl
theorem runEnd_yes {f : UInt8 → Bool} {b : Bytes} {i : Nat} {c : UInt8} (h : b[i]? = some c) (hc : f c = true) : runEnd f b i = runEnd f b (i + 1) := by
  unfold runEnd
  have hl : i < b.length := (List.getElem?_eq_some_iff.mp h).1
  have e : b.drop i = c :: b.drop (i + 1) := by
    rw [List.drop_eq_getElem_cons hl]
    congr 1
    exact (List.getElem?_eq_some_iff.mp h).2
  rw [e, List.takeWhile_cons_of_pos (by simp [hc]), List.length_cons]
  omega
theorem runEnd_ge (f : UInt8 → Bool) (b : Bytes) (i : Nat) : i ≤ runEnd f b i := Nat.le_add_right _ _
theorem runEnd_le {f : UInt8 → Bool} {b : Bytes} {i : Nat} (h : i ≤ b.length) : runEnd f b i ≤ b.length := by
  unfold runEnd
  have := (List.takeWhile_prefix f (l := b.drop i)).length_le
  rw [List.length_drop] at this
  omega
/-- a while by a word over an index and a measure of it -/
def loopW {α : Type} (S : α → L2.St → Hp → Prop) (μ : α → Nat) : Nat → L2.St → Hp → Prop := fun m σ H => ∃ j, S j σ H ∧ m = μ j
def nextW {α : Type} (S : α → L2.St → Hp → Prop) (μ : α → Nat) (j : α) : L2.St → Hp → Prop := fun σ H => ∃ j', S j' σ H ∧ μ j' < μ j
theorem nextW_ok {α : Type} (S : α → L2.St → Hp → Prop) (μ : α → Nat) (j : α) : ∀ σ' H', nextW S μ j σ' H' → ∃ m', m' < μ j ∧ loopW S μ m' σ' H' := fun _ _ ⟨j', h, l⟩ => ⟨μ j', l, j', h, rfl⟩
/-- its promise -/
def spWalk (K : PySem.W.Frag) (f : UInt8 → Bool) : Sp := fun vs H Q _ => ∃ (a : Addr) (b : Bytes) (i : Nat), vs = [.ref a, .int (i : Int)] ∧ SqL K H a (ofB b) ∧ Q (.int (runEnd f b i : Nat)) H
abbrev sEndRemark : Stmt := top 15
abbrev sEndWord : Stmt := top 16
abbrev sEndNumber : Stmt := top 17
theorem scEndRemark : FnScope ["script", "at"] ["script", "at"] (defScope sEndRemark) := ⟨rfl, rfl, rfl, by decide +kernel, rfl, by decide +kernel, by decide +kernel⟩
theorem scEndWord : FnScope ["script", "at"] ["script", "at"] (defScope sEndWord) := ⟨rfl, rfl, rfl, by decide +kernel, rfl, by decide +kernel, by decide +kernel⟩
theorem scEndNumber : FnScope ["script", "at"] ["script", "at"] (defScope sEndNumber) := ⟨rfl, rfl, rfl, by decide +kernel, rfl, by decide +kernel, by decide +kernel⟩
def walkS (f : UInt8 → Bool) (a : Addr) (b : Bytes) (i : Nat) (H : Hp) : Nat → L2.St → Hp → Prop := fun j σ H' => H' = H ∧ σ = [some (.ref a), some (.int ((j : Nat) : Int))] ∧ runEnd f b j = runEnd f b i
section
variable {P : Program} {w : World} {K : PySem.W.Frag} {mg : Str → Option Value} {base : Heap}
theorem ok_end_of_word (F : GF K mg "end_of_word" sEndWord) (ml : mg "len" = none) (D : GD P w K mg base CX0 1 "is_small" ["octet"] (spByte isLetter)) : GD P w K mg base CX0 2 "end_of_word" ["script", "at"] (spWalk K isLetter) := by
  obtain ⟨f, fd, F, hm⟩ := F
  refine ⟨f, fd, F.ok scEndWord (fun vs H Q E h => ?_) (fun cdv A outer s H vs Q E hr h => ⟨_, pss_cons (ps_while PassesOwn.never
      (PW.pt (pw_and (pt_cmpR op_lt (pv 1) (pe_callB call_len_seq (by rfl) ml boot_len (pa_cons (pv 0) pa_nil)) (nomark _))
        (pw_and1 (pt_val (pe_g D hr pass0 (pa_cons (pe_ix ix_list (pv 0) (pv 1) (fun _ _ => rfl)) pa_nil))))))
      (pss_one (ps_aug (i := 1) scEndWord.nd rfl (Or.inl rfl) pe_int ip_add)))
      (pss_one (ps_ret (pv 1))), ?_⟩), hm, F.kp, F.binds fun _ _ _ _ _ _ us hl => match us, hl with | [_, _], _ => rfl⟩
  · obtain ⟨a, b, i, rfl, _⟩ := h
    rfl
  · obtain ⟨a, b, i, rfl, hS, q⟩ := h
    refine ⟨loopW (walkS isLetter a b i H) (fun j => b.length - j), ⟨_, i, ⟨rfl, rfl, rfl⟩, rfl⟩, ?_⟩
    rintro m σ H' ⟨j, ⟨rfl, rfl, ej⟩, rfl⟩
    refine ⟨_, rfl, _, rfl, a, _, rfl, Or.inl hS, _, _, rfl, rfl, _, rfl, ?_⟩
    rw [ofB_len]
    refine ite2 (fun c => ?_) fun c => iteF ?_
    · have hj : j < b.length := by simpa using c
      have hg : b[j]? = some b[j] := List.getElem?_eq_getElem hj
      refine ⟨_, rfl, _, rfl, _, _, _, _, rfl, rfl, hS, ofB_at hg, ?_⟩
      refine ⟨b[j], rfl, _, rfl, ?_⟩
      cases e : isLetter b[j] with
      | true =>
        refine iteT ⟨nextW (walkS isLetter a b i H') (fun j => b.length - j) j, nextW_ok _ _ j, _, rfl, _, _, rfl, rfl, ?_⟩
        exact ⟨j + 1, ⟨rfl, rfl, (runEnd_yes hg e).symm.trans ej⟩, show b.length - (j + 1) < b.length - j by omega⟩
      | false =>
        refine iteF ⟨_, rfl, ?_⟩
        rw [← ej, runEnd_no hg e] at q
        exact q
    · have hj : ¬ j < b.length := by simpa using c
      refine ⟨_, rfl, ?_⟩
      rw [← ej, runEnd_stop (Nat.le_of_not_lt hj)] at q
      exact q
theorem ok_end_of_number (F : GF K mg "end_of_number" sEndNumber) (ml : mg "len" = none) (D : GD P w K mg base CX0 1 "is_digit" ["octet"] (spByte isDigit)) : GD P w K mg base CX0 2 "end_of_number" ["script", "at"] (spWalk K isDigit) := by
  obtain ⟨f, fd, F, hm⟩ := F
  refine ⟨f, fd, F.ok scEndNumber (fun vs H Q E h => ?_) (fun cdv A outer s H vs Q E hr h => ⟨_, pss_cons (ps_while PassesOwn.never
      (PW.pt (pw_and (pt_cmpR op_lt (pv 1) (pe_callB call_len_seq (by rfl) ml boot_len (pa_cons (pv 0) pa_nil)) (nomark _))
        (pw_and1 (pt_val (pe_g D hr pass0 (pa_cons (pe_ix ix_list (pv 0) (pv 1) (fun _ _ => rfl)) pa_nil))))))
      (pss_one (ps_aug (i := 1) scEndNumber.nd rfl (Or.inl rfl) pe_int ip_add)))
      (pss_one (ps_ret (pv 1))), ?_⟩), hm, F.kp, F.binds fun _ _ _ _ _ _ us hl => match us, hl with | [_, _], _ => rfl⟩
  · obtain ⟨a, b, i, rfl, _⟩ := h
    rfl
  · obtain ⟨a, b, i, rfl, hS, q⟩ := h
    refine ⟨loopW (walkS isDigit a b i H) (fun j => b.length - j), ⟨_, i, ⟨rfl, rfl, rfl⟩, rfl⟩, ?_⟩
    rintro m σ H' ⟨j, ⟨rfl, rfl, ej⟩, rfl⟩
    refine ⟨_, rfl, _, rfl, a, _, rfl, Or.inl hS, _, _, rfl, rfl, _, rfl, ?_⟩
    rw [ofB_len]
    refine ite2 (fun c => ?_) fun c => iteF ?_
    · have hj : j < b.length := by simpa using c
      have hg : b[j]? = some b[j] := List.getElem?_eq_getElem hj
      refine ⟨_, rfl, _, rfl, _, _, _, _, rfl, rfl, hS, ofB_at hg, ?_⟩
      refine ⟨b[j], rfl, _, rfl, ?_⟩
      cases e : isDigit b[j] with
      | true =>
        refine iteT ⟨nextW (walkS isDigit a b i H') (fun j => b.length - j) j, nextW_ok _ _ j, _, rfl, _, _, rfl, rfl, ?_⟩
        exact ⟨j + 1, ⟨rfl, rfl, (runEnd_yes hg e).symm.trans ej⟩, show b.length - (j + 1) < b.length - j by omega⟩
      | false =>
        refine iteF ⟨_, rfl, ?_⟩
        rw [← ej, runEnd_no hg e] at q
        exact q
    · have hj : ¬ j < b.length := by simpa using c
      refine ⟨_, rfl, ?_⟩
      rw [← ej, runEnd_stop (Nat.le_of_not_lt hj)] at q
      exact q
theorem lf_dec (c : UInt8) : (!decide (V.int (c.toNat : Int) = V.int 10)) = (c != 10) := by
  rw [Bool.eq_iff_iff]
  simp only [V.int.injEq, Bool.not_eq_true', decide_eq_false_iff_not, bne_iff_ne, ne_eq]
  refine not_congr ⟨fun h => UInt8.toNat_inj.mp (by show c.toNat = 10; omega), fun h => by subst h; rfl⟩
theorem ok_end_of_remark (F : GF K mg "end_of_remark" sEndRemark) (ml : mg "len" = none) (cE : GC mg "LINE_END" (.int 10)) : GD P w K mg base CX0 1 "end_of_remark" ["script", "at"] (spWalk K (· != 10)) := by
  obtain ⟨f, fd, F, hm⟩ := F
  refine ⟨f, fd, F.ok scEndRemark (fun vs H Q E h => ?_) (fun cdv A outer s H vs Q E hr h => ⟨_, pss_cons (ps_while PassesOwn.never
      (PW.pt (pw_and (pt_cmpR op_lt (pv 1) (pe_callB call_len_seq (by rfl) ml boot_len (pa_cons (pv 0) pa_nil)) (nomark _))
        (pw_and1 (pt_cmpR op_ne (pe_ix ix_list (pv 0) (pv 1) (fun _ _ => rfl)) (pe_gc cE) (nomark _)))))
      (pss_one (ps_aug (i := 1) scEndRemark.nd rfl (Or.inl rfl) pe_int ip_add)))
      (pss_one (ps_ret (pv 1))), ?_⟩), hm, F.kp, F.binds fun _ _ _ _ _ _ us hl => match us, hl with | [_, _], _ => rfl⟩
  · obtain ⟨a, b, i, rfl, _⟩ := h
    rfl
  · obtain ⟨a, b, i, rfl, hS, q⟩ := h
    refine ⟨loopW (walkS (· != 10) a b i H) (fun j => b.length - j), ⟨_, i, ⟨rfl, rfl, rfl⟩, rfl⟩, ?_⟩
    rintro m σ H' ⟨j, ⟨rfl, rfl, ej⟩, rfl⟩
    refine ⟨_, rfl, _, rfl, a, _, rfl, Or.inl hS, _, _, rfl, rfl, _, rfl, ?_⟩
    rw [ofB_len]
    refine ite2 (fun c => ?_) fun c => iteF ?_
    · have hj : j < b.length := by simpa using c
      have hg : b[j]? = some b[j] := List.getElem?_eq_getElem hj
      refine ⟨_, rfl, _, rfl, _, _, _, _, rfl, rfl, hS, ofB_at hg, rfl, _, rfl, ?_⟩
      rw [lf_dec]
      cases e : (b[j] != 10) with
      | true =>
        refine iteT ⟨nextW (walkS (· != 10) a b i H') (fun j => b.length - j) j, nextW_ok _ _ j, _, rfl, _, _, rfl, rfl, ?_⟩
        exact ⟨j + 1, ⟨rfl, rfl, (runEnd_yes (f := (· != 10)) hg e).symm.trans ej⟩, show b.length - (j + 1) < b.length - j by omega⟩
      | false =>
        refine iteF ⟨_, rfl, ?_⟩
        rw [← ej, runEnd_no (f := (· != 10)) hg e] at q
        exact q
    · have hj : ¬ j < b.length := by simpa using c
      refine ⟨_, rfl, ?_⟩
      rw [← ej, runEnd_stop (Nat.le_of_not_lt hj)] at q
      exact q
end
end Lsd
/-! A counted layer: beside slots and heap a number n goes along that the token counter has reached; what is made may be told by its own token. (str.replace asks whether its two texts are one object: there tokens matter.) -/
namespace Lsd
open PySem PySem.Spec PyProof.Rows L2
/-- what is wanted behind a statement, by the number reached -/
structure EndsN where
  nx : Nat → L2.St → Hp → Prop
  rt : Nat → Value → V → Hp → Prop
  bk : Nat → L2.St → Hp → Prop := fun _ _ _ => False
  ct : Nat → L2.St → Hp → Prop := fun _ _ _ => False
def EndsN.fix (D : EndsN) (n : Nat) : Ends := { nx := D.nx n, rt := fun v H => ∀ u, RelV v u → D.rt n u v H, bk := D.bk n, ct := D.ct n }
abbrev TSN := EndsN → Nat → L2.St → Hp → Prop
abbrev VKN := Nat → Value → V → Hp → Prop
abbrev TEN := Nat → L2.St → Hp → VKN → Prop
abbrev TAN := Nat → L2.St → Hp → (Nat → List Value → List V → Hp → Prop) → Prop
def SPN (X : Cx) (pins : List (Addr × Obj)) (D : EndsN) (f : Flow) (s' : Shared) : Prop :=
  match f with
  | .next => ∃ n σ' H', n ≤ s'.toks ∧ Inv X pins σ' H' s' ∧ D.nx n σ' H'
  | .brk => ∃ n σ' H', n ≤ s'.toks ∧ Inv X pins σ' H' s' ∧ D.bk n σ' H'
  | .cont => ∃ n σ' H', n ≤ s'.toks ∧ Inv X pins σ' H' s' ∧ D.ct n σ' H'
  | .ret u => ∃ n v σ' H', n ≤ s'.toks ∧ Inv X pins σ' H' s' ∧ RelV v u ∧ D.rt n u v H'
def EPN (X : Cx) (pins : List (Addr × Obj)) (σ : L2.St) (Q : VKN) (u : Value) (s' : Shared) : Prop := ∃ n v H', n ≤ s'.toks ∧ Inv X pins σ H' s' ∧ RelV v u ∧ Q n u v H'
structure PEN (X : Cx) (e : Expr) (t : TEN) : Prop where
  run : ∀ (pins : List (Addr × Obj)) (s : Shared) (σ : L2.St) (H : Hp) (n : Nat) (Q : VKN), n ≤ s.toks → Inv X pins σ H s → t n σ H Q → wpAny (model X.prog X.w) X.A (eval e X.env) (EPN X pins σ Q) X.xe s
structure PAN (X : Cx) (es : List Expr) (t : TAN) : Prop where
  run : ∀ (pos : Pos) (pins : List (Addr × Obj)) (s : Shared) (σ : L2.St) (H : Hp) (n : Nat) (Q : Nat → List Value → List V → Hp → Prop), n ≤ s.toks → Inv X pins σ H s → t n σ H Q →
    wpAny (model X.prog X.w) X.A (spliced (backTo pos (starEach es X.env))) (fun us s' => ∃ m vs H', m ≤ s'.toks ∧ Inv X pins σ H' s' ∧ Vals vs us ∧ Q m us vs H') X.xe s
structure PSN (X : Cx) (st : Stmt) (t : TSN) : Prop where
  run : ∀ (pins : List (Addr × Obj)) (s : Shared) (σ : L2.St) (H : Hp) (n : Nat) (D : EndsN), n ≤ s.toks → Inv X pins σ H s → t D n σ H → wpAny (model X.prog X.w) X.A (exec st X.env) (SPN X pins D) X.xe s
structure PSsN (X : Cx) (st : List Stmt) (t : TSN) : Prop where
  run : ∀ (pins : List (Addr × Obj)) (s : Shared) (σ : L2.St) (H : Hp) (n : Nat) (D : EndsN), n ≤ s.toks → Inv X pins σ H s → t D n σ H → wpAny (model X.prog X.w) X.A (execs st X.env) (SPN X pins D) X.xe s
section
variable {X : Cx} {e : Expr} {es : List Expr} {st : Stmt} {rest : List Stmt} {pos : Pos}
theorem cnt {α : Type} {t : Sem α} {Q Q' : α → Shared → Prop} {M : Model} {A : Around} {E : Value → Shared → Prop} {s : Shared} {n : Nat} (hn : n ≤ s.toks) (h : wpAny M A t Q E s) (hQ : ∀ a s', n ≤ s'.toks → Q a s' → Q' a s') : wpAny M A t Q' E s :=
  wpAny_mono (PySem.wpAny_toks_of hn h) (fun a s' q => hQ a s' q.1 q.2) fun _ _ x => x.2
/-! ### what is not counted -/
def nE (t : TE) : TEN := fun n σ H Q => t σ H fun v H' => ∀ u, RelV v u → Q n u v H'
def nA (t : TA) : TAN := fun n σ H Q => t σ H fun vs H' => ∀ us, Vals vs us → Q n us vs H'
def nS (t : TS) : TSN := fun D n σ H => t (D.fix n) σ H
theorem pen_of {t : TE} (h : PE X e t) : PEN X e (nE t) := ⟨fun pins s σ H n Q hn I q => cnt hn (h.run pins s σ H _ I q) fun u s' l ⟨v, H', I', r, q⟩ => ⟨n, v, H', l, I', r, q u r⟩⟩
theorem pan_of {t : TA} (h : PA X es t) : PAN X es (nA t) := ⟨fun pos pins s σ H n Q hn I q => cnt hn (h.run pos pins s σ H _ I q) fun us s' l ⟨vs, H', I', r, q⟩ => ⟨n, vs, H', l, I', r, q us r⟩⟩
theorem spn_of {pins : List (Addr × Obj)} {D : EndsN} {n : Nat} {f : Flow} {s' : Shared} (l : n ≤ s'.toks) (h : SP X pins (D.fix n) f s') : SPN X pins D f s' := by
  cases f with
  | next => obtain ⟨σ', H', I, q⟩ := h; exact ⟨n, σ', H', l, I, q⟩
  | brk => obtain ⟨σ', H', I, q⟩ := h; exact ⟨n, σ', H', l, I, q⟩
  | cont => obtain ⟨σ', H', I, q⟩ := h; exact ⟨n, σ', H', l, I, q⟩
  | ret u => obtain ⟨v, σ', H', I, r, q⟩ := h; exact ⟨n, v, σ', H', l, I, r, q u r⟩
theorem psn_of {t : TS} (h : PS X st t) : PSN X st (nS t) := ⟨fun pins s σ H n D hn I q => cnt hn (h.run pins s σ H (D.fix n) I q) fun f s' l z => spn_of l z⟩
theorem pssn_of {t : TS} (h : PSs X rest t) : PSsN X rest (nS t) := ⟨fun pins s σ H n D hn I q => cnt hn (h.run pins s σ H (D.fix n) I q) fun f s' l z => spn_of l z⟩
/-! ### blocks -/
def nNext : TSN := fun D n σ H => D.nx n σ H
def nSeq (t u : TSN) : TSN := fun D n σ H => t { D with nx := u D } n σ H
theorem pssn_nil : PSsN X [] nNext := ⟨fun _ _ σ H n _ hn I h => wpAny_execs_nil ⟨n, σ, H, hn, I, h⟩⟩
theorem pssn_cons {t u : TSN} (h1 : PSN X st t) (h2 : PSsN X rest u) : PSsN X (st :: rest) (nSeq t u) := by
  refine ⟨fun pins s σ H n D hn I h => wpAny_execs_cons (thn (h1.run pins s σ H n { D with nx := u D } hn I h) fun f s1 q => ?_)⟩
  cases f with
  | next =>
    obtain ⟨m, σ', H', hm, I', q⟩ := q
    exact h2.run pins s1 σ' H' m D hm I' q
  | ret v => exact q
  | brk => exact q
  | cont => exact q
theorem pssn_one {t : TSN} (h1 : PSN X st t) : PSsN X [st] t := by
  refine ⟨fun pins s σ H n D hn I h => wpAny_execs_cons (thn (h1.run pins s σ H n D hn I h) fun f s1 q => ?_)⟩
  cases f with
  | next => exact wpAny_execs_nil q
  | ret v => exact q
  | brk => exact q
  | cont => exact q
def nIf (c : TT) (t u : TSN) : TSN := fun D n σ H => c σ H fun b H1 => if b = true then t D n σ H1 else u D n σ H1
theorem psn_if {c : Expr} {a b : List Stmt} {tc : TT} {t u : TSN} (hc : PT X c tc) (ha : PSsN X a t) (hb : PSsN X b u) : PSN X (.If c a b pos) (nIf tc t u) := by
  refine ⟨fun pins s σ H n D hn I h => wpAny_If (cnt hn (hc.run pins s σ H _ I h) fun d s1 l ⟨H1, I1, q1⟩ => ?_)⟩
  cases d with
  | true => exact ha.run pins s1 σ H1 n D l I1 q1
  | false => exact hb.run pins s1 σ H1 n D l I1 q1
def nWhile (c : TT) (tb : TSN) : TSN := fun D n σ H => ∃ W : Nat → Nat → L2.St → Hp → Prop, (∃ m, W m n σ H) ∧ ∀ m n σ H, W m n σ H →
  c σ H fun b H1 => if b = true then ∃ N : Nat → L2.St → Hp → Prop, (∀ n' σ' H', N n' σ' H' → ∃ m', m' < m ∧ W m' n' σ' H') ∧ tb { D with nx := N, ct := N, bk := D.nx } n σ H1 else D.nx n σ H1
theorem psn_while {c : Expr} {body : List Stmt} {tc : TT} {tb : TSN} (hp : PassesOwn (model X.prog X.w) X.A X.env X.xe) (hc : PT X c tc) (hb : PSsN X body tb) : PSN X (.While c body [] pos) (nWhile tc tb) := by
  refine ⟨fun pins s σ H n D hn I h => ?_⟩
  obtain ⟨W, ⟨m0, w0⟩, turn⟩ := h
  refine wpAny_While (codeAny_whileLoop (fun m s' => ∃ n' σ' H', n' ≤ s'.toks ∧ Inv X pins σ' H' s' ∧ W m n' σ' H') ?_ m0 ⟨n, σ, H, hn, I, w0⟩)
  rintro m s1 ⟨n1, σ1, H1, l1, I1, w1⟩
  refine wpAny_passesOwn hp (cnt l1 (hc.run pins s1 σ1 H1 _ I1 (turn m n1 σ1 H1 w1)) fun b s2 l2 ⟨H2, I2, q2⟩ => ?_)
  cases b with
  | true =>
    obtain ⟨N, hN, q2⟩ := q2
    rw [if_pos rfl]
    refine wpAny_passesOwn hp (thn (hb.run pins s2 σ1 H2 n1 _ l2 I2 q2) fun f s3 q3 => ?_)
    cases f with
    | next =>
      obtain ⟨n3, σ3, H3, l3, I3, z3⟩ := q3
      obtain ⟨m', hm, w3⟩ := hN n3 σ3 H3 z3
      exact ⟨m', hm, n3, σ3, H3, l3, I3, w3⟩
    | cont =>
      obtain ⟨n3, σ3, H3, l3, I3, z3⟩ := q3
      obtain ⟨m', hm, w3⟩ := hN n3 σ3 H3 z3
      exact ⟨m', hm, n3, σ3, H3, l3, I3, w3⟩
    | brk => exact q3
    | ret v => exact q3
  | false =>
    rw [if_neg Bool.false_ne_true]
    exact wpAny_execs_nil ⟨n1, σ1, H2, l2, I2, q2⟩
/-! ### small statements over a counted expression -/
def nRet (te : TEN) : TSN := fun D n σ H => te n σ H D.rt
theorem psn_ret {te : TEN} (he : PEN X e te) : PSN X (.Return (some e) pos) (nRet te) :=
  ⟨fun pins s σ H n D hn I h => wpAny_Return_some (thn (he.run pins s σ H n _ hn I h) fun u s1 ⟨m, x, H1, l, I1, r1, q1⟩ => ⟨m, x, σ, H1, l, I1, r1, q1⟩)⟩
def nDrop (te : TEN) : TSN := fun D n σ H => te n σ H fun m _ _ H1 => D.nx m σ H1
theorem psn_expr {te : TEN} (he : PEN X e te) (hs : swapsWith e none pos.line X.env = pure false := by rfl) : PSN X (.Expr e pos) (nDrop te) :=
  ⟨fun pins s σ H n D hn I h => wpAny_Expr_any (thn (he.run pins s σ H n _ hn I h) fun u s1 ⟨m, x, H1, l, I1, r1, q1⟩ => ⟨m, σ, H1, l, I1, q1⟩) I.quiet hs⟩
def nAsg (te : TEN) (g : TG) : TSN := fun D n σ H => te n σ H fun m _ x H1 => g x σ H1 (D.nx m)
theorem psn_set {i : Nat} {x : Str} {te : TEN} {pos' : Pos} (hN : X.N.Nodup) (hi : X.N[i]? = some x) (hx : Loc X.env.scope x) (he : PEN X e te) (hs : swapsWith e (some (.Name x pos')) pos.line X.env = pure false := by rfl)
    (hf : X.fn x = true ∨ X.env.scope.names.lookup x = some .local := by first | exact .inl rfl | exact .inr rfl | assumption) : PSN X (.Assign [.Name x pos'] e pos) (nAsg te (gName i)) := by
  refine ⟨fun pins s σ H n D hn I h => wpAny_Assign_Name (thn (he.run pins s σ H n _ hn I h) fun u s1 ⟨m, y, H1, l, I1, r1, q1⟩ => ?_) hs⟩
  exact cnt l (store_ok (Q := fun _ s' => Inv X pins (σ.set i (some y)) H1 s') I1 hN hi hx r1 (fun s2 I2 => I2) hf) fun _ s2 l2 I2 => ⟨m, _, H1, l2, I2, q1⟩
theorem psn_asg {tg : Expr} {te : TEN} {g : TG} (he : PEN X e te) (hg : PG X tg g) (hs : swapsWithSole [tg] e pos.line X.env = pure false := by rfl) (hw : swappedStores [tg] e X.env = pure none := by rfl)
    (h1 : (assignEach [tg] X.env).map (·.2) = [assign tg X.env] := by rfl) : PSN X (.Assign [tg] e pos) (nAsg te g) := by
  refine ⟨fun pins s σ H n D hn I h => wpAny_Assign_stores (thn (he.run pins s σ H n _ hn I h) fun u s1 ⟨m, x, H1, l, I1, r1, q1⟩ => ?_) hs hw⟩
  rw [h1]
  exact cnt l (hg.run pins s1 σ H1 x u _ I1 r1 q1) fun _ s2 l2 ⟨σ2, H2, I2, q2⟩ => ⟨m, σ2, H2, l2, I2, q2⟩
/-- e.f = value -/
def nFld (K : PySem.W.Frag) (ta : TE) (tv : TEN) (f : Str) : TSN := fun D n σ H => tv n σ H fun m _ y H1 => ta σ H1 fun x H2 => ∃ a C dx fs, x = .ref a ∧ H2 a = some (.ins C dx fs) ∧ Cls K C ∧ NoAttr K C f ∧ fs.length < 1000 ∧
  D.nx m σ (upd H2 a (.ins C dx (putF f y fs)))
theorem psn_fld {o : Expr} {f : Str} {pos' : Pos} {ta : TE} {tv : TEN} (ha : PE X o ta) (hv : PEN X e tv) (hs : swapsWith e (some (.Attribute o f pos')) pos.line X.env = pure false := by rfl) : PSN X (.Assign [.Attribute o f pos'] e pos) (nFld X.K ta tv f) := by
  refine ⟨fun pins s σ H n D hn I h => plainObj_wpAny_Assign_Attribute (thn (hv.run pins s σ H n _ hn I h) fun u s1 ⟨m, y, H1, l, I1, ry, q⟩ => cnt l (ha.run pins s1 σ H1 _ I1 q) fun ov s2 l2 ⟨x, H2, I2, rx, a, C, dx, fs, ex, ea, c, nn, lf, q2⟩ => ?_) hs⟩
  subst ex
  obtain rfl : ov = Value.ref a := rx
  exact cnt l2 (setattr_ok (Q := fun _ s3 => Inv X pins σ (upd H2 a (.ins C dx (putF f y fs))) s3) I2 ea c nn lf ry fun s3 I3 => I3) fun _ s3 l3 I3 => ⟨m, σ, _, l3, I3, q2⟩
/-! ### counted expressions -/
/-- a written text is a new token -/
def nStr (x : Str) : TEN := fun n _ H Q => ∀ t, n ≤ t → Q (t + 1) (.str x t) (.str x) H
theorem pen_str {x : Str} {j : Nat} : PEN X (.Constant (.str x) j pos) (nStr x) := ⟨fun _ s _ H n Q hn I h => Calls.Constant_str ⟨s.toks + 1, .str x, H, Nat.le_refl _, I.tok _, ⟨_, rfl⟩, h _ hn⟩⟩
/-- a written int moves the counter -/
def nInt (i : Int) : TEN := fun n _ H Q => ∀ u, Q (n + 1) u (.int i) H
theorem pen_int {i : Int} {j : Nat} : PEN X (.Constant (.int i) j pos) (nInt i) := ⟨fun _ s _ H n Q hn I h => wpAny_Constant_int ⟨n + 1, .int i, H, Nat.succ_le_succ hn, I.tok _, ⟨_, rfl⟩, h _⟩⟩
def nNil : TAN := fun n _ H Q => Q n [] [] H
def nCons (te : TEN) (tr : TAN) : TAN := fun n σ H Q => te n σ H fun m u x H1 => tr m σ H1 fun m2 us xs H2 => Q m2 (u :: us) (x :: xs) H2
theorem pan_nil : PAN X [] nNil := ⟨fun _ _ _ _ H n Q hn I h => Calls.spliced_nil ⟨n, [], H, hn, I, .nil, h⟩⟩
theorem pan_cons {te : TEN} {tr : TAN} (ha : PEN X e te) (hr : PAN X es tr) (hs : starEach (e :: es) X.env = (false, eval e X.env) :: starEach es X.env := by rfl) : PAN X (e :: es) (nCons te tr) := by
  refine ⟨fun pos pins s σ H n Q hn I h => ?_⟩
  rw [hs]
  show wpAny _ _ (spliced ((false, eval e X.env) :: backTo pos (starEach es X.env))) _ _ s
  refine Calls.spliced_cons (thn (ha.run pins s σ H n _ hn I h) fun u s1 ⟨m, x, H1, l, I1, r1, q1⟩ => ?_)
  exact thn (hr.run pos pins s1 σ H1 m _ l I1 q1) fun us s2 ⟨m2, xs, H2, l2, I2, r2, q2⟩ => ⟨m2, x :: xs, H2, l2, I2, .cons r1 r2, q2⟩
end
end Lsd
/-! The counted layer: frozen tuples, calls, defs -/
namespace Lsd
open PySem PySem.Spec PyProof.Rows L2
/-- a tuple at p whose object is known: its items' own values are us -/
def FrzT (H : Hp) (p : Addr) (xs : List V) (us : List Value) : Prop := ∃ (o : Obj) (k : Nat), H p = some (.frz o (.tup xs)) ∧ o.cls = .type "tuple" ∧ o.data = .seq us.toArray k
theorem FrzT.sq {K : PySem.W.Frag} {H : Hp} {p : Addr} {xs : List V} {us : List Value} (h : FrzT H p xs us) : SqT K H p xs := by
  obtain ⟨o, k, h, _⟩ := h
  exact .inl (.inr ⟨o, h⟩)
theorem FrzT.vals {X : Cx} {pins : List (Addr × Obj)} {σ : L2.St} {H : Hp} {s : Shared} (I : Inv X pins σ H s) {p : Addr} {xs : List V} {us : List Value} (h : FrzT H p xs us) : Vals xs us ∧ IsTup s.heap p us.toArray := by
  obtain ⟨o, k, h, hc, hd⟩ := h
  have z := I.hok p _ h
  obtain ⟨h1, h2, its, r, ⟨o', h3, _, n', h4⟩⟩ := z
  rw [h1] at h3
  cases h3
  rw [hd] at h4
  injection h4 with h5 _
  have e : us = its := by simpa using congrArg Array.toList h5
  subst e
  exact ⟨r, ⟨o, h1, hc, k, hd⟩⟩
section
variable {X : Cx} {e o : Expr} {es : List Expr} {pos : Pos}
/-- (a, b, ..), its object known -/
def nTup (t : TAN) : TEN := fun n σ H Q => t n σ H fun m us xs H1 => xs.length ≤ sizeLine ∧ ∀ p H', H1 p = none → FrzT H' p xs us → (∀ b u, H1 b = some u → H' b = some u) → Q m (.ref p) (.ref p) H'
theorem pen_tup {t : TAN} {x1} (h : PAN X es t) : PEN X (.Tuple es x1 pos) (nTup t) := by
  refine ⟨fun pins s σ H n Q hn I hq => ?_⟩
  refine wpAny_Tuple_spliced (thn (h.run pos pins s σ H n _ hn I hq) fun us s1 ⟨m, xs, H1, l, I1, r, z, q⟩ => ⟨by rw [← r.length]; exact z, ?_⟩)
  have hf : H1 s1.heap.objs.size = none := I1.hok.fresh (Nat.le_refl _)
  have hg : (s1.heap.push { cls := .type "tuple", data := .seq us.toArray }).get? s1.heap.objs.size = some { cls := .type "tuple", data := .seq us.toArray } := Heap.get?_push_size _ rfl
  refine ⟨m, .ref s1.heap.objs.size, upd H1 s1.heap.objs.size (.frz { cls := .type "tuple", data := .seq us.toArray } (.tup xs)), l, I1.laid (t' := s1.toks) (fun b u e => Heap.get?_push_of_some _ e) (Nat.le_refl _) ?_, rfl, q _ _ hf ⟨_, _, upd_same, rfl, rfl⟩ fun b u hb => ?_⟩
  · exact ⟨hg, z, us, r, ⟨_, hg, rfl, _, rfl⟩⟩
  · rw [upd_ne (ne_of_none hb hf)]
    exact hb
/-- e[j], e a tuple whose object is known -/
def nItem (to : TE) (j : Nat) : TEN := fun n σ H Q => to σ H fun x H1 => ∃ p xs us u v, x = .ref p ∧ FrzT H1 p xs us ∧ us[j]? = some u ∧ xs[j]? = some v ∧ Q n u v H1
theorem pen_item {to : TE} {j k : Nat} {cp : Pos} {i : Int} (ho : PE X o to) (hi : i = (j : Int) := by rfl) (hj : j < 1000 := by decide) (hs : PlainIx (.Constant (.int i) k cp) := by intro _ _; rfl) : PEN X (.Subscript o (.Constant (.int i) k cp) pos) (nItem to j) := by
  refine ⟨fun pins s σ H n Q hn I h => ?_⟩
  refine Subscript_ (cnt hn (ho.run pins s σ H _ I h) fun ov s1 l ⟨x, H1, I1, r1, q1⟩ => ?_)
  obtain ⟨p, xs, us, u, v, ex, hf, hu, hv, q⟩ := q1
  subst ex
  obtain rfl : ov = Value.ref p := r1
  refine wpAny_Constant_int ?_
  have I2 := I1.tok (s1.toks + 1)
  obtain ⟨r, ht⟩ := hf.vals I2
  obtain ⟨w, hw, rw'⟩ := r.get hv
  rw [hu] at hw
  cases hw
  subst hi
  have hl := (List.getElem?_eq_some_iff.mp hu).1
  have sx : seqIndex? (j : Int) us.toArray.size = some j := by
    rw [List.size_toArray]
    exact seqIndex_of (Int.natCast_nonneg j) (by omega)
  exact subscriptTail_builtinR (x := u) ht.typeIs slot_tuple_getitem.lookup
    (getItem_tuple (j := j) (Q := fun r s' => r = u ∧ EPN X pins σ Q r s') ht (by omega) (by omega) sx (by simpa using hu) ⟨rfl, n, v, H1, Nat.le_succ_of_le l, I2, rw', q⟩) (hs _ _)
end
/-! ### defs -/
abbrev SpN := Nat → List V → Hp → VKN → XK → Prop
/-- a def keeps a counted promise -/
structure FnN (P : Program) (w : World) (K : PySem.W.Frag) (mg : Str → Option Value) (base : Heap) (CX : CXT) (k : Nat) (f : Addr) (fd : FuncData) (ps : List Str) (sp : SpN) : Prop where
  len : ∀ n vs H Q E, sp n vs H Q E → vs.length = ps.length
  run : ∀ (A : Around) (outer : List Env) (s : Shared) (H : Hp) (args : Args) (us : List Value) (vs : List V) (n : Nat) (Q : VKN) (E : XK), n ≤ s.toks → Room k A → Env0 P w K mg base A outer s H → BindsTo s fd args (ps.zip us) → Vals vs us → sp n vs H Q E →
    codeAny (model P w) A (.call (.ref f) args) (fun r s' => match r with
      | .ok (.ret u) => ∃ m, m ≤ s'.toks ∧ CE outer P w H s (fun v H' => Q m u v H') u s'
      | .ok _ => False
      | .error e => CX outer H s E e s') s
structure GN (P : Program) (w : World) (K : PySem.W.Frag) (mg : Str → Option Value) (base : Heap) (CX : CXT) (k : Nat) (x : Str) (ps : List Str) (sp : SpN) : Prop where
  ex : ∃ f fd, FnN P w K mg base CX k f fd ps sp ∧ mg x = some (.ref f) ∧ PySem.W.keepIn K (.ref f) = true ∧ Binds K fd ps []
structure MN (P : Program) (w : World) (K : PySem.W.Frag) (mg : Str → Option Value) (base : Heap) (CX : CXT) (k : Nat) (C : Addr) (m : Str) (ps : List Str) (sp : SpN) : Prop where
  ex : ∃ f fd, FnN P w K mg base CX k f fd ps sp ∧ Meth K C m f ∧ Binds K fd ps []
/-- the count forgotten -/
def plain (sp : SpN) : Sp := fun vs H Q E => sp 0 vs H (fun _ _ v H' => Q v H') E
theorem FnN.ok {P : Program} {w : World} {K : PySem.W.Frag} {mg : Str → Option Value} {base : Heap} {CX : CXT} {k : Nat} {f : Addr} {fd : FuncData} {ps : List Str} {sp : SpN} (F : FnN P w K mg base CX k f fd ps sp) : FnOk P w K mg base CX k f fd ps (plain sp) := by
  refine ⟨fun vs H Q E h => F.len _ _ _ _ _ h, fun A outer s H args us vs Q E hr e0 hb r h => codeAny_mono (F.run A outer s H args us vs 0 _ E (Nat.zero_le _) hr e0 hb r h) fun rs s' z => ?_⟩
  cases rs with
  | error e => exact z
  | ok fl =>
    cases fl with
    | ret u => obtain ⟨m, _, z⟩ := z; exact z
    | next => exact z
    | brk => exact z
    | cont => exact z
theorem GN.gd {P : Program} {w : World} {K : PySem.W.Frag} {mg : Str → Option Value} {base : Heap} {CX : CXT} {k : Nat} {x : Str} {ps : List Str} {sp : SpN} (G : GN P w K mg base CX k x ps sp) : GD P w K mg base CX k x ps (plain sp) := by
  obtain ⟨f, fd, F, r⟩ := G.ex
  exact ⟨f, fd, F.ok, r⟩
theorem MN.md {P : Program} {w : World} {K : PySem.W.Frag} {mg : Str → Option Value} {base : Heap} {CX : CXT} {k : Nat} {C : Addr} {m : Str} {ps : List Str} {sp : SpN} (G : MN P w K mg base CX k C m ps sp) : MD P w K mg base CX k C m ps (plain sp) := by
  obtain ⟨f, fd, F, r⟩ := G.ex
  exact ⟨f, fd, F.ok, r⟩
section
variable {X : Cx} {CX : CXT} {k : Nat} {f C : Addr} {fd : FuncData} {ps : List Str} {sp : SpN} {E : XK} {x m : Str} {p pos apos : Pos} {e o : Expr} {es : List Expr} {ta : TE} {t : TAN}
/-- the callee runs, counted -/
theorem run_n {pins : List (Addr × Obj)} {σ : L2.St} {H : Hp} {s : Shared} {Q : VKN} {us : List Value} {vs : List V} {n : Nat} (hn : n ≤ s.toks) (F : FnN X.prog X.w X.K X.mg X.base CX k f fd ps sp) (hr : Room k X.A) (hb : Binds X.K fd ps []) (hx : Passes CX X E)
    (I : Inv X pins σ H s) (r : Vals vs us) (h : sp n vs H Q E) : wpAny (model X.prog X.w) X.A (call (.ref f) us) (EPN X pins σ Q) X.xe s := by
  have hl : us.length = ps.length := r.length.symm.trans (F.len _ _ _ _ _ h)
  have hbd := hb s us I.kIn (by rw [List.append_nil]; exact hl)
  rw [List.append_nil] at hbd
  refine wpAny_call (codeAny_mono (F.run X.A X.stack s H ⟨us, []⟩ us vs n Q E hn hr I.env0 hbd r h) fun rs s' hq => ?_)
  cases rs with
  | error er => exact hx pins σ H s er s' I hq
  | ok fl =>
    cases fl with
    | ret u =>
      obtain ⟨m, hm, z⟩ := hq
      obtain ⟨v, H', I', rv, q⟩ := I.after z
      exact ⟨m, v, H', hm, I', rv, q⟩
    | next => exact hq.elim
    | brk => exact hq.elim
    | cont => exact hq.elim
def nCall (sp : SpN) (E : XK) (t : TAN) : TEN := fun n σ H Q => t n σ H fun m us vs H1 => sp m vs H1 Q E
theorem pen_g (D : GN X.prog X.w X.K X.mg X.base CX k x ps sp) (hr : Room k X.A) (hx : Passes CX X E) (ha : PAN X (e :: es) t) (hg : Gl X x := by rfl) (hdb : (x == ("__debug__" : Str)) = false := by decide)
    (he : starEach (e :: es) X.env = (false, eval e X.env) :: starEach es X.env := by rfl) (hpl : (backTo pos (starEach es X.env)).any (·.1) = false := by rfl) : PEN X (.Call (.Name x p) (e :: es) [] pos) (nCall sp E t) := by
  obtain ⟨f, fd, F, hm, hk, hb⟩ := D.ex
  refine ⟨fun pins s σ H n Q hn I h => ?_⟩
  refine wpAny_Call_Name_kw (ld_glob I hg hm ?_ hdb)
  exact PySem.W.callWith_K (h₀ := X.base) I.ok.mod.kin hk (thn (ha.run pos pins s σ H n _ hn I h) fun us s1 ⟨m, vs, H1, l, I1, r, q⟩ => ⟨I1.kIn, run_n l F hr hb hx I1 r q⟩) he hpl
def nMeth (C : Addr) (m : Str) (sp : SpN) (E : XK) (ta : TE) (t : TAN) : TEN := fun n σ H Q => ta σ H fun x H1 => ∃ a dx fs, x = .ref a ∧ H1 a = some (.ins C dx fs) ∧ fs.lookup m = none ∧ t n σ H1 fun n2 us vs H2 => sp n2 (x :: vs) H2 Q E
theorem pen_m0 {pl : Sem Bool} (D : MN X.prog X.w X.K X.mg X.base CX k C m ps sp) (c : Cls X.K C) (hr : Room k X.A) (hx : Passes CX X E) (he : PE X o ta)
    (ht : eval (.Call (.Attribute o m apos) [] [] pos) X.env = (do
      let ov ← eval o X.env
      standAt apos.atName
      let (f, first) ← holding [ov] (getMethod ov m pl)
      callWith pos f first (backTo pos (starEach [] X.env)) (backToKw pos (keywordEach [] X.env))) := by rfl) :
    PEN X (.Call (.Attribute o m apos) [] [] pos) (nMeth C m sp E ta nNil) := by
  obtain ⟨f, fd, F, hm, hb⟩ := D.ex
  refine ⟨fun pins s σ H n Q hn I h => ?_⟩
  refine PySem.W.methodCall_KW (pl := pl) (cnt hn (he.run pins s σ H _ I h) fun u s1 l ⟨x, H1, I1, rx, a, dx, fs, ex, ea, lk, q⟩ => ?_) ht
  subst ex
  obtain rfl : u = Value.ref a := rx
  refine getmeth_ok I1 ea c hm lk ?_
  exact PySem.W.callWith_K0 (first := [.ref a]) I1.kIn hm.kp (run_n (us := [.ref a]) (vs := [.ref a]) l F hr hb hx I1 (.cons rfl .nil) q)
/-- C(e, ..), __init__ with a counted promise -/
def nMake (C : Addr) (sp : SpN) (E : XK) (t : TAN) : TEN := fun n σ H Q => t n σ H fun m us vs H1 => ∀ x dx, H1 x = none → H1 dx = none → dx ≠ x →
  sp m (.ref x :: vs) (upd (upd H1 dx (.own x)) x (.ins C dx [])) (fun m2 _ v H2 => v = .non ∧ Q m2 (.ref x) (.ref x) H2) E
theorem pen_make {f : Addr} {fd : FuncData} (M : Mk X.K C f) (F : FnN X.prog X.w X.K X.mg X.base CX k f fd ps sp) (hr : Room (k + 1) X.A) (hm : X.mg x = some (.ref C)) (hb : Binds X.K fd ps []) (hx : Passes CX X E)
    (ha : PAN X (e :: es) t) (hg : Gl X x := by rfl) (hdb : (x == ("__debug__" : Str)) = false := by decide) (he : starEach (e :: es) X.env = (false, eval e X.env) :: starEach es X.env := by rfl) (hpl : (backTo pos (starEach es X.env)).any (·.1) = false := by rfl) :
    PEN X (.Call (.Name x p) (e :: es) [] pos) (nMake C sp E t) := by
  refine ⟨fun pins s σ H n Q hn I h => ?_⟩
  refine wpAny_Call_Name_kw (ld_glob I hg hm ?_ hdb)
  refine PySem.W.callWith_K (h₀ := X.base) I.ok.mod.kin M.kp (thn (ha.run pos pins s σ H n _ hn I h) fun us s1 ⟨m, vs, H1, l, I1, r, q⟩ => ⟨I1.kIn, ?_⟩) he hpl
  show wpAny _ _ (call (.ref C) us) _ _ _
  generalize hN : s1.heap.objs.size = N at *
  have f1 : H1 (N + 1) = none := I1.hok.fresh (by rw [hN]; exact Nat.le_succ _)
  have f0 : H1 N = none := I1.hok.fresh (Nat.le_of_eq hN)
  have hq := q (N + 1) N f1 f0 (Nat.ne_of_lt (Nat.lt_succ_self _))
  have I2 := Inv.made (C := C) I1
  rw [hN] at I2
  have r2 : Vals (V.ref (N + 1) :: vs) (Value.ref (N + 1) :: us) := .cons rfl r
  have hl : (Value.ref (N + 1) :: us).length = ps.length := r2.length.symm.trans (F.len _ _ _ _ _ hq)
  have hbd := hb _ (Value.ref (N + 1) :: us) I2.kIn (by rw [List.append_nil]; exact hl)
  rw [List.append_nil] at hbd
  refine wpAny_call (make_map (f := f) I1.kIn M.makes M.init (beq_iff_eq.mp M.fn) ?_)
  rw [hN]
  refine codeAny_mono (F.run _ X.stack _ _ ⟨Value.ref (N + 1) :: us, []⟩ (Value.ref (N + 1) :: us) _ m _ E l (hr.make C us []) (I2.env0.make C us []) hbd r2 hq) fun rs s' hq' => ?_
  cases rs with
  | error er => exact hx pins σ _ _ er s' I2 hq'
  | ok fl =>
    cases fl with
    | ret u =>
      obtain ⟨m2, hm2, z⟩ := hq'
      obtain ⟨v, H', I3, rv, ev, q3⟩ := I2.after z
      subst ev
      exact ⟨rv, m2, V.ref (N + 1), H', hm2, I3, rfl, q3⟩
    | next => exact hq'.elim
    | brk => exact hq'.elim
    | cont => exact hq'.elim
end
/-- a def of the text, its body counted -/
theorem fun_n {P : Program} {w : World} {K : PySem.W.Frag} {mg : Str → Option Value} {base : Heap} {CX : CXT} {x qual : Str} {st : Stmt} {f : Addr} {fd : FuncData} {N ps : List Str} {k : Nat} {sp : SpN} (F : Fun K x qual st f fd) (S : FnScope N ps (defScope st)) (len : ∀ n vs H Q E, sp n vs H Q E → vs.length = ps.length)
    (hbody : ∀ (cdv : Value) (A : Around) (outer : List Env) (s : Shared) (H : Hp) (vs : List V) (n : Nat) (Q : VKN) (E : XK), Room k (A.deeper (envOfC qual (defScope st) s.heap.objs.size f cdv)) → sp n vs H Q E →
      ∃ t, PSsN (cxOf CX P w K mg base N qual (defScope st) f cdv A outer s H E) (defBody st) t ∧ t { nx := fun m _ H' => Q m .none .non H', rt := Q } n (L2.start N vs) H) : FnN P w K mg base CX (k + 1) f fd ps sp := by
  obtain ⟨oc, od, kV, doc, pm, an, cdv, ct, osl, rfl, lk, hcd⟩ := F.ex
  refine ⟨len, fun A outer s H args us vs n Q E hn hr e0 hb r hsp => ?_⟩
  have kept : ∀ b o, base.get? b = some o → s.heap.get? b = some o := fun b o q => (e0.bs b o q).1
  have hkind : ∀ y ∈ ps.zip us, (defScope st).names.lookup y.1 = some .local ∨ ((defScope st).names.lookup y.1 = some .cell ∧ ((cellsFrom (s.heap.objs.size + 1) (defScope st).names []).lookup y.1).isSome = true) := by
    rintro ⟨y, v⟩ hy
    exact (S.par y (List.of_mem_zip hy).1).imp id fun q => ⟨q, PySem.W.cellsFrom_some _ _ _ (.inl q)⟩
  refine codeAny_call_function hr.depth ((e0.mod.kin.keeps kept) _ _ lk) rfl S.co S.gen rfl (PySem.W.codeRec_of (e0.mod.kin.keeps kept) hcd) (hb _ _ _ _ ?_)
  refine cnt hn (wpAny_newFunctionEnv_cells S.kind hkind fun env he s1 ic => (⟨he, ic⟩ : _ ∧ InCallC s env.locals (bindL env.kindOf (ps.zip us) fun _ => none) env.cells (bindC env.kindOf (ps.zip us) fun _ => none) s1)) fun env s1 hk1 z => ?_
  obtain ⟨he, ic⟩ := z
  subst he
  refine ⟨(e0.mod.nolimit.keeps kept).keeps ic.toInCall.keep, codeAny_func ?_⟩
  obtain ⟨t, ht, hq⟩ := hbody cdv A outer s H vs n Q E (hr.deeper _) hsp
  have I : Inv (cxOf CX P w K mg base N qual (defScope st) f cdv A outer s H E) [] (L2.start N vs) H s1 := inv_start S hr.hd e0 (len _ _ _ _ _ hsp) r ic
  refine wpAny_mono (ht.run [] s1 (L2.start N vs) H n _ hk1 I hq) (fun fl s' hs => ?_) fun _ _ z => z
  cases fl with
  | ret u =>
    obtain ⟨m, v, σ', H', hm, J, rv, q⟩ := hs
    exact ⟨m, hm, v, H', J.os, J.bare, J.base, J.hok, rv, q⟩
  | next =>
    obtain ⟨m, σ', H', hm, J, q⟩ := hs
    exact ⟨m, hm, .non, H', J.os, J.bare, J.base, J.hok, rfl, q⟩
  | brk =>
    obtain ⟨_, _, _, _, _, q⟩ := hs
    exact q.elim
  | cont =>
    obtain ⟨_, _, _, _, _, q⟩ := hs
    exact q.elim
end Lsd
/-! letters_of: the signs' own tokens -/
namespace Lsd
open PySem PySem.Spec PyProof.Rows L2 VasedBase
/-- a text of one sign with a token from lo to below hi -/
def ChV (lo hi : Nat) (v : Value) (c : UInt8) : Prop := ∃ t, v = .str ⟨#[c.toNat]⟩ t ∧ lo ≤ t ∧ t < hi
theorem ChV.up {lo hi hi' : Nat} {v : Value} {c : UInt8} (h : ChV lo hi v c) (l : hi ≤ hi') : ChV lo hi' v c := by
  obtain ⟨t, e, h1, h2⟩ := h
  exact ⟨t, e, h1, Nat.lt_of_lt_of_le h2 l⟩
theorem paired_up {lo hi hi' : Nat} (l : hi ≤ hi') : ∀ {ys : List Value} {b : Bytes}, Paired (ChV lo hi) ys b → Paired (ChV lo hi') ys b
  | _, _, .nil => .nil
  | _, _, .cons h t => .cons (h.up l) (paired_up l t)
theorem paired_snoc {α β : Type} {F : α → β → Prop} {x : α} {y : β} (h : F x y) : ∀ {xs : List α} {ys : List β}, Paired F xs ys → Paired F (xs ++ [x]) (ys ++ [y])
  | _, _, .nil => .cons h .nil
  | _, _, .cons g t => .cons g (paired_snoc h t)
def smallS : Str := Str.ofString "abcdefghijklmnopqrstuvwxyz"
theorem smallS_at {c : UInt8} (h : isLetter c = true) : smallS.cps[((c.toNat : Int) - 97).toNat]? = some c.toNat ∧ 97 ≤ c.toNat ∧ c.toNat ≤ 122 := by
  have h' : 97 ≤ c.toNat ∧ c.toNat ≤ 122 := by simpa [isLetter] using h
  refine ⟨?_, h'⟩
  have key : ∀ k : Fin 26, smallS.cps[(((97 + k.val : Nat) : Int) - 97).toNat]? = some (97 + k.val) := by decide +kernel
  have q := key ⟨c.toNat - 97, by omega⟩
  have e : 97 + (c.toNat - 97) = c.toNat := by omega
  simp only [e] at q
  exact q
theorem smallS_len : smallS.length = 26 := by decide +kernel
theorem up2 (n : Nat) : n ≤ n + 1 + 1 := by omega
theorem up4 (n : Nat) : n ≤ n + 1 + 1 + 1 + 1 := by omega
theorem up3 (n : Nat) : n ≤ n + 1 + 1 + 1 := by omega
theorem nat1 {b N C : Nat} (hb : b < N + 1) (hC : N + 1 ≤ C) : b ≠ C := by omega
theorem nat2 {b N C D : Nat} (hb : b < N ∨ b = C) (hC : N + 1 ≤ C) (hD : N + 1 ≤ D) (h : D ≠ C) : ¬ (b = D ∨ b = N) := by omega
theorem nat4 {J l D : Nat} (h : l < J) (e : D = J + 1) : ¬ (D = J ∨ D = l) := by omega
theorem nat3 {b N l : Nat} (h : l < N) (hb : b = N ∨ b = l) : b < N + 1 := by omega
section
variable {X : Cx} {pins : List (Addr × Obj)} {σ : L2.St} {H : Hp} {s : Shared}
theorem letters_list {scope : Scope} {a : Addr} {b : Bytes} {i0 : Nat} {p1 p2 p3 p4 p5 q1 q2 pos : Pos} {jz : Nat} {Q : Value → Shared → Prop} (hc : X.calm = true) (I : Inv X pins σ H s) (hS : SqL X.K H a (ofB b)) (hb : ∀ c ∈ b, isLetter c = true)
    (cS : GC X.mg "SMALL" (.str smallS)) (hN : X.N[i0]? = some ("octets" : Str)) (hσ : σ[i0]? = some (some (.ref a))) (hv : Vis X.env.scope "octets")
    (hkind : scope.kind = .function) (hcell : ∀ y ∈ scope.names, y.2 ≠ .cell) (hfree : ∀ y ∈ scope.names, y.2 ≠ .free) (hnames : ∀ y ∈ scope.names, y.2 = .local → scope.names.lookup y.1 = some .local)
    (kO : ∀ cl C, (compEnvC scope cl C X.env).kindOf "octet" = some .local) (kS : ∀ cl C, (compEnvC scope cl C X.env).kindOf "SMALL" = some .globalImplicit)
    (h : ∀ D h' tk (ys : List Value), s.toks ≤ tk → h'.PlainList D ys.toArray → Paired (ChV s.toks tk) ys b → (∀ c o, s.heap.get? c = some o → h'.get? c = some o) → Q (.ref D) { s with heap := h', toks := tk })
    (hs : ∀ x, foldedSetIterable (.Name "octets" q2) X.env x = pure x := by intro _; rfl) :
    wpAny (model X.prog X.w) X.A (eval (.ListComp (.Subscript (.Name "SMALL" p1) (.BinOp (.Name "octet" p2) .Sub (.Constant (.int 97) jz p3) p4) p5) [⟨.Name "octet" q1, .Name "octets" q2, [], 0⟩] scope pos) X.env) Q X.xe s := by
  have clos : closureFor scope X.env = pure (cloFrom X.env.cells scope.names []) := closure_ok fun y hy e => absurd e (hfree y hy)
  generalize hcl : cloFrom X.env.cells scope.names [] = cl at clos
  obtain ⟨its, rv, pl, hz⟩ := I.list hS
  have hl := pl.isList
  have hlen : its.length = b.length := by rw [← rv.length, ofB_len]
  have hlt : (a : Nat) < s.heap.objs.size := by obtain ⟨o, ho, _⟩ := hl; exact Heap.lt_size ho
  rw [eval_ListComp]
  refine comprehension_at (use := none) rfl hs clos hkind hnames ?_
  refine raw_name hN hv I hσ (fun v r => ?_)
  obtain rfl : v = Value.ref a := r
  refine wpAny_pyIter_list hl ?_
  generalize hJ : s.heap.objs.size = J at hlt
  generalize hh2 : s.heap.push { cls := .type "list_iterator", data := .fields #[.ref a, .int 0 0] } = h2
  have sz2 : h2.objs.size = J + 1 := by rw [← hh2, Heap.size_push, hJ]
  have k2 : ∀ c o, s.heap.get? c = some o → h2.get? c = some o := fun c o e => by rw [← hh2]; exact Heap.get?_push_of_some _ e
  have it2 : h2.IsListIter J a 0 := by
    rw [← hh2, ← hJ]
    exact ⟨_, Heap.get?_push_size _ rfl, rfl, rfl⟩
  refine wpAny_newObj_type (wpAny_newFunctionEnv hcell (fun y hy => absurd hy (by simp)) (fun h3 hnm sb3 => ?_) hkind)
  dsimp only at hnm sb3 ⊢
  generalize hD : h2.objs.size = D at hnm sb3 ⊢
  generalize hh : h2.push { cls := .type "list", dict := none, data := .seq #[] } = hl2 at hnm sb3 ⊢
  generalize hC : hl2.objs.size = C at hnm sb3 ⊢
  have eD : D = J + 1 := by rw [← hD, sz2]
  have eC : C = J + 2 := by rw [← hC, ← hh, Heap.size_push, sz2]
  have hDC' : (D : Nat) ≠ C := by rw [eD, eC]; exact Nat.ne_of_lt (Nat.lt_succ_self _)
  have hDC : D ≠ C := hDC'
  have nC' : (J + 1 : Nat) ≤ C := by rw [eC]; exact Nat.le_succ _
  have nD' : (J + 1 : Nat) ≤ D := Nat.le_of_eq eD.symm
  have k3 : ∀ c o, h2.get? c = some o → h3.get? c = some o := fun c o e => by
    refine sb3.extBut c o ?_ (Heap.get?_push_of_some _ (by rw [← hh]; exact Heap.get?_push_of_some _ e))
    have q := Heap.lt_size e
    rw [sz2] at q
    exact nat1 q nC'
  have acc3 : h3.PlainList D #[] := ⟨_, sb3.extBut _ _ hDC (Heap.get?_push_of_some _ (by rw [← hh, ← hD]; exact Heap.get?_push_size _ rfl))⟩
  have l3 : s.toks ≤ s.toks + ([] : List (Str × Value)).length := Nat.le_add_right _ _
  have st3 : h3.IsListIter J a 0 ∧ h3.IsList a its.toArray := ⟨it2.at fun o e => k3 _ o e, hl.at fun o e => k3 _ o (k2 _ o e)⟩
  have W0 : Goes X.prog X.w X.A (.Name "octet" q1) J [J, a] [J] its.toArray.size (fun i v _ => its.toArray[i]? = some v) (fun i h => h.IsListIter J a i ∧ h.IsList a its.toArray) := Goes.list (I.ok.hd hc) J a (Nat.ne_of_lt hlt) its.toArray
  have loop : codeAny (model X.prog X.w) X.A (.compLoop (.ListComp (.Subscript (.Name "SMALL" p1) (.BinOp (.Name "octet" p2) .Sub (.Constant (.int 97) jz p3) p4) p5) [⟨.Name "octet" q1, .Name "octets" q2, [], 0⟩] scope pos) 0 (.ref J) (.ref D) (compEnvC scope cl C X.env))
      (compEnds (model X.prog X.w) X.A X.xe none Q (.ref D) (compEnvC scope cl C X.env)) ({ s with heap := h3, toks := s.toks + ([] : List (Str × Value)).length } : Shared) := by
    have W : Goes X.prog X.w X.A (.Name "octet" q1) J [J, a] [J] its.toArray.size (fun i v _ => its.toArray[i]? = some v) (fun i h => h.IsListIter J a i ∧ h.IsList a its.toArray) := Goes.list (I.ok.hd hc) J a (Nat.ne_of_lt hlt) its.toArray
    generalize htk : s.toks + ([] : List (Str × Value)).length = tk3 at l3 ⊢
    have kx := kO cl C
    have kf : (compEnvC scope cl C X.env).scope.kind = .function := hkind
    have hp : ((compEnvC scope cl C X.env).scope.kind == .class || ((compEnvC scope cl C X.env).scope.kind == .module && (compEnvC scope cl C X.env).locals != (compEnvC scope cl C X.env).globals)) = false := by
      rw [kf]
      rfl
    obtain ⟨uS, mS, rS⟩ := cS
    obtain ⟨tS, eS⟩ := (show ∃ t, uS = Value.str smallS t from rS)
    refine lc_goes (G := fun i vs s1 => ∃ h' tk m, s1 = { s with heap := h', toks := tk } ∧ s.toks ≤ tk ∧ h'.Ns C m ∧ Paired (ChV s.toks tk) vs (b.take i) ∧ ∀ c o, s.heap.get? c = some o → h'.get? c = some o)
      W (by rw [List.size_toArray, ← rv.length]; exact hz) (fun hm => nat4 hlt eD (by simpa using hm)) st3 acc3 ⟨h3, tk3, _, rfl, l3, hnm, .nil, fun c o e => k3 c o (k2 c o e)⟩ ?_ ?_ ?_
    · rintro i vs s1 h' tk ⟨h4, tk4, m, rfl, l4, n4, e4, k4⟩ hk' l5
      have off : ∀ c : Addr, (c < J ∨ c = C) → c ∉ D :: [J] := fun c hc' hm => nat2 hc' nC' nD' hDC' (by simpa using hm)
      exact ⟨h', tk, m, rfl, Nat.le_trans l4 l5, n4.at' fun o e => hk' _ o (off _ (.inr rfl)) e, paired_up l5 e4, fun c o e => hk' c o (off _ (.inl (hJ ▸ Heap.lt_size e))) (k4 c o e)⟩
    · rintro i v vs s1 hi hv' st ⟨h4, tk4, m, rfl, l4, n4, e4, k4⟩ hpl
      clear W W0
      have hi' : i < b.length := by rw [List.size_toArray, hlen] at hi; exact hi
      have hg : b[i]? = some b[i] := List.getElem?_eq_getElem hi'
      obtain ⟨u, hu, ru⟩ := rv.get (ofB_get hg)
      have ev : v = u := by
        have q : its[i]? = some v := by simpa using hv'
        rw [hu] at q
        exact (Option.some.inj q).symm
      subst ev
      obtain ⟨tc, rfl⟩ := ru
      refine wpAny_assign_Name (wpAny_storeName_local kx n4 (fun h5 n5 s5 => ?_) hp)
      refine wpAny_tests_nil ?_
      show wpAny _ _ (eval (.Subscript _ _ _) _) _ _ _
      obtain ⟨hS1, hS2, hS3⟩ := smallS_at (hb b[i] (List.getElem_mem hi'))
      have offC : ∀ c : Addr, c < J + 1 → c ≠ C := fun c hc' => nat1 hc' nC'
      have k5 : ∀ c o, s.heap.get? c = some o → h5.get? c = some o := fun c o e => s5.extBut c o (offC c (Nat.lt_succ_of_lt (hJ ▸ Heap.lt_size e))) (k4 c o e)
      have hgl : h5.Ns mainGlobals X.mg := I.mod.glob.keeps fun c o e => k5 c o (I.bk c o e)
      refine Subscript_ (Calls.Name_function_global kf (kS cl C) (Calls.loadGlobal_global (mg := X.mg) (by show h5.Ns X.env.globals X.mg; rw [I.ok.glob]; exact hgl) mS ?_))
      subst eS
      refine wpAny_BinOp (wpAny_Name (wpAny_loadName_local kf kx n5 (v := .int (b[i].toNat : Int) tc) (if_pos rfl) ?_))
      refine wpAny_Constant_int (sub_int ?_)
      refine tail_any (typeIs_str _ smallS tS) slot_str_getitem.lookup (getItem_str (c := b[i].toNat) (by
        have e1 : decide ((b[i].toNat : Int) - 97 < -(2 ^ 63 : Int)) = false := decide_eq_false (by omega)
        have e2 : decide ((b[i].toNat : Int) - 97 ≥ 2 ^ 63) = false := decide_eq_false (by omega)
        rw [e1, e2] <;> rfl) (by rw [smallS_len, PySem.StrLaws.seqIndex_nonneg (by omega) (by omega)]; exact hS1) ?_) (by with_unfolding_all rfl)
      refine ⟨⟨h5, _, _, rfl, Nat.le_trans l4 (up4 tk4), n5, ?_, k5⟩, ⟨st.1.at fun o e => s5.extBut _ o (offC _ (Nat.lt_succ_self _)) e, st.2.at fun o e => s5.extBut _ o (offC _ (Nat.lt_succ_of_lt hlt)) e⟩, hpl.at fun o e => s5.extBut _ o hDC e⟩
      have et : b.take (i + 1) = b.take i ++ [b[i]] := by rw [List.take_add_one, hg] <;> rfl
      rw [et]
      exact paired_snoc ⟨_, rfl, Nat.le_trans l4 (up3 tk4), Nat.lt_succ_self _⟩ (paired_up (up4 tk4) e4)
    · rintro vs s1 ⟨h4, tk4, m, rfl, l4, n4, e4, k4⟩ hpl
      refine ⟨m, n4, fun h' hs' => h D h' tk4 vs l4 (hpl.extBut hs'.extBut hDC) ?_ fun c o e => hs'.extBut c o (nat1 (Nat.lt_succ_of_lt (hJ ▸ Heap.lt_size e)) nC') (k4 c o e)⟩
      rw [List.size_toArray, hlen, List.take_length] at e4
      exact e4
  exact codeAny_compStart_list loop (W0.self 0 _ _ _ st3 loop)
end
end Lsd
/-! letters_of, octets_of, number_of -/
namespace Lsd
open PySem PySem.Spec PyProof.Rows L2
open VasedBase hiding Tok
theorem flatten_ones : ∀ b : Bytes, (b.map fun c => [c]).flatten = b
  | [] => rfl
  | c :: r => by rw [List.map_cons, List.flatten_cons, flatten_ones r] <;> rfl
theorem join_ones (b : Bytes) : Txt.join (sT []) (b.map fun c => (⟨#[c.toNat]⟩ : Str)) = sT b := by
  have e : (b.map fun c => (⟨#[c.toNat]⟩ : Str)) = (b.map fun c => [c]).map sT := by
    rw [List.map_map]
    rfl
  rw [e, join_nil, flatten_ones]
theorem ones_len (b : Bytes) : ((b.map fun c => (⟨#[c.toNat]⟩ : Str)).map (·.length)).sum = b.length := by
  induction b with
  | nil => rfl
  | cons c r ih =>
    rw [List.map_cons, List.map_cons, List.sum_cons, ih, List.length_cons]
    show 1 + r.length = _
    omega
theorem ones_values {lo hi : Nat} : ∀ {ys : List Value} {b : Bytes}, Paired (ChV lo hi) ys b → ∃ l : List (Str × Tok), ys = strValues l ∧ l.map (·.1) = b.map (fun c => (⟨#[c.toNat]⟩ : Str)) ∧ ∀ p ∈ l, lo ≤ p.2 ∧ p.2 < hi
  | _, _, .nil => ⟨[], rfl, rfl, fun _ h => absurd h (by simp)⟩
  | _, _, .cons ⟨t, e, h1, h2⟩ r => by
    obtain ⟨l, hv, ht, hb⟩ := ones_values r
    subst e
    refine ⟨(_, t) :: l, by rw [hv] <;> rfl, by rw [List.map_cons, ht] <;> rfl, fun p hp => ?_⟩
    rcases List.mem_cons.mp hp with z | z
    · rw [z]; exact ⟨h1, h2⟩
    · exact hb p z
theorem post_lo {s : Shared} {sep x : Str} {Q : Value → Shared → Prop} {lo : Nat} : ∀ l : List (Str × Tok), (∀ p ∈ l, lo ≤ p.2 ∧ p.2 < s.toks) → lo ≤ s.toks → Txt.join sep (l.map (·.1)) = x → x.length ≤ sizeLine →
    (∀ t k, lo ≤ t → t < k → Q (.str x t) { s with toks := k }) → (joinMade sep l).post Q s
  | [], _, hlo, e, hz, h => by subst e; exact ⟨hz, h _ _ hlo (Nat.lt_succ_self _)⟩
  | [p], hb, _, e, _, h => by subst e; exact h p.2 s.toks (hb p (List.mem_cons_self ..)).1 (hb p (List.mem_cons_self ..)).2
  | _ :: _ :: _, _, hlo, e, hz, h => by subst e; exact ⟨hz, h _ _ hlo (Nat.lt_succ_self _)⟩
theorem join_raw {prog : Program} {w : World} {A : Around} {E : Value → Shared → Prop} {s : Shared} {Q : Value → Shared → Prop} {D : Addr} {ys : List Value} {b : Bytes} {lo : Nat} {t0 : Tok} (hl : s.heap.IsList D ys.toArray) (hp : Paired (ChV lo s.toks) ys b) (hlo : lo ≤ s.toks)
    (hz : b.length ≤ 1000000) (h : ∀ t k, lo ≤ t → t < k → Q (.str (sT b) t) { s with toks := k }) : wpAny (model prog w) A (call (.builtin "str.join") [.str (sT []) t0, .ref D]) Q E s := by
  obtain ⟨l, hv, ht, hb⟩ := ones_values hp
  subst hv
  have hok : JoinOk (sT []) (l.map (·.1)) = true := by
    refine joinOk_of ?_
    rw [ht, ones_len]
    show b.length + _ * 0 ≤ _
    omega
  have hok2 := hok
  unfold JoinOk at hok2
  rw [Bool.not_eq_true'] at hok2
  have ej : Txt.join (sT []) (l.map (·.1)) = sT b := by rw [ht, join_ones]
  have hfit := joinFit_length hok2
  rw [ej] at hfit
  refine call_meets F.slot_str_join (typeIs_str _ _ _) F.entry_str_join (F.args_str_join_2 _ _) (meets_str_join_list (sT []) t0 D l hok2) ⟨hl, ?_⟩
  exact post_lo l hb hlo ej hfit h
/-! ### letters_of -/
abbrev sLetters : Stmt := top 13
theorem scLetters : FnScope ["octets"] ["octets"] (defScope sLetters) := ⟨rfl, rfl, rfl, by decide +kernel, rfl, by decide +kernel, by decide +kernel⟩
/-- letters as a text: a token of its own -/
def spLetters (K : PySem.W.Frag) : SpN := fun n vs H Q _ => ∃ (a : Addr) (b : Bytes), vs = [.ref a] ∧ SqL K H a (ofB b) ∧ (∀ c ∈ b, isLetter c = true) ∧ b.length ≤ 10000 ∧ ∀ t, n ≤ t → Q (t + 1) (.str (sT b) t) (.str (sT b)) H
section
variable {P : Program} {w : World} {K : PySem.W.Frag} {mg : Str → Option Value} {base : Heap}
theorem ok_letters_of (F : GF K mg "letters_of" sLetters) (cS : GC mg "SMALL" (.str smallS)) : GN P w K mg base CX0 1 "letters_of" ["octets"] (spLetters K) := by
  obtain ⟨f, fd, F, hm⟩ := F
  refine ⟨f, fd, fun_n F scLetters (fun n vs H Q E h => ?_) (fun cdv A outer s H vs n Q E hr h => ?_), hm, F.kp, F.binds fun _ _ _ _ _ _ us hl => match us, hl with | [_], _ => rfl⟩
  · obtain ⟨a, b, rfl, _⟩ := h
    rfl
  · obtain ⟨a, b, rfl, hS, hb, hz, q⟩ := h
    refine ⟨fun D n σ H => nRet (fun n σ H Q => n = n ∧ σ = [some (.ref a)] ∧ SqL K H a (ofB b) ∧ ∀ t, n ≤ t → Q (t + 1) (.str (sT b) t) (.str (sT b)) H) D n σ H, pssn_one (psn_ret ⟨fun pins s1 σ H n Q hn I hq => ?_⟩), ⟨rfl, rfl, hS, q⟩⟩
    obtain ⟨_, rfl, hS, q⟩ := hq
    refine PySem.Call_method1 (by rfl) (by rfl) (by rfl) (Calls.Constant_str ?_)
    refine ⟨"str", _, PySem.F.plainAttrs_str, PySem.F.slot_str_join, PySem.F.type_str_join, typeIs_str _ _ _, (fun _ e => nomatch e), Calls.callWith_builtin rfl (Calls.evalArgs_plain (Calls.spliced_cons ?_))⟩
    refine letters_list rfl (I.tok _) hS hb cS (i0 := 0) rfl rfl (Or.inl rfl) rfl (by decide +kernel) (by decide +kernel) (by decide +kernel) (fun _ _ => rfl) (fun _ _ => rfl) (fun D h' tk ys l pl hp k => ?_)
    refine Calls.spliced_nil ?_
    refine join_raw pl.isList hp l (by omega) fun t k2 h1 h2 => ?_
    have h3 : n ≤ t := Nat.le_trans (Nat.le_trans hn (Nat.le_succ _)) h1
    exact ⟨t + 1, .str (sT b), H, h2, (I.tok (s1.toks + 1)).kept (t' := k2) k, ⟨t, rfl⟩, q t h3⟩
end
end Lsd
/-! Loops and comprehensions over anything, octets_of, number_of -/
namespace Lsd
open PySem PySem.Spec PyProof.Rows L2
open VasedBase hiding Tok
theorem lc_gen {J : It} {n : Nat} {g : TG} {tt : TT} {te : TE} {vs : List Nat} {σ : L2.St} {H1 : Hp} {D : Addr} {Qd : Hp → Prop} (Pv : Nat → Hp → Prop) (h0 : Pv 0 (upd H1 D (.lst []))) (hgo : ∀ i H, i < n → Pv i H → J.go i H) (hst : ∀ H, Pv n H → J.stop n H)
    (hs : ∀ i x H H', i < n → Pv i H → J.yld i H x H' → g x (wipe σ vs) H' fun σ2 H2 => wipe σ2 vs = wipe σ vs ∧ tt σ2 H2 fun b H3 =>
      if b = true then te σ2 H3 fun y H4 => ∃ acc, H4 D = some (.lst acc) ∧ acc.length < sizeLine ∧ Pv (i + 1) (upd H4 D (.lst (acc ++ [y]))) else Pv (i + 1) H3) (hd : ∀ H, Pv n H → Qd H) :
    ∃ W : Nat → Nat → Hp → Prop, (∃ m, W 0 m (upd H1 D (.lst []))) ∧ ∀ i m H, W i m H →
      (J.stop i H ∧ Qd H) ∨ (J.go i H ∧ ∃ Nx : Hp → Prop, (∀ H', Nx H' → ∃ m', m' < m ∧ W (i + 1) m' H') ∧ ∀ x H', J.yld i H x H' → g x (wipe σ vs) H' fun σ2 H2 => wipe σ2 vs = wipe σ vs ∧ tt σ2 H2 fun b H3 =>
        if b = true then te σ2 H3 fun y H4 => ∃ acc, H4 D = some (.lst acc) ∧ acc.length < sizeLine ∧ Nx (upd H4 D (.lst (acc ++ [y]))) else Nx H3) := by
  refine ⟨fun i m H => m = n - i ∧ i ≤ n ∧ Pv i H, ⟨n, by simp, Nat.zero_le _, h0⟩, ?_⟩
  rintro i m H ⟨rfl, hi, p⟩
  rcases Nat.lt_or_eq_of_le hi with hlt | e
  · exact .inr ⟨hgo i H hlt p, Pv (i + 1), fun H' p' => ⟨n - (i + 1), by omega, rfl, hlt, p'⟩, fun x H' y => hs i x H H' hlt p y⟩
  · subst e
    exact .inl ⟨hst H p, hd H p⟩
theorem for_gen {J : It} {n : Nat} {g : TG} {tb : TS} {D : Ends} {σ : L2.St} {H : Hp} (Pv : Nat → L2.St → Hp → Prop) (h0 : Pv 0 σ H) (hgo : ∀ i σ H, i < n → Pv i σ H → J.go i H) (hst : ∀ σ H, Pv n σ H → J.stop n H)
    (hs : ∀ i x σ H H', i < n → Pv i σ H → J.yld i H x H' → g x σ H' fun σ2 H2 => tb { D with nx := Pv (i + 1), ct := Pv (i + 1), bk := D.nx } σ2 H2) (hd : ∀ σ H, Pv n σ H → D.nx σ H) :
    ∃ W : Nat → Nat → L2.St → Hp → Prop, (∃ m, W 0 m σ H) ∧ ∀ i m σ H, W i m σ H →
      (J.stop i H ∧ D.nx σ H) ∨ (J.go i H ∧ ∃ N : L2.St → Hp → Prop, (∀ σ' H', N σ' H' → ∃ m', m' < m ∧ W (i + 1) m' σ' H') ∧ ∀ x H', J.yld i H x H' → g x σ H' fun σ2 H2 => tb { D with nx := N, ct := N, bk := D.nx } σ2 H2) := by
  refine ⟨fun i m σ H => m = n - i ∧ i ≤ n ∧ Pv i σ H, ⟨n, by simp, Nat.zero_le _, h0⟩, ?_⟩
  rintro i m σ H ⟨rfl, hi, p⟩
  rcases Nat.lt_or_eq_of_le hi with hlt | e
  · exact .inr ⟨hgo i σ H hlt p, Pv (i + 1), fun σ' H' p' => ⟨n - (i + 1), by omega, rfl, hlt, p'⟩, fun x H' y => hs i x σ H H' hlt p y⟩
  · subst e
    exact .inl ⟨hst σ H p, hd σ H p⟩
theorem yesT {σ : L2.St} {H : Hp} {A B : Hp → Prop} (h : A H) : tYes σ H (fun b H3 => if b = true then A H3 else B H3) := by
  show if true = true then A H else B H
  rw [if_pos rfl]
  exact h
/-- all that was tracked stays but what stands at S -/
def Keep (S : List Addr) (H H' : Hp) : Prop := ∀ b o, H b = some o → b ∉ S → H' b = some o
theorem Keep.refl (S : List Addr) (H : Hp) : Keep S H H := fun _ _ h _ => h
theorem Keep.of {S : List Addr} {H H' : Hp} (h : Same H H') : Keep S H H' := fun b o e _ => h b o e
theorem Keep.trans {S : List Addr} {H H1 H2 : Hp} (a : Keep S H H1) (b : Keep S H1 H2) : Keep S H H2 := fun c o e n => b c o (a c o e n) n
theorem Keep.same {H H' : Hp} (h : Keep [] H H') : Same H H' := fun b o e => h b o e (by simp)
theorem Keep.mono {S S' : List Addr} {H H' : Hp} (h : Keep S H H') (q : ∀ x ∈ S, x ∈ S') : Keep S' H H' := fun b o e n => h b o e fun m => n (q b m)
theorem Keep.upd {S : List Addr} {H : Hp} {p : Addr} {o : HO} (h : H p = none ∨ p ∈ S) : Keep S H (upd H p o) := fun b u e n => by
  rw [upd_ne ?_]
  · exact e
  · rintro rfl
    rcases h with h | h
    · rw [h] at e; cases e
    · exact n h
theorem Same.upd {H : Hp} {p : Addr} {o : HO} (h : H p = none) : Same H (upd H p o) := fun b u e => by
  rw [upd_ne (ne_of_none e h)]
  exact e
theorem Same.updD {H H1 : Hp} {p : Addr} {o : HO} (s : Same H H1) (h : H p = none) : Same H (L2.upd H1 p o) := fun b u e => by
  rw [upd_ne (ne_of_none e h)]
  exact s b u e
/-- a keeps a tuple, a list that is not changed -/
theorem Same.tup {K : PySem.W.Frag} {H H' : Hp} {a : Addr} {xs : List V} (e : Same H H') (h : SqT K H a xs) : SqT K H' a xs := by
  rcases h with (h | ⟨o, h⟩) | h
  · exact .inl (.inl (e _ _ h))
  · exact .inl (.inr ⟨o, e _ _ h⟩)
  · exact .inr h
theorem one1 (c : Nat) : (⟨#[c]⟩ : Str).length = 1 := rfl
abbrev sOctets : Stmt := top 14
theorem scOctets : FnScope ["text", "sign"] ["text"] (defScope sOctets) := ⟨rfl, rfl, rfl, by decide +kernel, rfl, by decide +kernel, by decide +kernel⟩
/-- a new list of the text's bytes -/
def spOctets : Sp := fun vs H Q _ => ∃ b : Bytes, vs = [.str (sT b)] ∧ b.length ≤ 1000000 ∧ ∀ D H', H D = none → Same H H' → H' D = some (.lst (ofB b)) → Q (.ref D) H'
theorem sT_size (b : Bytes) : (sT b).cps.size = b.length := sT_len b
theorem sT_get {b : Bytes} {i : Nat} {c : Nat} (h : (sT b).cps[i]? = some c) : ∃ z, b[i]? = some z ∧ c = z.toNat := by
  have e : (b.map UInt8.toNat)[i]? = some c := by simpa [sT] using h
  rw [List.getElem?_map] at e
  cases q : b[i]? with
  | none => rw [q] at e; cases e
  | some z => rw [q] at e; exact ⟨z, rfl, (Option.some.inj e).symm⟩
theorem take_snoc {α : Type} {l : List α} {i : Nat} {x : α} (h : l[i]? = some x) : l.take (i + 1) = l.take i ++ [x] := by rw [List.take_add_one, h] <;> rfl
section
variable {P : Program} {w : World} {K : PySem.W.Frag} {mg : Str → Option Value} {base : Heap}
theorem ok_octets_of (F : GF K mg "octets_of" sOctets) (mo : mg "ord" = none) : GD P w K mg base CX0 1 "octets_of" ["text"] spOctets := by
  obtain ⟨f, fd, F, hm⟩ := F
  refine ⟨f, fd, F.ok scOctets (fun vs H Q E h => ?_) (fun cdv A outer s H vs Q E hr h => ⟨_, pss_one (ps_ret (pe_lc (own := [("sign", 1)]) (g := gName 1) (tt := tYes) (by rfl) scOctets.nd (pi_str (pv 0)) (blkOk_by (N := ["text", "sign"]) (sc := defScope sOctets) (by decide +kernel))
      (fun _ _ _ _ _ => pg_name (i := 1) scOctets.nd rfl (Or.inl rfl)) (fun _ _ _ _ _ => pts_nil) (fun _ _ _ _ _ => pe_callB call_ord (by rfl) mo (by decide +kernel) (pa_cons (pv 1) pa_nil)))), ?_⟩), hm, F.kp, F.binds fun _ _ _ _ _ _ us hl => match us, hl with | [_], _ => rfl⟩
  · obtain ⟨b, rfl, _⟩ := h
    rfl
  · obtain ⟨b, rfl, hz, q⟩ := h
    refine ⟨_, rfl, _, rfl, fun D hD => lc_gen (J := Its (sT b)) (n := b.length) (fun i H' => Same H H' ∧ H' D = some (.lst (ofB (b.take i)))) ⟨Same.upd hD, upd_same⟩ (fun i H' hi _ => by rw [← sT_size] at hi; exact hi)
      (fun H' _ => Nat.le_of_eq (sT_size b)) (fun i x H' H2 hi ⟨hs, hl⟩ ⟨e, c, hc, ex⟩ => ?_) fun H' ⟨hs, hl⟩ => q D H' hD hs (by rw [List.take_length] at hl; exact hl)⟩
    subst e ex
    obtain ⟨z, hz', rfl⟩ := sT_get hc
    refine ⟨rfl, ?_⟩
    refine yesT ?_
    refine ⟨_, rfl, _, rfl, rfl, _, hl, ?_, Same.updD hs hD, ?_⟩
    · rw [ofB_len, List.length_take, sizeLine_eq]
      omega
    · rw [upd_same, take_snoc hz']
      simp [ofB]
end
end Lsd
/-! Fault: its making, its raising; number_of -/
namespace Lsd
open PySem PySem.Spec PyProof.Rows L2
open VasedBase hiding Tok
theorem ps_imp {X : Cx} {st : Stmt} {t t' : TS} (h : PS X st t) (i : ∀ D σ H, t' D σ H → t D σ H) : PS X st t' := ⟨fun pins s σ H D I q => h.run pins s σ H D I (i D σ H q)⟩
/-- what the top has written of the class Fault -/
structure FaultT (K : PySem.W.Frag) (mg : Str → Option Value) (CF : Addr) : Prop where
  oex : OexC K CF
  gl : mg "Fault" = some (.ref CF)
  nc : PySem.W.findIn K (.ref CF) "code" = some none
  np : PySem.W.findIn K (.ref CF) "place" = some none
  ve : mg "ValueError" = none
  vV : PySem.W.findCls K (.type "ValueError") (.type "type") "__init__" = some (.val (.builtin "ValueError.__init__"))
  te : PySem.W.exmOne K (.ref CF) (.ref CF) = some true
/-- its __init__ in the text -/
def FaultF (K : PySem.W.Frag) (CF : Addr) (st : Stmt) : Prop := ∃ f fd, Fun K "__init__" "Fault.__init__" st f fd ∧ PySem.W.findIn K (.ref CF) "__init__" = some (some (.ref f)) ∧ PySem.W.typeIn K (.ref f) = some (.type "function")
structure FaultD (P : Program) (w : World) (K : PySem.W.Frag) (mg : Str → Option Value) (base : Heap) (CF : Addr) (sp : Sp) : Prop where
  ex : ∃ f fd, FnOk P w K mg base CX0 1 f fd ["self", "code", "place"] sp ∧ PySem.W.findIn K (.ref CF) "__init__" = some (some (.ref f)) ∧ PySem.W.typeIn K (.ref f) = some (.type "function") ∧ Binds K fd ["self", "code", "place"] []
def xdF (c p : Int) : List (Str × V) := [("place", .int p), ("code", .int c)]
def spFault (CF : Addr) : Sp := fun vs H Q _ => ∃ (a : Addr) (c p : Int), vs = [.ref a, .int c, .int p] ∧ H a = some (exo a CF none) ∧
  ∀ d, H d = none → d ≠ a → Q .non (upd (upd (upd H d (exd d [("code", .int c)])) a (exo a CF (some d))) d (exd d (xdF c p)))
abbrev sFault : Stmt := inClass (top 10) 0
theorem scFault : FnScope ["self", "code", "place"] ["self", "code", "place"] (defScope sFault) := ⟨rfl, rfl, rfl, by decide +kernel, rfl, by decide +kernel, by decide +kernel⟩
section
variable {P : Program} {w : World} {K : PySem.W.Frag} {mg : Str → Option Value} {base : Heap} {CF : Addr}
theorem ok_fault (T : FaultT K mg CF) (F : FaultF K CF sFault) : FaultD P w K mg base CF (spFault CF) := by
  obtain ⟨f, fd, F, hi, ht⟩ := F
  refine ⟨f, fd, F.ok scFault (fun vs H Q E h => ?_) (fun cdv A outer s H vs Q E hr h => ⟨_, pss_cons (ps_expr (pe_veinit (by rfl) T.ve T.vV (pa_cons (pv 0) (pa_cons pe_str pa_nil))))
      (pss_cons (ps_ost (pv 0) (pv 1)) (pss_one (ps_ost (pv 0) (pv 2)))), ?_⟩), hi, ht, F.binds fun _ _ _ _ _ _ us hl => match us, hl with | [_, _, _], _ => rfl⟩
  · obtain ⟨a, c, p, rfl, _⟩ := h
    rfl
  · obtain ⟨a, c, p, rfl, ha, q⟩ := h
    refine ⟨_, rfl, a, CF, _, rfl, by decide, T.oex, ha, ?_⟩
    refine ⟨_, rfl, _, rfl, a, CF, rfl, T.oex, T.nc, .inl ⟨ha, fun d hd hne => ?_⟩⟩
    refine ⟨_, rfl, _, rfl, a, CF, rfl, T.oex, T.np, .inr ⟨d, [("code", .int c)], upd_same, ?_, (by show 1 ≤ 900; decide), q d hd hne⟩⟩
    rw [upd_ne hne]
    exact upd_same
end
/-- an error with this code, this place is let out; all that was tracked stands -/
def FaultE (CF : Addr) (E : XK) (H : Hp) (c p : Int) : Prop := ∀ d H', Same H H' → H d = none → H' d = some (.xd (xdF c p)) → E (.ref CF) (some d) H'
/-- what the raising of Fault(c, p) asks behind its arguments -/
theorem fault_tail {CF : Addr} {E : XK} {H : Hp} {c p : Int} (h : FaultE CF E H c p) : [V.int c, .int p].length ≤ 1000 ∧ ∀ a, H a = none → spFault CF (.ref a :: ([V.int c, .int p] ++ [])) (upd H a (exo a CF none))
    (fun v H2 => v = .non ∧ ∃ (d : Addr) (fs : List (Str × V)), H2 a = some (exo a CF (some d)) ∧ H2 d = some (exd d fs) ∧ H d = none ∧ E (.ref CF) (some d) (upd (del H2 a) d (.xd fs))) (fun _ _ _ => False) := by
  refine ⟨by show 2 ≤ 1000; decide, fun a ha => ⟨a, c, p, rfl, upd_same, fun d hd hne => ⟨rfl, d, xdF c p, ?_, upd_same, ?_, h d _ (fun b o e => ?_) ?_ upd_same⟩⟩⟩
  · rw [upd_ne (Ne.symm hne), upd_same]
  · rw [upd_ne hne] at hd
    exact hd
  · have hb : b ≠ a := ne_of_none e ha
    have hbd : b ≠ d := by
      rw [upd_ne hne] at hd
      exact ne_of_none e hd
    rw [upd_ne hbd, del_ne hb, upd_ne hbd, upd_ne hb, upd_ne hbd, upd_ne hb]
    exact e
  · rw [upd_ne hne] at hd
    exact hd
section
variable {X : Cx} {W : WX} {CF : Addr} {e1 e2 : Expr} {ta : TA} {p pos rpos : Pos}
theorem ps_fault (T : FaultT X.K X.mg CF) (D : FaultD X.prog X.w X.K X.mg X.base CF (spFault CF)) (hr : Room 2 X.A) (tk : Takes X W) (ha : PA X [e1, e2] ta) (hc : X.calm = true := by rfl) (hg : Gl X "Fault" := by rfl)
    (he : starEach (e1 :: [e2]) X.env = (false, eval e1 X.env) :: starEach [e2] X.env := by rfl) (hpl : (backTo pos (starEach [e2] X.env)).any (·.1) = false := by rfl) :
    PS X (.Raise (some (.Call (.Name "Fault" p) [e1, e2] [] pos)) none rpos) (fun _ σ H => tMkO CF (spFault CF) [] ta σ H fun cls d H' => W cls d σ H') := by
  obtain ⟨f, fd, F, hi, ht, hb⟩ := D.ex
  exact ps_raise hc tk (pmk_oex T.oex hi ht F hr hb .nil pass0 hg T.gl ha (by decide) he hpl)
end
/-! ### number_of -/
theorem decimal_snoc (b : Bytes) (c : UInt8) : decimal (b ++ [c]) = 10 * decimal b + (c.toNat - 48) := by
  unfold decimal
  rw [List.foldl_append]
  rfl
abbrev sNumberOf : Stmt := top 19
theorem scNumberOf : FnScope ["octets", "found", "octet"] ["octets"] (defScope sNumberOf) := ⟨rfl, rfl, rfl, by decide +kernel, rfl, by decide +kernel, by decide +kernel⟩
def spNumberOf (K : PySem.W.Frag) : Sp := fun vs H Q _ => ∃ (a : Addr) (b : Bytes), vs = [.ref a] ∧ SqL K H a (ofB b) ∧ (∀ c ∈ b, isDigit c = true) ∧ Q (.int (decimal b : Nat)) H
section
variable {P : Program} {w : World} {K : PySem.W.Frag} {mg : Str → Option Value} {base : Heap}
theorem digit_le {c : UInt8} (h : isDigit c = true) : 48 ≤ c.toNat := by
  have : 48 ≤ c.toNat ∧ c.toNat ≤ 57 := by simpa [isDigit] using h
  exact this.1
theorem ok_number_of (F : GF K mg "number_of" sNumberOf) : GD P w K mg base CX0 1 "number_of" ["octets"] (spNumberOf K) := by
  obtain ⟨f, fd, F, hm⟩ := F
  refine ⟨f, fd, F.ok scNumberOf (fun vs H Q E h => ?_) (fun cdv A outer s H vs Q E hr h => ⟨_, pss_cons (ps_set (i := 1) scNumberOf.nd rfl (Or.inl rfl) pe_int)
      (pss_cons (ps_for PassesOwn.never rfl (pi_list (pv 0)) (pg_name (i := 2) scNumberOf.nd rfl (Or.inl rfl))
        (pss_one (ps_set (i := 1) scNumberOf.nd rfl (Or.inl rfl) (pe_op op_sub (pe_op op_add (pe_op op_mul pe_int (pv 1)) (pv 2)) pe_int))))
      (pss_one (ps_ret (pv 1)))), ?_⟩), hm, F.kp, F.binds fun _ _ _ _ _ _ us hl => match us, hl with | [_], _ => rfl⟩
  · obtain ⟨a, b, rfl, _⟩ := h
    rfl
  · obtain ⟨a, b, rfl, hS, hb, q⟩ := h
    refine ⟨_, rfl, a, rfl, ⟨_, hS⟩, for_list (K := K) (a := a) (xs := ofB b) (fun i σ H' => H' = H ∧ ∃ v : Option V, σ = [some (.ref a), some (.int (decimal (b.take i) : Nat)), v]) ⟨rfl, none, rfl⟩ (fun i σ H' _ ⟨e, _⟩ => e ▸ hS) ?_ ?_⟩
    · rintro i y σ H' hi ⟨rfl, v, rfl⟩
      have hil : i < b.length := by
        have := (List.getElem?_eq_some_iff.mp hi).1
        rwa [ofB_len] at this
      have hg : b[i]? = some b[i] := List.getElem?_eq_getElem hil
      rw [ofB_get hg] at hi
      cases hi
      refine ⟨_, rfl, _, _, rfl, rfl, .inl ⟨by decide, by decide⟩, _, rfl, _, _, rfl, rfl, _, _, rfl, rfl, rfl, some (.int (b[i].toNat : Int)), ?_⟩
      have hd := digit_le (hb _ (List.getElem_mem hil))
      have e : 10 * ((decimal (b.take i) : Nat) : Int) + (b[i].toNat : Int) - 48 = ((decimal (b.take (i + 1)) : Nat) : Int) := by
        rw [take_snoc hg, decimal_snoc]
        omega
      show [_, some (V.int (10 * ((decimal (b.take i) : Nat) : Int) + (b[i].toNat : Int) - 48)), _] = _
      rw [e]
    · rintro σ H' ⟨rfl, v, rfl⟩
      rw [ofB_len, List.take_length]
      exact ⟨_, rfl, q⟩
end
end Lsd
/-! Lexing: the specification by steps; how tokens lie in the heap -/
namespace Lsd
open PySem PySem.Spec PyProof.Rows L2
open VasedBase hiding Tok
theorem numberOf_ne {l : Bytes} {n : Nat} (h : numberOf l = some n) : 1 ≤ l.length := by
  unfold numberOf at h
  split at h
  · cases h
  · rename_i q
    rcases l with _ | ⟨x, r⟩
    · exact absurd (.inl rfl) q
    · simp
theorem token_pos {b : UInt8} {r : Bytes} {x : VasedBase.Tok × Nat} (h : token (b :: r) = some x) : 1 ≤ x.2 := by
  unfold token at h
  dsimp only at h
  split at h
  · rename_i hl
    split at h
    · cases h
    · cases h
      show 1 ≤ ((b :: r).takeWhile isLetter).length
      rw [List.takeWhile_cons_of_pos hl]
      simp
  · split at h
    · cases q : numberOf ((b :: r).takeWhile isDigit) with
      | none => rw [q] at h; cases h
      | some n =>
        rw [q] at h
        cases h
        exact numberOf_ne q
    · split at h
      · cases h
        exact Nat.le_refl 1
      · cases h
theorem lex_eq : ∀ (n m p : Nat) (l : Bytes), l.length < n → l.length < m → lex n p l = lex m p l
  | 0, _, _, _, h, _ => absurd h (Nat.not_lt_zero _)
  | _ + 1, 0, _, _, _, h => absurd h (Nat.not_lt_zero _)
  | n + 1, m + 1, p, [], _, _ => rfl
  | n + 1, m + 1, p, b :: r, h1, h2 => by
    have h1 : r.length + 1 < n + 1 := h1
    have h2 : r.length + 1 < m + 1 := h2
    show (if isBlank b = true then lex n (p + 1) r else if (b == 35) = true then lex n (p + 1 + (r.takeWhile (· != 10)).length) (r.dropWhile (· != 10)) else _) = (if isBlank b = true then lex m (p + 1) r else if (b == 35) = true then lex m (p + 1 + (r.takeWhile (· != 10)).length) (r.dropWhile (· != 10)) else _)
    have hd : (r.dropWhile (· != 10)).length ≤ r.length := (List.dropWhile_suffix _).length_le
    rw [lex_eq n m (p + 1) r (by omega) (by omega), lex_eq n m _ (r.dropWhile (· != 10)) (by omega) (by omega)]
    split
    · rfl
    · split
      · rfl
      · cases q : token (b :: r) with
        | none => rfl
        | some x =>
          have hx := token_pos q
          have hz : ((b :: r).drop x.2).length ≤ r.length := by
            rw [List.length_drop, List.length_cons]
            omega
          show (lex n (p + x.2) ((b :: r).drop x.2)).map _ = (lex m (p + x.2) ((b :: r).drop x.2)).map _
          rw [lex_eq n m _ _ (by omega) (by omega)]
/-- the tokens of what stands from a place on -/
def lexA (p : Nat) (l : Bytes) : Except VasedBase.Fault Toks := lex (l.length + 1) p l
theorem lexA_nil (p : Nat) : lexA p [] = .ok [⟨p, .last⟩] := rfl
theorem lexA_blank {p : Nat} {b : UInt8} {r : Bytes} (h : isBlank b = true) : lexA p (b :: r) = lexA (p + 1) r := by
  show (if isBlank b = true then lex (r.length + 1) (p + 1) r else _) = _
  rw [if_pos h]
  rfl
theorem lexA_remark {p : Nat} {b : UInt8} {r : Bytes} (h : isBlank b = false) (h2 : (b == 35) = true) : lexA p (b :: r) = lexA (p + 1 + (r.takeWhile (· != 10)).length) (r.dropWhile (· != 10)) := by
  show (if isBlank b = true then _ else if (b == 35) = true then lex (r.length + 1) (p + 1 + (r.takeWhile (· != 10)).length) (r.dropWhile (· != 10)) else _) = _
  rw [if_neg (by rw [h]; decide), if_pos h2]
  exact lex_eq _ _ _ _ (Nat.lt_succ_of_le (List.dropWhile_suffix _).length_le) (Nat.lt_succ_self _)
theorem lexA_none {p : Nat} {b : UInt8} {r : Bytes} (h : isBlank b = false) (h2 : (b == 35) = false) (q : token (b :: r) = none) : lexA p (b :: r) = .error ⟨2, p⟩ := by
  show (if isBlank b = true then _ else if (b == 35) = true then _ else match token (b :: r) with | none => _ | some x => _) = _
  rw [if_neg (by rw [h]; decide), if_neg (by rw [h2]; decide), q]
theorem lexA_some {p : Nat} {b : UInt8} {r : Bytes} {x : VasedBase.Tok × Nat} (h : isBlank b = false) (h2 : (b == 35) = false) (q : token (b :: r) = some x) : lexA p (b :: r) = (lexA (p + x.2) ((b :: r).drop x.2)).map fun l => (⟨p, x.1⟩ : PTok) :: l := by
  show (if isBlank b = true then _ else if (b == 35) = true then _ else match token (b :: r) with | none => _ | some x => (lex (r.length + 1) (p + x.2) ((b :: r).drop x.2)).map fun l => (⟨p, x.1⟩ : PTok) :: l) = _
  rw [if_neg (by rw [h]; decide), if_neg (by rw [h2]; decide), q]
  have hx := token_pos q
  have hz : ((b :: r).drop x.2).length ≤ r.length := by
    rw [List.length_drop, List.length_cons]
    omega
  show (lex (r.length + 1) _ _).map _ = _
  rw [lex_eq _ (((b :: r).drop x.2).length + 1) _ _ (by omega) (by omega)]
  rfl
theorem drop_cons {b : Bytes} {i : Nat} {c : UInt8} (h : b[i]? = some c) : b.drop i = c :: b.drop (i + 1) := by
  have hl : i < b.length := (List.getElem?_eq_some_iff.mp h).1
  rw [List.drop_eq_getElem_cons hl]
  congr 1
  exact (List.getElem?_eq_some_iff.mp h).2
theorem drop_takeWhile (f : UInt8 → Bool) : ∀ l : Bytes, l.drop (l.takeWhile f).length = l.dropWhile f
  | [] => rfl
  | c :: r => by
    cases e : f c with
    | true => rw [List.takeWhile_cons_of_pos e, List.dropWhile_cons_of_pos e, List.length_cons, List.drop_succ_cons, drop_takeWhile f r]
    | false => rw [List.takeWhile_cons_of_neg (by simp [e]), List.dropWhile_cons_of_neg (by simp [e])] <;> rfl
theorem take_takeWhile (f : UInt8 → Bool) : ∀ l : Bytes, l.take (l.takeWhile f).length = l.takeWhile f
  | [] => rfl
  | c :: r => by
    cases e : f c with
    | true => rw [List.takeWhile_cons_of_pos e, List.length_cons, List.take_succ_cons, take_takeWhile f r]
    | false => rw [List.takeWhile_cons_of_neg (by simp [e])] <;> rfl
theorem takeWhile_all (f : UInt8 → Bool) : ∀ (l : Bytes), ∀ c ∈ l.takeWhile f, f c = true
  | [], c, h => absurd h (by simp)
  | d :: r, c, h => by
    cases e : f d with
    | true =>
      rw [List.takeWhile_cons_of_pos e] at h
      rcases List.mem_cons.mp h with z | z
      · rw [z]; exact e
      · exact takeWhile_all f r c z
    | false =>
      rw [List.takeWhile_cons_of_neg (by simp [e])] at h
      exact absurd h (by simp)
/-- a slice from i of n -/
theorem cutV_of {b : Bytes} {i n : Nat} (h : i + n ≤ b.length) : cutV (ofB b) (some (i : Int)) (some ((i + n : Nat) : Int)) = ofB ((b.drop i).take n) := by
  unfold cutV
  rw [HT.sIx_nat, HT.sIx_nat, ofB_len, Nat.min_eq_left h, Nat.min_eq_left (by omega), Nat.add_sub_cancel_left]
  unfold ofB
  rw [← List.map_drop, ← List.map_take]
/-! ### tokens in the heap -/
/-- the token t as the value v; a word's text has the token r of its own -/
def TokAt (K : PySem.W.Frag) (H : Hp) (v : V) (t : PTok) (r : Nat) : Prop := match t.tok with
  | .name b => ∃ p us, v = .ref p ∧ FrzT H p [.str "word", .str (sT b), .int (t.place : Int)] us ∧ us[1]? = some (.str (sT b) r)
  | .num n => ∃ p, v = .ref p ∧ SqT K H p [.str "number", .int (n : Int), .int (t.place : Int)]
  | .sign _ => ∃ p, v = .ref p ∧ SqT K H p [.str "sign", .str ";", .int (t.place : Int)]
  | .last => ∃ p, v = .ref p ∧ SqT K H p [.str "end", .str "", .int (t.place : Int)]
def isName (t : PTok) : Prop := ∃ b, t.tok = .name b
/-- tuples, frozen or not, stand for ever -/
def KeepT (H H' : Hp) : Prop := (∀ b xs, H b = some (.tup xs) → H' b = some (.tup xs)) ∧ ∀ b o u, H b = some (.frz o u) → H' b = some (.frz o u)
theorem KeepT.refl (H : Hp) : KeepT H H := ⟨fun _ _ h => h, fun _ _ _ h => h⟩
theorem KeepT.trans {H H1 H2 : Hp} (a : KeepT H H1) (b : KeepT H1 H2) : KeepT H H2 := ⟨fun c xs h => b.1 c xs (a.1 c xs h), fun c o u h => b.2 c o u (a.2 c o u h)⟩
theorem Same.keepT {H H' : Hp} (h : Same H H') : KeepT H H' := ⟨fun b xs e => h b _ e, fun b o u e => h b _ e⟩
theorem KeepT.upd {H : Hp} {p : Addr} {o : HO} (h : ∀ xs, H p ≠ some (.tup xs)) (h2 : ∀ ob u, H p ≠ some (.frz ob u)) : KeepT H (L2.upd H p o) :=
  ⟨fun b xs e => by rw [upd_ne (fun z => h xs (by rw [← z]; exact e))]; exact e, fun b ob u e => by rw [upd_ne (fun z => h2 ob u (by rw [← z]; exact e))]; exact e⟩
theorem KeepT.updl {H : Hp} {p : Addr} {o : HO} {xs : List V} (h : H p = some (.lst xs)) : KeepT H (L2.upd H p o) := KeepT.upd (fun ys q => by rw [h] at q; cases q) (fun ob u q => by rw [h] at q; cases q)
theorem KeepT.updi {H : Hp} {p : Addr} {o : HO} {C dx : Addr} {fs : List (Str × V)} (h : H p = some (.ins C dx fs)) : KeepT H (L2.upd H p o) := KeepT.upd (fun ys q => by rw [h] at q; cases q) (fun ob u q => by rw [h] at q; cases q)
theorem KeepT.updn {H : Hp} {p : Addr} {o : HO} (h : H p = none) : KeepT H (L2.upd H p o) := Same.keepT (Same.upd h)
theorem KeepT.sq {K : PySem.W.Frag} {H H' : Hp} {a : Addr} {xs : List V} (e : KeepT H H') (h : SqT K H a xs) : SqT K H' a xs := by
  rcases h with (h | ⟨o, h⟩) | h
  · exact .inl (.inl (e.1 _ _ h))
  · exact .inl (.inr ⟨o, e.2 _ _ _ h⟩)
  · exact .inr h
theorem KeepT.frz {H H' : Hp} {a : Addr} {xs : List V} {us : List Value} (e : KeepT H H') (h : FrzT H a xs us) : FrzT H' a xs us := by
  obtain ⟨o, k, h, r⟩ := h
  exact ⟨o, k, e.2 _ _ _ h, r⟩
theorem TokAt.keep {K : PySem.W.Frag} {H H' : Hp} {v : V} {t : PTok} {r : Nat} (h : TokAt K H v t r) (e : KeepT H H') : TokAt K H' v t r := by
  obtain ⟨p, tk⟩ := t
  cases tk with
  | name b => obtain ⟨q, us, ev, hf, hr⟩ := h; exact ⟨q, us, ev, e.frz hf, hr⟩
  | num n => obtain ⟨q, ev, hs⟩ := h; exact ⟨q, ev, e.sq hs⟩
  | sign c => obtain ⟨q, ev, hs⟩ := h; exact ⟨q, ev, e.sq hs⟩
  | last => obtain ⟨q, ev, hs⟩ := h; exact ⟨q, ev, e.sq hs⟩
/-- ranks: words' own tokens rise, from 1 to below n -/
structure Ranks (l : Toks) (rk : List Nat) (n : Nat) : Prop where
  len : rk.length = l.length
  low : ∀ i t, l[i]? = some t → isName t → 1 ≤ rk.getD i 0 ∧ rk.getD i 0 < n
  up : ∀ i j t u, i < j → l[i]? = some t → l[j]? = some u → isName t → isName u → rk.getD i 0 < rk.getD j 0
theorem Ranks.nil (n : Nat) : Ranks [] [] n := ⟨rfl, fun i t h => by simp at h, fun i j t u _ h => by simp at h⟩
theorem getD_snoc_l {l : List Nat} {r i : Nat} (h : i < l.length) : (l ++ [r]).getD i 0 = l.getD i 0 := by
  rw [List.getD_eq_getElem?_getD, List.getD_eq_getElem?_getD, List.getElem?_append_left h]
theorem getD_snoc_r {l : List Nat} {r : Nat} : (l ++ [r]).getD l.length 0 = r := by
  rw [List.getD_eq_getElem?_getD, List.getElem?_append_right (Nat.le_refl _)]
  simp
theorem Ranks.snoc {l : Toks} {rk : List Nat} {n m r : Nat} {t : PTok} (h : Ranks l rk n) (h1 : 1 ≤ n) (hm : n ≤ m) (ht : isName t → n ≤ r ∧ r < m) : Ranks (l ++ [t]) (rk ++ [r]) m := by
  have get : ∀ i u, (l ++ [t])[i]? = some u → (i < l.length ∧ l[i]? = some u ∧ (rk ++ [r]).getD i 0 = rk.getD i 0) ∨ (i = l.length ∧ u = t ∧ (rk ++ [r]).getD i 0 = r) := fun i u q => by
    rcases Nat.lt_or_ge i l.length with hi | hi
    · rw [List.getElem?_append_left hi] at q
      exact .inl ⟨hi, q, getD_snoc_l (by rw [h.len]; exact hi)⟩
    · rw [List.getElem?_append_right hi] at q
      have e : i = l.length := by
        have := (List.getElem?_eq_some_iff.mp q).1
        simp at this
        omega
      subst e
      simp at q
      refine .inr ⟨rfl, q.symm, ?_⟩
      rw [← h.len]
      exact getD_snoc_r
  refine ⟨by rw [List.length_append, List.length_append, h.len] <;> rfl, fun i u q hu => ?_, fun i j u v hij q1 q2 hu hv => ?_⟩
  · rcases get i u q with ⟨_, q', e⟩ | ⟨_, rfl, e⟩
    · rw [e]
      obtain ⟨a, b⟩ := h.low i u q' hu
      exact ⟨a, by omega⟩
    · rw [e]
      obtain ⟨a, b⟩ := ht hu
      exact ⟨by omega, b⟩
  · rcases get i u q1 with ⟨l1, q1', e1⟩ | ⟨l1, rfl, e1⟩
    · rcases get j v q2 with ⟨_, q2', e2⟩ | ⟨_, rfl, e2⟩
      · rw [e1, e2]
        exact h.up i j u v hij q1' q2' hu hv
      · rw [e1, e2]
        have a := (h.low i u q1' hu).2
        have b := (ht hv).1
        omega
    · rcases get j v q2 with ⟨l2, _, _⟩ | ⟨l2, _, _⟩ <;> omega
/-- the values are the tokens -/
def ToksV (K : PySem.W.Frag) (H : Hp) (vs : List V) (l : Toks) (rk : List Nat) : Prop := vs.length = l.length ∧ ∀ i t, l[i]? = some t → ∃ v, vs[i]? = some v ∧ TokAt K H v t (rk.getD i 0)
theorem ToksV.keep {K : PySem.W.Frag} {H H' : Hp} {vs : List V} {l : Toks} {rk : List Nat} (h : ToksV K H vs l rk) (e : KeepT H H') : ToksV K H' vs l rk :=
  ⟨h.1, fun i t q => let ⟨v, a, b⟩ := h.2 i t q; ⟨v, a, b.keep e⟩⟩
theorem ToksV.nil (K : PySem.W.Frag) (H : Hp) : ToksV K H [] [] [] := ⟨rfl, fun i t q => by simp at q⟩
theorem ToksV.snoc {K : PySem.W.Frag} {H : Hp} {vs : List V} {l : Toks} {rk : List Nat} {v : V} {t : PTok} {r : Nat} (hr : rk.length = l.length) (h : ToksV K H vs l rk) (ht : TokAt K H v t r) : ToksV K H (vs ++ [v]) (l ++ [t]) (rk ++ [r]) := by
  refine ⟨by rw [List.length_append, List.length_append, h.1] <;> rfl, fun i u q => ?_⟩
  rcases Nat.lt_or_ge i l.length with hi | hi
  · rw [List.getElem?_append_left hi] at q
    obtain ⟨w, a, b⟩ := h.2 i u q
    exact ⟨w, by rw [List.getElem?_append_left (by rw [h.1]; exact hi)]; exact a, by rw [getD_snoc_l (by rw [hr]; exact hi)]; exact b⟩
  · rw [List.getElem?_append_right hi] at q
    have e : i = l.length := by
      have := (List.getElem?_eq_some_iff.mp q).1
      simp at this
      omega
    subst e
    simp at q
    subst q
    refine ⟨v, by rw [← h.1]; simp, ?_⟩
    rw [← hr, getD_snoc_r]
    exact ht
end Lsd
/-! word_at, number_at -/
namespace Lsd
open PySem PySem.Spec PyProof.Rows L2
open VasedBase hiding Tok
theorem token_letter {c : UInt8} {r : Bytes} (h : isLetter c = true) : token (c :: r) = if 8 < ((c :: r).takeWhile isLetter).length then none else some (.name ((c :: r).takeWhile isLetter), ((c :: r).takeWhile isLetter).length) := by
  show (if isLetter c = true then _ else _) = _
  rw [if_pos h]
  rfl
/-- no number stands there -/
def noNum (c : UInt8) (w : Bytes) : Prop := (c = 48 ∧ 1 < w.length) ∨ 10 < w.length ∨ 1000000000 < decimal w
theorem token_digit {c : UInt8} {r : Bytes} (h1 : isLetter c = false) (h : isDigit c = true) : (noNum c ((c :: r).takeWhile isDigit) → token (c :: r) = none) ∧
    (¬ noNum c ((c :: r).takeWhile isDigit) → token (c :: r) = some (.num (decimal ((c :: r).takeWhile isDigit)), ((c :: r).takeWhile isDigit).length)) := by
  have e : token (c :: r) = (numberOf ((c :: r).takeWhile isDigit)).map fun n => (.num n, ((c :: r).takeWhile isDigit).length) := by
    show (if isLetter c = true then _ else if isDigit c = true then _ else _) = _
    rw [if_neg (by rw [h1]; decide), if_pos h]
  have hd : ((c :: r).takeWhile isDigit).head? = some c := by rw [List.takeWhile_cons_of_pos h] <;> rfl
  have hn : (c :: r).takeWhile isDigit ≠ [] := by rw [List.takeWhile_cons_of_pos h]; simp
  generalize (c :: r).takeWhile isDigit = w at *
  constructor
  · intro z
    rw [e]
    unfold numberOf
    rw [if_pos]
    · rfl
    · rcases z with ⟨a, b⟩ | z | z
      · exact .inr (.inr (.inl ⟨b, by rw [hd, a]⟩))
      · exact .inr (.inl z)
      · exact .inr (.inr (.inr z))
  · intro z
    rw [e]
    unfold numberOf
    rw [if_neg]
    · rfl
    · rintro (q | q | ⟨q, q2⟩ | q)
      · exact hn q
      · exact z (.inr (.inl q))
      · rw [hd] at q2
        exact z (.inl ⟨Option.some.inj q2, q⟩)
      · exact z (.inr (.inr q))
theorem token_other {c : UInt8} {r : Bytes} (h1 : isLetter c = false) (h : isDigit c = false) : (c ≠ 59 → token (c :: r) = none) ∧ (c = 59 → token (c :: r) = some (.sign 59, 1)) := by
  have e : token (c :: r) = if SIGNS.contains c = true then some (.sign c.toNat, 1) else none := by
    show (if isLetter c = true then _ else if isDigit c = true then _ else _) = _
    rw [if_neg (by rw [h1]; decide), if_neg (by rw [h]; decide)]
  constructor
  · intro z
    rw [e, if_neg]
    simpa [SIGNS] using z
  · intro z
    subst z
    rw [e]
    rfl
/-- a token and where it ends come back, as a pair -/
def TokEnd (K : PySem.W.Frag) (H : Hp) (Q : VKN) (n : Nat) (t : PTok) (e : Nat) : Prop := ∀ p q r m H', Same H H' → SqT K H' q [.ref p, .int (e : Int)] → TokAt K H' (.ref p) t r → n ≤ m → (isName t → n ≤ r ∧ r < m) → Q m (.ref q) (.ref q) H'
def spTokenAt (K : PySem.W.Frag) (CF : Addr) (f : UInt8 → Bool) : SpN := fun n vs H Q E => ∃ (a : Addr) (b : Bytes) (i : Nat) (c : UInt8), vs = [.ref a, .int (i : Int)] ∧ SqL K H a (ofB b) ∧ b.length ≤ 10000 ∧ b[i]? = some c ∧ f c = true ∧
  (token (b.drop i) = none → FaultE CF E H 2 i) ∧ ∀ x, token (b.drop i) = some x → TokEnd K H Q n ⟨i, x.1⟩ (i + x.2)
abbrev sWordAt : Stmt := top 18
abbrev sNumberAt : Stmt := top 20
theorem scWordAt : FnScope ["script", "at", "end"] ["script", "at"] (defScope sWordAt) := ⟨rfl, rfl, rfl, by decide +kernel, rfl, by decide +kernel, by decide +kernel⟩
theorem scNumberAt : FnScope ["script", "at", "end", "is_needless"] ["script", "at"] (defScope sNumberAt) := ⟨rfl, rfl, rfl, by decide +kernel, rfl, by decide +kernel, by decide +kernel⟩
theorem FaultE.of {CF : Addr} {E : XK} {H H1 : Hp} {c p : Int} (h : FaultE CF E H c p) (s : Same H H1) : FaultE CF E H1 c p := fun d H' s' hn e => h d H' (s.trans s') (s.free hn) e
theorem runEnd_drop (f : UInt8 → Bool) (b : Bytes) (i : Nat) : runEnd f b i = i + ((b.drop i).takeWhile f).length := rfl
section
variable {P : Program} {w : World} {K : PySem.W.Frag} {mg : Str → Option Value} {base : Heap} {CF : Addr}
theorem ok_word_at (F : GF K mg "word_at" sWordAt) (T : FaultT K mg CF) (FD : FaultD P w K mg base CF (spFault CF)) (D1 : GD P w K mg base CX0 2 "end_of_word" ["script", "at"] (spWalk K isLetter)) (D2 : GN P w K mg base CX0 1 "letters_of" ["octets"] (spLetters K))
    (cW : GC mg "LONGEST_WORD" (.int 8)) : GN P w K mg base (L2.CX P w) 3 "word_at" ["script", "at"] (spTokenAt K CF isLetter) := by
  obtain ⟨f, fd, F, hm⟩ := F
  refine ⟨f, fd, fun_n F scWordAt (fun n vs H Q E h => ?_) (fun cdv A outer s H vs n Q E hr h => ⟨_, pssn_cons (psn_of (ps_set (i := 2) scWordAt.nd rfl (Or.inl rfl) (pe_g D1 hr pass0 (pa_cons (pv 0) (pa_cons (pv 1) pa_nil)))))
      (pssn_cons (psn_of (ps_if (pt_cmpR op_gt (pe_op op_sub (pv 2) (pv 1)) (pe_gc cW) (nomark _)) (pss_one (ps_fault T FD hr (takes_of rfl rfl rfl rfl) (pa_cons pe_int (pa_cons (pv 1) pa_nil)))) pss_nil))
      (pssn_one (psn_ret (pen_tup (pan_cons (pen_tup (pan_cons pen_str (pan_cons (pen_g D2 (hr.mono (by decide)) pass0 (pan_of (pa_cons (pe_slice sl_list (pv 0) (po_some (pv 1)) (po_some (pv 2))) pa_nil))) (pan_cons (pen_of (pv 1)) pan_nil))))
        (pan_cons (pen_of (pv 2)) pan_nil)))))), ?_⟩), hm, F.kp, F.binds fun _ _ _ _ _ _ us hl => match us, hl with | [_, _], _ => rfl⟩
  · obtain ⟨a, b, i, c, rfl, _⟩ := h
    rfl
  · obtain ⟨a, b, i, c, rfl, hS, hz, hc, hf, q0, q1⟩ := h
    have hi : i < b.length := (List.getElem?_eq_some_iff.mp hc).1
    have ed := drop_cons hc
    have tk := token_letter (r := b.drop (i + 1)) hf
    rw [← ed] at tk
    have hle := (List.takeWhile_prefix isLetter (l := b.drop i)).length_le
    rw [List.length_drop] at hle
    refine ⟨_, rfl, _, rfl, a, b, i, rfl, hS, ?_⟩
    rw [runEnd_drop]
    generalize hw : (b.drop i).takeWhile isLetter = w at *
    refine ⟨_, rfl, _, rfl, _, _, rfl, rfl, _, _, rfl, rfl, _, rfl, ?_⟩
    have es : (((i + w.length : Nat) : Int) - (i : Int)) = (w.length : Int) := by omega
    refine ite2 (fun c1 => ?_) fun c1 => ?_
    · have h8 : (8 : Int) < ((i + w.length : Nat) : Int) - (i : Int) := by simpa using c1
      rw [if_pos (by omega)] at tk
      exact ⟨_, rfl, fault_tail (q0 tk)⟩
    · have h8 : ¬ (8 : Int) < ((i + w.length : Nat) : Int) - (i : Int) := by simpa using c1
      rw [if_neg (by omega)] at tk
      intro t ht
      refine ⟨_, rfl, _, rfl, _, rfl, _, rfl, _, rfl, a, ofB b, rfl, hS, fun p1 hp1 us r1 => ?_⟩
      rw [cutV_of (by omega), ← hw, take_takeWhile] at *
      refine ⟨p1, _, rfl, SqL.of upd_same, takeWhile_all _ _, by rw [hw]; omega, fun t2 ht2 => ?_⟩
      refine ⟨_, rfl, fun u3 r3 => ⟨by show 3 ≤ sizeLine; decide, fun p H' hp hfz hk => ?_⟩⟩
      refine ⟨_, rfl, fun u4 r4 => ⟨by show 2 ≤ sizeLine; decide, fun q H2 hq hfq hk2 => ?_⟩⟩
      have s1 : Same H H' := fun x o e => hk x o (by rw [upd_ne (ne_of_none e hp1)]; exact e)
      rw [hw] at tk
      refine q1 _ tk p q t2 (t2 + 1) H2 (s1.trans hk2) hfq.sq ⟨p, _, rfl, (Same.keepT hk2).frz hfz, rfl⟩ (by omega) fun _ => ⟨by omega, by omega⟩
end
end Lsd
/-! number_at, token_at -/
namespace Lsd
open PySem PySem.Spec PyProof.Rows L2
open VasedBase hiding Tok
/-- a token and where it ends, not counted -/
def TokEnd0 (K : PySem.W.Frag) (H : Hp) (Q : VK) (t : PTok) (e : Nat) : Prop := ∀ p q r H', Same H H' → SqT K H' q [.ref p, .int (e : Int)] → TokAt K H' (.ref p) t r → Q (.ref q) H'
def spNumberAt (K : PySem.W.Frag) (CF : Addr) : Sp := fun vs H Q E => ∃ (a : Addr) (b : Bytes) (i : Nat) (c : UInt8), vs = [.ref a, .int (i : Int)] ∧ SqL K H a (ofB b) ∧ b.length ≤ 10000 ∧ b[i]? = some c ∧ isLetter c = false ∧ isDigit c = true ∧
  (token (b.drop i) = none → FaultE CF E H 2 i) ∧ ∀ x, token (b.drop i) = some x → TokEnd0 K H Q ⟨i, x.1⟩ (i + x.2)
theorem eq48 (c : UInt8) : decide (V.int (c.toNat : Int) = V.int 48) = decide (c = 48) := by
  rw [Bool.eq_iff_iff]
  simp only [decide_eq_true_eq, V.int.injEq]
  exact ⟨fun h => UInt8.toNat_inj.mp (by show c.toNat = 48; omega), fun h => by subst h; rfl⟩
/-- and, or whose parts are known -/
theorem andV {ta tb : TE} {σ : L2.St} {H : Hp} {c d : Bool} {Q : VK} (ha : ∀ R : VK, R (.bl c) H → ta σ H R) (hb : c = true → ∀ R : VK, R (.bl d) H → tb σ H R) (q : Q (.bl (c && d)) H) : tAndV ta tb σ H Q := by
  refine ha _ ⟨c, rfl, ?_⟩
  cases c with
  | true => exact iteT (hb rfl _ q)
  | false => exact iteF q
theorem andT {ta tb : TT} {σ : L2.St} {H : Hp} {c d : Bool} {Q : Bool → Hp → Prop} (ha : ∀ R : Bool → Hp → Prop, R c H → ta σ H R) (hb : c = true → ∀ R : Bool → Hp → Prop, R d H → tb σ H R) (q : Q (c && d) H) : tAnd ta tb σ H Q := by
  refine ha _ ?_
  cases c with
  | true => exact iteT (hb rfl _ q)
  | false => exact iteF q
theorem orT {ta tb : TT} {σ : L2.St} {H : Hp} {c d : Bool} {Q : Bool → Hp → Prop} (ha : ∀ R : Bool → Hp → Prop, R c H → ta σ H R) (hb : c = false → ∀ R : Bool → Hp → Prop, R d H → tb σ H R) (q : Q (c || d) H) : tOr ta tb σ H Q := by
  refine ha _ ?_
  cases c with
  | true => exact iteT q
  | false => exact iteF (hb rfl _ q)
/-- .. where new objects may be laid on the way -/
theorem orS {ta tb : TT} {σ : L2.St} {H : Hp} {c d : Bool} {Q : Bool → Hp → Prop} (ha : ∀ R : Bool → Hp → Prop, R c H → ta σ H R) (hb : c = false → ∀ R : Bool → Hp → Prop, (∀ H1, Same H H1 → R d H1) → tb σ H R) (q : ∀ H1, Same H H1 → Q (c || d) H1) : tOr ta tb σ H Q := by
  refine ha _ ?_
  cases c with
  | true => exact iteT (q H (Same.refl H))
  | false => exact iteF (hb rfl _ q)
section
variable {P : Program} {w : World} {K : PySem.W.Frag} {mg : Str → Option Value} {base : Heap} {CF : Addr}
theorem ok_number_at (F : GF K mg "number_at" sNumberAt) (T : FaultT K mg CF) (FD : FaultD P w K mg base CF (spFault CF)) (D1 : GD P w K mg base CX0 2 "end_of_number" ["script", "at"] (spWalk K isDigit)) (D2 : GD P w K mg base CX0 1 "number_of" ["octets"] (spNumberOf K))
    (cF : GC mg "MOST_FIGURES" (.int 10)) (cG : GC mg "GREATEST" (.int 1000000000)) : GD P w K mg base (L2.CX P w) 3 "number_at" ["script", "at"] (spNumberAt K CF) := by
  obtain ⟨f, fd, F, hm⟩ := F
  refine ⟨f, fd, F.okX scNumberAt (fun vs H Q E h => ?_) (fun cdv A outer s H vs Q E hr h => ⟨_, pss_cons (ps_set (i := 2) scNumberAt.nd rfl (Or.inl rfl) (pe_g D1 hr pass0 (pa_cons (pv 0) (pa_cons (pv 1) pa_nil))))
      (pss_cons (ps_set (i := 3) scNumberAt.nd rfl (Or.inl rfl) (pe_and (pe_cmpR op_eq (pe_ix ix_list (pv 0) (pv 1) (fun _ _ => rfl)) pe_int (nomark _)) (pe_one (pe_cmpR op_gt (pe_op op_sub (pv 2) (pv 1)) pe_int (nomark _)))))
      (pss_cons (ps_if (PW.pt (pw_or (pt_val (pv 3)) (pw_or (pt_cmpR op_gt (pe_op op_sub (pv 2) (pv 1)) (pe_gc cF) (nomark _)) (pw_or1 (pt_cmpR op_gt (pe_g D2 (hr.mono (by decide)) pass0 (pa_cons (pe_slice sl_list (pv 0) (po_some (pv 1)) (po_some (pv 2))) pa_nil)) (pe_gc cG) (nomark _))))))
          (pss_one (ps_fault T FD hr (takes_of rfl rfl rfl rfl) (pa_cons pe_int (pa_cons (pv 1) pa_nil)))) pss_nil)
      (pss_one (ps_ret (pe_tup (pa_cons (pe_tup (pa_cons pe_str (pa_cons (pe_g D2 (hr.mono (by decide)) pass0 (pa_cons (pe_slice sl_list (pv 0) (po_some (pv 1)) (po_some (pv 2))) pa_nil)) (pa_cons (pv 1) pa_nil)))) (pa_cons (pv 2) pa_nil))))))), ?_⟩),
    hm, F.kp, F.binds fun _ _ _ _ _ _ us hl => match us, hl with | [_, _], _ => rfl⟩
  · obtain ⟨a, b, i, c, rfl, _⟩ := h
    rfl
  · obtain ⟨a, b, i, c, rfl, hS, hz, hc, hl, hf, q0, q1⟩ := h
    have hi : i < b.length := (List.getElem?_eq_some_iff.mp hc).1
    have ed := drop_cons hc
    have tk := token_digit (r := b.drop (i + 1)) hl hf
    rw [← ed] at tk
    obtain ⟨tk0, tk1⟩ := tk
    have hle := (List.takeWhile_prefix isDigit (l := b.drop i)).length_le
    rw [List.length_drop] at hle
    have hall := takeWhile_all isDigit (b.drop i)
    have hcut := take_takeWhile isDigit (b.drop i)
    refine ⟨_, rfl, _, rfl, a, b, i, rfl, hS, ?_⟩
    rw [runEnd_drop]
    generalize hw : (b.drop i).takeWhile isDigit = w at *
    have cut := cutV_of (b := b) (i := i) (n := w.length) (by omega)
    rw [hcut] at cut
    have es : (((i + w.length : Nat) : Int) - (i : Int)) = (w.length : Int) := by omega
    -- is_needless
    dsimp only [gName, tSeq, tAsg]
    show tAndV _ _ _ _ _
    refine andV (c := decide (c = 48)) (d := decide ((1 : Int) < (w.length : Int))) (fun R r => ⟨_, rfl, _, rfl, _, _, _, _, rfl, rfl, hS, ofB_at hc, rfl, ?_⟩) (fun _ R r => ⟨_, rfl, _, rfl, _, _, rfl, rfl, _, _, rfl, rfl, ?_⟩) ?_
    · rw [eq48]
      exact r
    · rw [es]
      exact r
    -- the three tests
    dsimp only [gName, tSeq, tAsg, tIfS]
    show tOr _ _ _ _ _
    refine orS (c := (decide (c = 48) && decide ((1 : Int) < (w.length : Int)))) (d := decide ((10 : Int) < (w.length : Int)) || decide ((1000000000 : Int) < ((decimal w : Nat) : Int))) (fun R r => ⟨_, rfl, _, rfl, r⟩)
      (fun _ R r => orS (c := decide ((10 : Int) < (w.length : Int))) (d := decide ((1000000000 : Int) < ((decimal w : Nat) : Int))) (fun R r => ⟨_, rfl, _, rfl, _, _, rfl, rfl, _, _, rfl, rfl, _, rfl, ?_⟩) (fun _ R r => ?_) r) fun H1 s1 => ?_
    · rw [es]
      exact r
    · refine ⟨_, rfl, _, rfl, _, rfl, _, rfl, _, rfl, a, ofB b, rfl, hS, fun p1 hp1 => ?_⟩
      rw [cut]
      exact ⟨p1, _, rfl, SqL.of upd_same, hall, _, _, rfl, rfl, _, rfl, r _ (Same.upd hp1)⟩
    · have en : (decide (c = 48) && decide ((1 : Int) < (w.length : Int)) || (decide ((10 : Int) < (w.length : Int)) || decide ((1000000000 : Int) < ((decimal w : Nat) : Int)))) = true ↔ noNum c w := by
        unfold noNum
        simp only [Bool.or_eq_true, Bool.and_eq_true, decide_eq_true_eq]
        constructor
        · rintro (⟨h1, h2⟩ | h | h)
          · exact .inl ⟨h1, by omega⟩
          · exact .inr (.inl (by omega))
          · exact .inr (.inr (by omega))
        · rintro (⟨h1, h2⟩ | h | h)
          · exact .inl ⟨h1, by omega⟩
          · exact .inr (.inl (by omega))
          · exact .inr (.inr (by omega))
      refine ite2 (fun z => ?_) fun z => ?_
      · exact ⟨_, rfl, fault_tail ((q0 (tk0 (en.mp z))).of s1)⟩
      · refine ⟨_, rfl, _, rfl, _, rfl, _, rfl, _, rfl, a, ofB b, rfl, s1.seq hS, fun p1 hp1 => ?_⟩
        rw [cut]
        refine ⟨p1, _, rfl, SqL.of upd_same, hall, _, rfl, by show 3 ≤ sizeLine; decide, fun p2 hp2 => ⟨_, rfl, by show 2 ≤ sizeLine; decide, fun p3 hp3 => ?_⟩⟩
        exact q1 _ (tk1 fun y => z (en.mpr y)) p2 p3 0 _ (((s1.trans (Same.upd hp1)).trans (Same.upd hp2)).trans (Same.upd hp3)) (SqT.of upd_same) ⟨p2, rfl, SqT.of (Same.upd hp3 _ _ upd_same)⟩
end
end Lsd
/-! token_at, tokens_of -/
namespace Lsd
open PySem PySem.Spec PyProof.Rows L2
open VasedBase hiding Tok
abbrev sTokenAt : Stmt := top 21
abbrev sTokensOf : Stmt := top 22
theorem scTokenAt : FnScope ["script", "at"] ["script", "at"] (defScope sTokenAt) := ⟨rfl, rfl, rfl, by decide +kernel, rfl, by decide +kernel, by decide +kernel⟩
theorem scTokensOf : FnScope ["script", "found", "at", "token"] ["script"] (defScope sTokensOf) := ⟨rfl, rfl, rfl, by decide +kernel, rfl, by decide +kernel, by decide +kernel⟩
theorem int_dec (c : UInt8) (k : Nat) (hk : k < 256) : decide (V.int (c.toNat : Int) = V.int (k : Int)) = (c == UInt8.ofNat k) := by
  rw [Bool.eq_iff_iff]
  simp only [decide_eq_true_eq, V.int.injEq, beq_iff_eq]
  constructor
  · intro h
    refine UInt8.toNat_inj.mp ?_
    rw [UInt8.toNat_ofNat_of_lt' (by simpa using hk)]
    omega
  · intro h
    rw [h, UInt8.toNat_ofNat_of_lt' (by simpa using hk)]
theorem blank_in (c : UInt8) : inV (.int (c.toNat : Int)) [.int 32, .int 9, .int 10] = isBlank c := by
  unfold inV isBlank
  rw [Bool.eq_iff_iff]
  simp only [List.any_cons, List.any_nil, eqV, Bool.or_eq_true, beq_iff_eq]
  constructor
  · rintro (h | h | h | h)
    · exact .inl (UInt8.toNat_inj.mp (by show c.toNat = 32; omega))
    · exact .inr (.inl (UInt8.toNat_inj.mp (by show c.toNat = 9; omega)))
    · exact .inr (.inr (UInt8.toNat_inj.mp (by show c.toNat = 10; omega)))
    · cases h
  · rintro (h | h | h)
    · exact .inl (by rw [h]; rfl)
    · exact .inr (.inl (by rw [h]; rfl))
    · exact .inr (.inr (.inl (by rw [h]; rfl)))
section
variable {P : Program} {w : World} {K : PySem.W.Frag} {mg : Str → Option Value} {base : Heap} {CF : Addr}
theorem ok_token_at (F : GF K mg "token_at" sTokenAt) (T : FaultT K mg CF) (FD : FaultD P w K mg base CF (spFault CF)) (D1 : GD P w K mg base CX0 1 "is_small" ["octet"] (spByte isLetter)) (D2 : GD P w K mg base CX0 1 "is_digit" ["octet"] (spByte isDigit))
    (D3 : GN P w K mg base (L2.CX P w) 3 "word_at" ["script", "at"] (spTokenAt K CF isLetter)) (D4 : GD P w K mg base (L2.CX P w) 3 "number_at" ["script", "at"] (spNumberAt K CF)) (cS : GC mg "SEMICOLON" (.int 59)) :
    GN P w K mg base (L2.CX P w) 4 "token_at" ["script", "at"] (spTokenAt K CF fun _ => true) := by
  obtain ⟨f, fd, F, hm⟩ := F
  refine ⟨f, fd, fun_n F scTokenAt (fun n vs H Q E h => ?_) (fun cdv A outer s H vs n Q E hr h => ⟨_,
      pssn_cons (psn_if (pt_val (pe_g D1 (hr.mono (by decide)) pass0 (pa_cons (pe_ix ix_list (pv 0) (pv 1) (fun _ _ => rfl)) pa_nil))) (pssn_one (psn_ret (pen_g D3 hr (passW (takes_of rfl rfl rfl rfl)) (pan_of (pa_cons (pv 0) (pa_cons (pv 1) pa_nil)))))) pssn_nil)
      (pssn_cons (psn_of (ps_if (pt_val (pe_g D2 (hr.mono (by decide)) pass0 (pa_cons (pe_ix ix_list (pv 0) (pv 1) (fun _ _ => rfl)) pa_nil))) (pss_one (ps_ret (pe_g D4 hr (passW (takes_of rfl rfl rfl rfl)) (pa_cons (pv 0) (pa_cons (pv 1) pa_nil))))) pss_nil))
      (pssn_cons (psn_of (ps_if (pt_cmpR op_ne (pe_ix ix_list (pv 0) (pv 1) (fun _ _ => rfl)) (pe_gc cS) (nomark _)) (pss_one (ps_fault T FD (hr.mono (by decide)) (takes_of rfl rfl rfl rfl) (pa_cons pe_int (pa_cons (pv 1) pa_nil)))) pss_nil))
      (pssn_one (psn_of (ps_ret (pe_tup (pa_cons (pe_tup (pa_cons pe_str (pa_cons pe_str (pa_cons (pv 1) pa_nil)))) (pa_cons (pe_op op_add (pv 1) pe_int) pa_nil)))))))), ?_⟩), hm, F.kp, F.binds fun _ _ _ _ _ _ us hl => match us, hl with | [_, _], _ => rfl⟩
  · obtain ⟨a, b, i, c, rfl, _⟩ := h
    rfl
  · obtain ⟨a, b, i, c, rfl, hS, hz, hc, _, q0, q1⟩ := h
    have ed := drop_cons hc
    refine ⟨_, rfl, _, rfl, _, _, _, _, rfl, rfl, hS, ofB_at hc, c, rfl, _, rfl, ?_⟩
    cases hl : isLetter c with
    | true => exact iteT ⟨_, rfl, _, rfl, fun us rus => ⟨a, b, i, c, rfl, hS, hz, hc, hl, q0, q1⟩⟩
    | false =>
      refine iteF ?_
      refine ⟨_, rfl, _, rfl, _, _, _, _, rfl, rfl, hS, ofB_at hc, c, rfl, _, rfl, ?_⟩
      cases hd : isDigit c with
      | true =>
        refine iteT ⟨_, rfl, _, rfl, a, b, i, c, rfl, hS, hz, hc, hl, hd, q0, fun x hx p q r H' s1 sq tk u hu => ?_⟩
        obtain rfl : u = Value.ref q := hu
        refine q1 x hx p q r n H' s1 sq tk (Nat.le_refl _) fun ⟨b2, e2⟩ => ?_
        obtain ⟨t0, t1⟩ := token_digit (r := b.drop (i + 1)) hl hd
        rw [← ed] at t0 t1
        by_cases z : noNum c ((b.drop i).takeWhile isDigit)
        · rw [t0 z] at hx; cases hx
        · rw [t1 z] at hx; cases hx; cases e2
      | false =>
        refine iteF ⟨_, rfl, _, rfl, _, _, _, _, rfl, rfl, hS, ofB_at hc, rfl, _, rfl, ?_⟩
        obtain ⟨t0, t1⟩ := token_other (r := b.drop (i + 1)) hl hd
        rw [← ed] at t0 t1
        rw [show decide (V.int (c.toNat : Int) = V.int 59) = (c == 59) from int_dec c 59 (by decide)]
        cases h59 : (c == 59) with
        | false => exact iteT ⟨_, rfl, fault_tail (q0 (t0 (by simpa using h59)))⟩
        | true =>
          have e59 : c = 59 := by simpa using h59
          refine iteF ⟨_, rfl, by show 3 ≤ sizeLine; decide, fun p hp => ⟨_, rfl, _, _, rfl, rfl, by show 2 ≤ sizeLine; decide, fun q hq u hu => ?_⟩⟩
          obtain rfl : u = Value.ref q := hu
          exact q1 _ (t1 e59) p q 0 n _ ((Same.upd hp).trans (Same.upd hq)) (SqT.of upd_same) ⟨p, rfl, SqT.of (Same.upd hq _ _ upd_same)⟩ (Nat.le_refl _) fun ⟨b2, e2⟩ => by cases e2
end
end Lsd
/-! tokens_of -/
namespace Lsd
open PySem PySem.Spec PyProof.Rows L2
open VasedBase hiding Tok
/-- its promise: the tokens, or the fault -/
def spTokens (K : PySem.W.Frag) (CF : Addr) : SpN := fun n vs H Q E => ∃ (a : Addr) (b : Bytes), vs = [.ref a] ∧ SqL K H a (ofB b) ∧ b.length ≤ 10000 ∧ (∀ f, tokens b = .error f → FaultE CF E H f.code f.place) ∧
  ∀ l, tokens b = .ok l → ∀ p vs rk m H', Same H H' → H' p = some (.lst vs) → ToksV K H' vs l rk → Ranks l rk m → 1 ≤ m → l.length ≤ b.length + 1 → Q m (.ref p) (.ref p) H'
/-- how far lexing has come: the tokens so far and the rest's are all -/
def LexS (K : PySem.W.Frag) (a : Addr) (b : Bytes) (H : Hp) (pf : Addr) (j n : Nat) (σ : L2.St) (H' : Hp) : Prop := ∃ (l0 : Toks) (rk : List Nat) (vs : List V) (tv : Option V), σ = [some (.ref a), some (.ref pf), some (.int ((j : Nat) : Int)), tv] ∧ j ≤ b.length ∧ Same H H' ∧
  H' pf = some (.lst vs) ∧ ToksV K H' vs l0 rk ∧ Ranks l0 rk n ∧ 1 ≤ n ∧ l0.length ≤ j ∧ lexA 0 b = (lexA j (b.drop j)).map (l0 ++ ·)
theorem drop_runEnd (f : UInt8 → Bool) (b : Bytes) (i : Nat) : b.drop (runEnd f b i) = (b.drop i).dropWhile f := by
  rw [runEnd_drop, ← List.drop_drop, drop_takeWhile]
theorem token_le {b : Bytes} {j : Nat} {c : UInt8} {x : VasedBase.Tok × Nat} (hj : j < b.length) (ed : b.drop j = c :: b.drop (j + 1)) (h : token (c :: b.drop (j + 1)) = some x) : j + x.2 ≤ b.length := by
  have hl : (c :: b.drop (j + 1)).length = b.length - j := by rw [← ed, List.length_drop]
  have key : ∀ f : UInt8 → Bool, ((c :: b.drop (j + 1)).takeWhile f).length ≤ b.length - j := fun f => by
    rw [← hl]
    exact (List.takeWhile_prefix f).length_le
  unfold token at h
  dsimp only at h
  split at h
  · split at h
    · cases h
    · cases h
      have := key isLetter
      dsimp only
      omega
  · split at h
    · cases q : numberOf ((c :: b.drop (j + 1)).takeWhile isDigit) with
      | none => rw [q] at h; cases h
      | some n =>
        rw [q] at h
        cases h
        have := key isDigit
        dsimp only
        omega
    · split at h
      · cases h
        dsimp only
        omega
      · cases h
theorem map_map_ok {l0 : Toks} {t : PTok} (e : Except VasedBase.Fault Toks) : (e.map fun l => t :: l).map (l0 ++ ·) = e.map ((l0 ++ [t]) ++ ·) := by
  cases e with
  | error f => rfl
  | ok l =>
    show Except.ok (l0 ++ (t :: l)) = Except.ok ((l0 ++ [t]) ++ l)
    rw [List.append_assoc] <;> rfl
section
variable {P : Program} {w : World} {K : PySem.W.Frag} {mg : Str → Option Value} {base : Heap} {CF : Addr}
theorem ok_tokens_of (F : GF K mg "tokens_of" sTokensOf) (T : FaultT K mg CF) (FD : FaultD P w K mg base CF (spFault CF)) (D1 : GD P w K mg base CX0 1 "end_of_remark" ["script", "at"] (spWalk K (· != 10)))
    (D2 : GN P w K mg base (L2.CX P w) 4 "token_at" ["script", "at"] (spTokenAt K CF fun _ => true)) (ml : mg "len" = none) (cL : GC mg "LONGEST_SCRIPT" (.int 4096)) (cB : GT K mg "BLANKS" [.int 32, .int 9, .int 10]) (cR : GC mg "REMARK" (.int 35)) :
    GN P w K mg base (L2.CX P w) 5 "tokens_of" ["script"] (spTokens K CF) := by
  obtain ⟨f, fd, F, hm⟩ := F
  refine ⟨f, fd, fun_n F scTokensOf (fun n vs H Q E h => ?_) (fun cdv A outer s H vs n Q E hr h => ⟨_,
      pssn_cons (psn_of (ps_if (pt_cmpR op_gt (pe_callB call_len_seq (by rfl) ml boot_len (pa_cons (pv 0) pa_nil)) (pe_gc cL) (nomark _)) (pss_one (ps_fault T FD (hr.mono (by decide)) (takes_of rfl rfl rfl rfl) (pa_cons pe_int (pa_cons (pe_gc cL) pa_nil)))) pss_nil))
      (pssn_cons (psn_of (ps_set (i := 1) scTokensOf.nd rfl (Or.inl rfl) (pe_lst pa_nil)))
      (pssn_cons (psn_set (i := 2) scTokensOf.nd rfl (Or.inl rfl) pen_int)
      (pssn_cons (psn_while (passes_of rfl) (pt_cmpR op_lt (pv 2) (pe_callB call_len_seq (by rfl) ml boot_len (pa_cons (pv 0) pa_nil)) (nomark _))
        (pssn_one (psn_if (pt_cmpR op_in_seq (pe_ix ix_list (pv 0) (pv 2) (fun _ _ => rfl)) (pe_gt cB) (by rfl)) (pssn_of (pss_one (ps_aug (i := 2) scTokensOf.nd rfl (Or.inl rfl) L2.pe_int ip_add)))
          (pssn_one (psn_if (pt_cmpR op_eq (pe_ix ix_list (pv 0) (pv 2) (fun _ _ => rfl)) (pe_gc cR) (nomark _)) (pssn_of (pss_one (ps_set (i := 2) scTokensOf.nd rfl (Or.inl rfl) (pe_g D1 (hr.mono (by decide)) pass0 (pa_cons (pv 0) (pa_cons (pv 2) pa_nil))))))
            (pssn_cons (psn_asg (pen_g D2 hr (passW (takes_of rfl rfl rfl rfl)) (pan_of (pa_cons (pv 0) (pa_cons (pv 2) pa_nil)))) (pg_tup (n := 2) rfl (pgs_cons (pg_name (i := 3) scTokensOf.nd rfl (Or.inl rfl)) (pgs_cons (pg_name (i := 2) scTokensOf.nd rfl (Or.inl rfl)) pgs_nil))))
              (pssn_one (psn_of (ps_expr (pe_bm PySem.F.plainAttrs_list PySem.F.slot_list_append PySem.F.type_list_append mt_append (pv 1) (pa_cons (pv 3) pa_nil)))))))))))
      (pssn_one (psn_of (ps_ret (pe_op op_cat (pv 1) (pe_lst (pa_cons (pe_tup (pa_cons pe_str (pa_cons pe_str (pa_cons (pe_callB call_len_seq (by rfl) ml boot_len (pa_cons (pv 0) pa_nil)) pa_nil)))) pa_nil))))))))), ?_⟩),
    hm, F.kp, F.binds fun _ _ _ _ _ _ us hl => match us, hl with | [_], _ => rfl⟩
  · obtain ⟨a, b, rfl, _⟩ := h
    rfl
  · obtain ⟨a, b, rfl, hS, hz, q0, q1⟩ := h
    refine ⟨_, rfl, a, _, rfl, Or.inl hS, _, _, rfl, rfl, _, rfl, ?_⟩
    rw [ofB_len]
    refine ite2 (fun c1 => ?_) fun c1 => ?_
    · have hlong : 4096 < b.length := by
        have : (4096 : Int) < (b.length : Int) := by simpa using c1
        omega
      exact fault_tail (q0 ⟨1, 4096⟩ (if_pos hlong))
    · have hlong : ¬ 4096 < b.length := by
        have : ¬ (4096 : Int) < (b.length : Int) := by simpa using c1
        omega
      have etok : tokens b = lexA 0 b := if_neg hlong
      refine ⟨by show 0 ≤ sizeLine; decide, fun pf hpf => ?_⟩
      intro u0
      refine ⟨fun m n σ H' => ∃ j, LexS K a b H pf j n σ H' ∧ m = b.length - j, ⟨_, 0, ⟨[], [], [], none, rfl, Nat.zero_le _, Same.upd hpf, upd_same, ToksV.nil _ _, Ranks.nil _, Nat.le_add_left _ _, Nat.le_refl _, ?_⟩, rfl⟩, ?_⟩
      · rw [List.drop_zero]
        cases lexA 0 b <;> rfl
      · rintro m n' σ H' ⟨j, ⟨l0, rk, vs, tv, rfl, hj, s1, hl, tv0, rks, h1, hlen, elex⟩, rfl⟩
        have hS' := s1.seq hS
        refine ⟨_, rfl, _, rfl, a, _, rfl, Or.inl hS', _, _, rfl, rfl, _, rfl, ?_⟩
        rw [ofB_len]
        refine ite2 (fun c2 => ?_) fun c2 => ?_
        · have hlt : j < b.length := by simpa using c2
          have hc : b[j]? = some b[j] := List.getElem?_eq_getElem hlt
          generalize hcc : b[j] = c at hc
          have ed := drop_cons hc
          rw [ed] at elex
          refine ⟨fun n2 σ2 H2 => ∃ j2, LexS K a b H pf j2 n2 σ2 H2 ∧ b.length - j2 < b.length - j, fun n2 σ2 H2 ⟨j2, h, l⟩ => ⟨_, l, j2, h, rfl⟩, ?_⟩
          refine ⟨_, rfl, _, rfl, _, _, _, _, rfl, rfl, hS', ofB_at hc, fun aB kB => ⟨aB, _, rfl, .inr kB.sq, rfl, by decide, _, rfl, ?_⟩⟩
          rw [blank_in]
          cases hb : isBlank c with
          | true =>
            refine iteT ?_
            refine ⟨_, rfl, _, _, rfl, rfl, j + 1, ⟨l0, rk, vs, tv, rfl, hlt, s1, hl, tv0, rks, h1, by omega, ?_⟩, by omega⟩
            rw [lexA_blank hb] at elex
            exact elex
          | false =>
            refine iteF ?_
            refine ⟨_, rfl, _, rfl, _, _, _, _, rfl, rfl, hS', ofB_at hc, rfl, _, rfl, ?_⟩
            rw [show decide (V.int (c.toNat : Int) = V.int 35) = (c == 35) from int_dec c 35 (by decide)]
            cases h35 : (c == 35) with
            | true =>
              have e35 : c = 35 := by simpa using h35
              refine iteT ⟨_, rfl, _, rfl, a, b, j, rfl, hS', ?_⟩
              have e1 : runEnd (· != 10) b j = runEnd (· != 10) b (j + 1) := runEnd_yes hc (by subst e35; rfl)
              refine ⟨runEnd (· != 10) b j, ⟨l0, rk, vs, tv, rfl, runEnd_le hj, s1, hl, tv0, rks, h1, Nat.le_trans hlen (runEnd_ge _ _ _), ?_⟩, ?_⟩
              · rw [lexA_remark hb h35] at elex
                rw [e1, drop_runEnd]
                exact elex
              · have := runEnd_ge (· != 10) b (j + 1)
                omega
            | false =>
              refine iteF ?_
              refine ⟨_, rfl, _, rfl, fun us rus => ⟨a, b, j, c, rfl, hS', hz, hc, rfl, fun z => ?_, fun x z p q r m2 H2 s2 sq tk hm2 hrk => ?_⟩⟩
              · rw [ed] at z
                rw [lexA_none hb h35 z] at elex
                exact (q0 ⟨2, j⟩ (etok.trans elex)).of s1
              · rw [ed] at z
                have hx := token_pos z
                rw [lexA_some hb h35 z, map_map_ok, ← ed, List.drop_drop] at elex
                have hkt : KeepT H' H2 := Same.keepT s2
                have hl2 := s2 _ _ hl
                have hvl : vs.length = l0.length := tv0.1
                refine ⟨q, _, rfl, sq, rfl, _, _, rfl, _, _, rfl, rfl, ?_⟩
                refine ⟨_, rfl, .inl ⟨rfl, _, SqL.of hl2⟩, _, rfl, pf, vs, _, rfl, rfl, hl2, by rw [sizeLine_eq]; omega, ?_⟩
                have hxl : j + x.2 ≤ b.length := token_le hlt ed z
                refine ⟨j + x.2, ⟨l0 ++ [⟨j, x.1⟩], rk ++ [r], _, some (.ref p), rfl, hxl, Same.updD (s1.trans s2) hpf, upd_same, ?_, rks.snoc h1 hm2 hrk, by omega, ?_, elex⟩, by omega⟩
                · exact (ToksV.snoc rks.len (tv0.keep hkt) tk).keep (KeepT.updl hl2)
                · rw [List.length_append, List.length_singleton]
                  omega
        · have hge : b.length ≤ j := by
            have : ¬ j < b.length := by simpa using c2
            omega
          have ej : j = b.length := Nat.le_antisymm hj hge
          subst ej
          rw [List.drop_length, lexA_nil] at elex
          refine ⟨_, rfl, _, rfl, a, _, rfl, Or.inl hS', by show 3 ≤ sizeLine; decide, fun p hp => ⟨by show 1 ≤ sizeLine; decide, fun p2 hp2 => ?_⟩⟩
          have sA : Same H' (upd (upd H' p (.tup [.str "end", .str "", .int (b.length : Int)])) p2 (.lst [.ref p])) := by
            have e : (ofB b).length = b.length := ofB_len b
            rw [e] at hp2
            exact (Same.upd hp).trans (Same.upd hp2)
          rw [ofB_len]
          refine ⟨pf, p2, vs, [.ref p], rfl, rfl, sA _ _ hl, upd_same, by rw [sizeLine_eq, tv0.1]; show l0.length + 1 ≤ _; omega, fun q hq u hu => ?_⟩
          obtain rfl : u = Value.ref q := hu
          have sB := sA.trans (Same.upd (o := .lst (vs ++ [.ref p])) hq)
          have etoks : tokens b = .ok (l0 ++ [⟨b.length, .last⟩]) := etok.trans elex
          refine q1 _ etoks q _ (rk ++ [0]) n' _ (s1.trans sB) upd_same ?_ (rks.snoc h1 (Nat.le_refl _) fun ⟨b2, e2⟩ => by cases e2) h1 (by rw [List.length_append]; show l0.length + 1 ≤ _; omega)
          refine ToksV.snoc rks.len (tv0.keep (Same.keepT sB)) ⟨p, rfl, ?_⟩
          refine SqT.of (Same.upd hq _ _ ?_)
          rw [upd_ne, upd_same]
          rintro rfl
          rw [upd_same] at hp2
          cases hp2
end
end Lsd
/-! Reader: how it lies in the heap; ahead, is_word, take -/
namespace Lsd
open PySem PySem.Spec PyProof.Rows L2
open VasedBase hiding Tok
/-- tokens as lexing makes them: the end is the last one and stands there alone, signs are semicolons, words are short and of letters -/
structure TokWf (l : Toks) : Prop where
  last : ∃ l0 p, l = l0 ++ [⟨p, .last⟩] ∧ ∀ t ∈ l0, t.tok ≠ .last
  sign : ∀ t ∈ l, ∀ c, t.tok = .sign c → c = 59
  name : ∀ t ∈ l, ∀ b, t.tok = .name b → (∀ c ∈ b, isLetter c = true) ∧ 1 ≤ b.length ∧ b.length ≤ 8
theorem TokWf.more {l : Toks} (w : TokWf l) {i : Nat} {t : PTok} (h : l[i]? = some t) (n : t.tok ≠ .last) : i + 1 < l.length := by
  obtain ⟨l0, p, e, h0⟩ := w.last
  subst e
  have hi := (List.getElem?_eq_some_iff.mp h).1
  rw [List.length_append] at hi ⊢
  show i + 1 < l0.length + 1
  rcases Nat.lt_or_ge i l0.length with q | q
  · omega
  · exfalso
    rw [List.getElem?_append_right q] at h
    have : i - l0.length = 0 := by
      have := (List.getElem?_eq_some_iff.mp h).1
      simp at this
      omega
    rw [this] at h
    cases h
    exact n rfl
theorem TokWf.mem {l : Toks} {i : Nat} {t : PTok} (h : l[i]? = some t) : t ∈ l := List.mem_of_getElem? h
theorem drop_get {l : Toks} {i : Nat} {t : PTok} (h : l[i]? = some t) : l.drop i = t :: l.drop (i + 1) := by
  have hl : i < l.length := (List.getElem?_eq_some_iff.mp h).1
  rw [List.drop_eq_getElem_cons hl]
  congr 1
  exact (List.getElem?_eq_some_iff.mp h).2
/-! ### lexing makes such tokens -/
theorem token_wf {l : Bytes} {x : VasedBase.Tok × Nat} (h : token l = some x) : x.1 ≠ .last ∧ (∀ c, x.1 = .sign c → c = 59) ∧ ∀ b, x.1 = .name b → (∀ c ∈ b, isLetter c = true) ∧ 1 ≤ b.length ∧ b.length ≤ 8 := by
  rcases l with _ | ⟨c, r⟩
  · cases h
  · unfold token at h
    dsimp only at h
    split at h
    · rename_i hl
      split at h
      · cases h
      · rename_i h8
        cases h
        refine ⟨by simp, by simp, fun b e => ?_⟩
        cases e
        refine ⟨takeWhile_all _ _, ?_, by have : NAME = 8 := rfl; omega⟩
        rw [List.takeWhile_cons_of_pos hl]
        simp
    · split at h
      · cases q : numberOf ((c :: r).takeWhile isDigit) with
        | none => rw [q] at h; cases h
        | some n =>
          rw [q] at h
          cases h
          exact ⟨by simp, by simp, by simp⟩
      · split at h
        · rename_i hs
          cases h
          refine ⟨by simp, fun d e => ?_, by simp⟩
          cases e
          have : c = 59 := by simpa [SIGNS] using hs
          rw [this]
          rfl
        · cases h
theorem wf_cons {l : Toks} {t : PTok} (w : TokWf l) (h : t.tok ≠ .last) (h2 : ∀ c, t.tok = .sign c → c = 59) (h3 : ∀ b, t.tok = .name b → (∀ c ∈ b, isLetter c = true) ∧ 1 ≤ b.length ∧ b.length ≤ 8) : TokWf (t :: l) := by
  obtain ⟨l0, p, e, h0⟩ := w.last
  refine ⟨⟨t :: l0, p, by rw [e] <;> rfl, fun u hu => ?_⟩, fun u hu c e => ?_, fun u hu b e => ?_⟩
  · rcases List.mem_cons.mp hu with z | z
    · rw [z]; exact h
    · exact h0 u z
  · rcases List.mem_cons.mp hu with z | z
    · rw [z] at e; exact h2 c e
    · exact w.sign u z c e
  · rcases List.mem_cons.mp hu with z | z
    · rw [z] at e; exact h3 b e
    · exact w.name u z b e
theorem wf_last (p : Nat) : TokWf [⟨p, .last⟩] := ⟨⟨[], p, rfl, fun t h => absurd h (by simp)⟩, fun t h c e => (by simp at h; subst h; cases e), fun t h b e => (by simp at h; subst h; cases e)⟩
theorem lexA_wf : ∀ (n : Nat) (p : Nat) (b : Bytes) (l : Toks), b.length ≤ n → lexA p b = .ok l → TokWf l
  | _, p, [], l, _, h => by
    rw [lexA_nil] at h
    cases h
    exact wf_last p
  | 0, _, _ :: _, _, h, _ => absurd h (by simp)
  | n + 1, p, c :: r, l, hn, h => by
    have hn : r.length + 1 ≤ n + 1 := hn
    cases hb : isBlank c with
    | true =>
      rw [lexA_blank hb] at h
      exact lexA_wf n _ r l (by omega) h
    | false =>
      cases h35 : (c == 35) with
      | true =>
        rw [lexA_remark hb h35] at h
        exact lexA_wf n _ _ l (Nat.le_trans (List.dropWhile_suffix _).length_le (by omega)) h
      | false =>
        cases q : token (c :: r) with
        | none => rw [lexA_none hb h35 q] at h; cases h
        | some x =>
          rw [lexA_some hb h35 q] at h
          have hx := token_pos q
          have hz : ((c :: r).drop x.2).length ≤ n := by
            rw [List.length_drop, List.length_cons]
            omega
          cases q2 : lexA (p + x.2) ((c :: r).drop x.2) with
          | error f => rw [q2] at h; cases h
          | ok l' =>
            rw [q2] at h
            cases h
            obtain ⟨a1, a2, a3⟩ := token_wf q
            exact wf_cons (lexA_wf n _ _ l' hz q2) a1 a2 a3
theorem tokens_wf {b : Bytes} {l : Toks} (h : tokens b = .ok l) : TokWf l := by
  unfold tokens at h
  split at h
  · cases h
  · exact lexA_wf _ 0 b l (Nat.le_refl _) h
/-! ### the class -/
structure ReaderT (K : PySem.W.Frag) (mg : Str → Option Value) (CR : Addr) : Prop where
  cl : Cls K CR
  nT : NoAttr K CR "tokens"
  nH : NoAttr K CR "here"
  gl : mg "Reader" = some (.ref CR)
def rF (a : Addr) (i : Nat) : List (Str × V) := [("tokens", .ref a), ("here", .int (i : Int))]
theorem lkp_here {k : Str} {v : V} {r : List (Str × V)} : List.lookup k ((k, v) :: r) = some v := by
  have e : (k == k) = true := beq_self_eq_true k
  simp only [List.lookup, e]
theorem lkp_past {k g : Str} {v : V} {r : List (Str × V)} (h : (k == g) = false) : List.lookup k ((g, v) :: r) = List.lookup k r := by simp only [List.lookup, h]
theorem putF_here {f : Str} {v x : V} {r : List (Str × V)} : putF f v ((f, x) :: r) = (f, v) :: r := if_pos rfl
theorem putF_past {f g : Str} {v x : V} {r : List (Str × V)} (h : ¬ g = f) : putF f v ((g, x) :: r) = (g, x) :: putF f v r := if_neg h
theorem rF_tokens (a : Addr) (i : Nat) : (rF a i).lookup ("tokens" : Str) = some (.ref a) := lkp_here
theorem rF_here (a : Addr) (i : Nat) : (rF a i).lookup ("here" : Str) = some (.int (i : Int)) := (lkp_past (by decide +kernel)).trans lkp_here
theorem rF_none (a : Addr) (i : Nat) {m : Str} (h1 : (m == ("tokens" : Str)) = false) (h2 : (m == ("here" : Str)) = false) : (rF a i).lookup m = none := (lkp_past h1).trans ((lkp_past h2).trans rfl)
theorem rF_put (a : Addr) (i j : Nat) : putF "here" (.int (j : Int)) (rF a i) = rF a j := (putF_past (by decide +kernel)).trans (congrArg _ putF_here)
/-- the reader at r stands at the i-th of the tokens l -/
def RdAt (K : PySem.W.Frag) (CR : Addr) (H : Hp) (r a : Addr) (l : Toks) (rk : List Nat) (i : Nat) : Prop := ∃ dx vs, H r = some (.ins CR dx (rF a i)) ∧ H a = some (.lst vs) ∧ ToksV K H vs l rk ∧ i < l.length
/-- an error is let out; all that was tracked stands but what is at S -/
def FaultK (CF : Addr) (E : XK) (S : List Addr) (H : Hp) (c p : Nat) : Prop := ∀ d H', Keep S H H' → H' d = some (.xd (xdF c p)) → E (.ref CF) (some d) H'
theorem FaultK.of {CF : Addr} {E : XK} {S : List Addr} {H H1 : Hp} {c p : Nat} (h : FaultK CF E S H c p) (k : Keep S H H1) : FaultK CF E S H1 c p := fun d H' k' e => h d H' (k.trans k') e
theorem FaultK.fe {CF : Addr} {E : XK} {S : List Addr} {H : Hp} {c p : Nat} (h : FaultK CF E S H c p) : FaultE CF E H c p := fun d H' s _ e => h d H' (Keep.of s) e
/-- a reading of tokens: the fault, or what is read and where one stands -/
def Parse {A : Type} (K : PySem.W.Frag) (CR CF : Addr) (Pf : Toks → Except VasedBase.Fault (A × Toks)) (r a : Addr) (l : Toks) (rk : List Nat) (i : Nat) (H : Hp) (E : XK) (R : A → Nat → Hp → Prop) : Prop :=
  (∀ f, Pf (l.drop i) = .error f → FaultK CF E [r] H f.code f.place) ∧
  ∀ x j, Pf (l.drop i) = .ok (x, l.drop j) → i < j → ∀ H', Keep [r] H H' → RdAt K CR H' r a l rk j → R x j H'
abbrev sReader (j : Nat) : Stmt := inClass (top 33) j
theorem scAhead : FnScope ["self"] ["self"] (defScope (sReader 1)) := ⟨rfl, rfl, rfl, by decide +kernel, rfl, by decide +kernel, by decide +kernel⟩
theorem scIsWord : FnScope ["self", "word", "token"] ["self", "word"] (defScope (sReader 2)) := ⟨rfl, rfl, rfl, by decide +kernel, rfl, by decide +kernel, by decide +kernel⟩
theorem scTake : FnScope ["self", "token"] ["self"] (defScope (sReader 3)) := ⟨rfl, rfl, rfl, by decide +kernel, rfl, by decide +kernel, by decide +kernel⟩
def spAhead (K : PySem.W.Frag) (CR : Addr) : Sp := fun vs H Q _ => ∃ r a l rk i, vs = [.ref r] ∧ RdAt K CR H r a l rk i ∧ ∀ v t, l[i]? = some t → TokAt K H v t (rk.getD i 0) → Q v H
def spIsWord (K : PySem.W.Frag) (CR : Addr) : Sp := fun vs H Q _ => ∃ r a l rk i, ∃ w : Bytes, vs = [.ref r, .str (sT w)] ∧ RdAt K CR H r a l rk i ∧ Q (.bl (next (.name w) (l.drop i))) H
def spTake (K : PySem.W.Frag) (CR : Addr) : Sp := fun vs H Q _ => ∃ r a l rk i t, vs = [.ref r] ∧ RdAt K CR H r a l rk i ∧ l[i]? = some t ∧ i + 1 < l.length ∧ ∀ v H', Keep [r] H H' → RdAt K CR H' r a l rk (i + 1) → TokAt K H' v t (rk.getD i 0) → Q v H'
/-- what a token's first place tells -/
def kindS (t : PTok) : Str := match t.tok with
  | .name _ => "word"
  | .num _ => "number"
  | .sign _ => "sign"
  | .last => "end"
/-- its second -/
def whatV (t : PTok) : V := match t.tok with
  | .name b => .str (sT b)
  | .num n => .int (n : Int)
  | .sign _ => .str ";"
  | .last => .str ""
theorem TokAt.sq {K : PySem.W.Frag} {H : Hp} {v : V} {t : PTok} {r : Nat} (h : TokAt K H v t r) : ∃ p, v = .ref p ∧ SqT K H p [.str (kindS t), whatV t, .int (t.place : Int)] := by
  obtain ⟨p, tk⟩ := t
  cases tk with
  | name b => obtain ⟨q, us, ev, hf, _⟩ := h; exact ⟨q, ev, hf.sq⟩
  | num n => exact h
  | sign c => exact h
  | last => exact h
theorem RdAt.tok {K : PySem.W.Frag} {CR : Addr} {H : Hp} {r a : Addr} {l : Toks} {rk : List Nat} {i : Nat} (h : RdAt K CR H r a l rk i) : ∃ t, l[i]? = some t := by
  obtain ⟨_, _, _, _, _, hi⟩ := h
  exact ⟨_, List.getElem?_eq_getElem hi⟩
section
variable {P : Program} {w : World} {K : PySem.W.Frag} {mg : Str → Option Value} {base : Heap} {CF CR : Addr}
theorem ok_ahead (F : MF K CR "ahead" "Reader.ahead" (sReader 1)) (T : ReaderT K mg CR) : MD P w K mg base CX0 1 CR "ahead" ["self"] (spAhead K CR) := by
  obtain ⟨f, fd, F, hm⟩ := F
  refine ⟨f, fd, F.ok scAhead (fun vs H Q E h => ?_) (fun cdv A outer s H vs Q E hr h => ⟨_, pss_one (ps_ret (pe_ix ix_list (pe_fld (pv 0) rfl) (pe_fld (pv 0) rfl) (fun _ _ => rfl))), ?_⟩), hm, F.binds fun _ _ _ _ _ _ us hl => match us, hl with | [_], _ => rfl⟩
  · obtain ⟨r, a, l, rk, i, rfl, _⟩ := h
    rfl
  · obtain ⟨r, a, l, rk, i, rfl, ⟨dx, vs, h1, h2, h3, hi⟩, q⟩ := h
    obtain ⟨v, hv, ht⟩ := h3.2 i _ (List.getElem?_eq_getElem hi)
    exact ⟨_, rfl, r, CR, dx, _, _, rfl, h1, T.cl, T.nT, rF_tokens a i, _, rfl, r, CR, dx, _, _, rfl, h1, T.cl, T.nH, rF_here a i, a, vs, _, v, rfl, rfl, SqL.of h2, atI_nat hv, q v _ (List.getElem?_eq_getElem hi) ht⟩
theorem ok_take (F : MF K CR "take" "Reader.take" (sReader 3)) (T : ReaderT K mg CR) (D : MD P w K mg base CX0 1 CR "ahead" ["self"] (spAhead K CR)) : MD P w K mg base CX0 2 CR "take" ["self"] (spTake K CR) := by
  obtain ⟨f, fd, F, hm⟩ := F
  refine ⟨f, fd, F.ok scTake (fun vs H Q E h => ?_) (fun cdv A outer s H vs Q E hr h => ⟨_, pss_cons (ps_set (i := 1) scTake.nd rfl (Or.inl rfl) (pe_m0 D T.cl hr pass0 (pv 0))) (pss_cons (ps_fldaug (pv 0) pe_int in_add) (pss_one (ps_ret (pv 1)))), ?_⟩), hm, F.binds fun _ _ _ _ _ _ us hl => match us, hl with | [_], _ => rfl⟩
  · obtain ⟨r, a, l, rk, i, t, rfl, _⟩ := h
    rfl
  · obtain ⟨r, a, l, rk, i, t, rfl, hR, ht, hi1, q⟩ := h
    have hR0 := hR
    obtain ⟨dx, vs, h1, h2, h3, hi⟩ := hR
    refine ⟨_, rfl, r, dx, _, rfl, h1, rF_none a i (by decide +kernel) (by decide +kernel), r, a, l, rk, i, rfl, hR0, fun v t' ht' tk => ?_⟩
    rw [ht] at ht'
    cases ht'
    refine ⟨_, rfl, r, CR, dx, _, _, rfl, h1, T.cl, T.nH, rF_here a i, _, _, rfl, rfl, dx, _, h1, by show 2 < 1000; decide, _, rfl, ?_⟩
    have e : putF "here" (.int ((i : Int) + 1)) (rF a i) = rF a (i + 1) := rF_put a i (i + 1)
    rw [e]
    have na : a ≠ r := fun z => by rw [z, h1] at h2; cases h2
    exact q v _ (Keep.upd (.inr (by simp))) ⟨dx, vs, upd_same, (upd_ne na).trans h2, h3.keep (KeepT.updi h1), hi1⟩ (tk.keep (KeepT.updi h1))
end
end Lsd
/-! Reader: is_word, take_one_of, take_end_of_command, take_number -/
namespace Lsd
open PySem PySem.Spec PyProof.Rows L2
open VasedBase hiding Tok
theorem scTakeOne : FnScope ["self", "words", "token"] ["self", "words"] (defScope (sReader 4)) := ⟨rfl, rfl, rfl, by decide +kernel, rfl, by decide +kernel, by decide +kernel⟩
theorem scTakeEnd : FnScope ["self"] ["self"] (defScope (sReader 5)) := ⟨rfl, rfl, rfl, by decide +kernel, rfl, by decide +kernel, by decide +kernel⟩
theorem scTakeNumber : FnScope ["self", "least", "most", "token"] ["self", "least", "most"] (defScope (sReader 8)) := ⟨rfl, rfl, rfl, by decide +kernel, rfl, by decide +kernel, by decide +kernel⟩
def isNameB (t : PTok) : Bool := match t.tok with
  | .name _ => true
  | _ => false
def isNumB (t : PTok) : Bool := match t.tok with
  | .num _ => true
  | _ => false
def isSignB (t : PTok) : Bool := match t.tok with
  | .sign _ => true
  | _ => false
theorem kind_word (t : PTok) : decide (V.str (kindS t) = V.str ("word" : Str)) = isNameB t := by
  obtain ⟨p, tk⟩ := t
  cases tk <;> (first | rfl | decide +kernel)
theorem kind_number (t : PTok) : decide (V.str (kindS t) = V.str ("number" : Str)) = isNumB t := by
  obtain ⟨p, tk⟩ := t
  cases tk <;> (first | rfl | decide +kernel)
theorem kind_sign (t : PTok) : decide (V.str (kindS t) = V.str ("sign" : Str)) = isSignB t := by
  obtain ⟨p, tk⟩ := t
  cases tk <;> (first | rfl | decide +kernel)
theorem str_dec (b w : Bytes) : decide (V.str (sT b) = V.str (sT w)) = (b == w) := by
  rw [Bool.eq_iff_iff]
  simp only [decide_eq_true_eq, V.str.injEq, beq_iff_eq]
  exact sT_eq_iff
theorem next_name (w : Bytes) (t : PTok) (r : Toks) : next (.name w) (t :: r) = (isNameB t && decide (whatV t = V.str (sT w))) := by
  obtain ⟨p, tk⟩ := t
  cases tk with
  | name b => show (b == w) = (true && decide (V.str (sT b) = V.str (sT w))); rw [str_dec, Bool.true_and]
  | num n => rfl
  | sign c => rfl
  | last => rfl
/-- one of some words -/
def takeOne (ws : List Bytes) (l : Toks) : Except VasedBase.Fault (Bytes × Toks) := match l with
  | ⟨p, .name b⟩ :: r => if ws.contains b = true then .ok (b, r) else wrong l
  | _ => wrong l
def strsOf (ws : List Bytes) : List V := ws.map fun w => V.str (sT w)
theorem in_strs (b : Bytes) : ∀ ws : List Bytes, inV (.str (sT b)) (strsOf ws) = ws.contains b
  | [] => rfl
  | w :: r => by
    show (eqV (.str (sT w)) (.str (sT b)) || inV (.str (sT b)) (strsOf r)) = _
    rw [in_strs b r, List.contains_cons]
    congr 1
    show (sT w == sT b) = (b == w)
    rw [Bool.eq_iff_iff, beq_iff_eq, beq_iff_eq]
    exact ⟨fun h => (sT_inj h).symm, fun h => by rw [h]⟩
theorem strs_flat (ws : List Bytes) : (strsOf ws).all flatV = true := by simp [strsOf, flatV]
theorem wrong_here {A : Type} (t : PTok) (r : Toks) : (wrong (t :: r) : Except VasedBase.Fault A) = .error ⟨3, t.place⟩ := rfl
/-- a first item, a second -/
def spTakeOne (K : PySem.W.Frag) (CR CF : Addr) : Sp := fun vs H Q E => ∃ r a l rk i p ws, vs = [.ref r, .ref p] ∧ RdAt K CR H r a l rk i ∧ TokWf l ∧ SqT K H p (strsOf ws) ∧ Parse K CR CF (takeOne ws) r a l rk i H E fun b _ H' => Q (.str (sT b)) H'
/-- a semicolon -/
def takeEnd (l : Toks) : Except VasedBase.Fault (Unit × Toks) := (takeSign 59 l).map fun m => ((), m)
def spTakeEnd (K : PySem.W.Frag) (CR CF : Addr) : Sp := fun vs H Q E => ∃ r a l rk i, vs = [.ref r] ∧ RdAt K CR H r a l rk i ∧ TokWf l ∧ Parse K CR CF takeEnd r a l rk i H E fun _ _ H' => Q .non H'
def spTakeNumber (K : PySem.W.Frag) (CR CF : Addr) : Sp := fun vs H Q E => ∃ r a l rk i, ∃ lo hi : Nat, vs = [.ref r, .int (lo : Int), .int (hi : Int)] ∧ RdAt K CR H r a l rk i ∧ TokWf l ∧ Parse K CR CF (Vaseda.takeNum lo hi) r a l rk i H E fun n _ H' => Q (.int (n : Nat)) H'
section
variable {P : Program} {w : World} {K : PySem.W.Frag} {mg : Str → Option Value} {base : Heap} {CF CR : Addr}
theorem ok_is_word (F : MF K CR "is_word" "Reader.is_word" (sReader 2)) (T : ReaderT K mg CR) (D : MD P w K mg base CX0 1 CR "ahead" ["self"] (spAhead K CR)) : MD P w K mg base CX0 2 CR "is_word" ["self", "word"] (spIsWord K CR) := by
  obtain ⟨f, fd, F, hm⟩ := F
  refine ⟨f, fd, F.ok scIsWord (fun vs H Q E h => ?_) (fun cdv A outer s H vs Q E hr h => ⟨_, pss_cons (ps_set (i := 2) scIsWord.nd rfl (Or.inl rfl) (pe_m0 D T.cl hr pass0 (pv 0)))
      (pss_one (ps_ret (pe_and (pe_cmpR op_eq (pe_ix ix_tup (pv 2) L2.pe_int (fun _ _ => rfl)) pe_str (nomark _)) (pe_one (pe_cmpR op_eq (pe_ix ix_tup (pv 2) L2.pe_int (fun _ _ => rfl)) (pv 1) (nomark _)))))), ?_⟩), hm, F.binds fun _ _ _ _ _ _ us hl => match us, hl with | [_, _], _ => rfl⟩
  · obtain ⟨r, a, l, rk, i, w, rfl, _⟩ := h
    rfl
  · obtain ⟨r, a, l, rk, i, w, rfl, hR, q⟩ := h
    have hR0 := hR
    obtain ⟨dx, vs, h1, h2, h3, hi⟩ := hR
    refine ⟨_, rfl, r, dx, _, rfl, h1, rF_none a i (by decide +kernel) (by decide +kernel), r, a, l, rk, i, rfl, hR0, fun v t ht tk => ?_⟩
    obtain ⟨p, rfl, sq⟩ := tk.sq
    rw [drop_get ht, next_name] at q
    dsimp only [gName, tRet]
    show tAndV _ _ _ _ _
    refine andV (c := isNameB t) (d := decide (whatV t = V.str (sT w))) (fun R rr => ⟨_, rfl, p, _, 0, _, rfl, rfl, sq, atI_nat (j := 0) rfl, rfl, ?_⟩) (fun hn R rr => ⟨_, rfl, p, _, 1, _, rfl, rfl, sq, atI_nat (j := 1) rfl, _, rfl, ?_, rr⟩) q
    · rw [kind_word]
      exact rr
    · obtain ⟨pp, tk2⟩ := t
      cases tk2 with
      | name b => rfl
      | num n => cases hn
      | sign c => cases hn
      | last => cases hn
theorem ok_take_one (F : MF K CR "take_one_of" "Reader.take_one_of" (sReader 4)) (T : ReaderT K mg CR) (TF : FaultT K mg CF) (FD : FaultD P w K mg base CF (spFault CF)) (D : MD P w K mg base CX0 1 CR "ahead" ["self"] (spAhead K CR)) (D2 : MD P w K mg base CX0 2 CR "take" ["self"] (spTake K CR)) :
    MD P w K mg base (L2.CX P w) 3 CR "take_one_of" ["self", "words"] (spTakeOne K CR CF) := by
  obtain ⟨f, fd, F, hm⟩ := F
  refine ⟨f, fd, F.okX scTakeOne (fun vs H Q E h => ?_) (fun cdv A outer s H vs Q E hr h => ⟨_, pss_cons (ps_set (i := 2) scTakeOne.nd rfl (Or.inl rfl) (pe_m0 D T.cl (hr.mono (by decide)) pass0 (pv 0)))
      (pss_cons (ps_if (PW.pt (pw_or (pt_cmpR op_ne (pe_ix ix_tup (pv 2) L2.pe_int (fun _ _ => rfl)) pe_str (nomark _)) (pw_or1 (pt_cmpR op_notIn_seq (pe_ix ix_tup (pv 2) L2.pe_int (fun _ _ => rfl)) (pv 1) (by rfl)))))
          (pss_one (ps_fault TF FD hr (takes_of rfl rfl rfl rfl) (pa_cons L2.pe_int (pa_cons (pe_ix ix_tup (pv 2) L2.pe_int (fun _ _ => rfl)) pa_nil)))) pss_nil)
      (pss_one (ps_ret (pe_ix ix_tup (pe_m0 D2 T.cl hr pass0 (pv 0)) L2.pe_int (fun _ _ => rfl))))), ?_⟩), hm, F.binds fun _ _ _ _ _ _ us hl => match us, hl with | [_, _], _ => rfl⟩
  · obtain ⟨r, a, l, rk, i, p, ws, rfl, _⟩ := h
    rfl
  · obtain ⟨r, a, l, rk, i, p, ws, rfl, hR, wf, hW, q0, q1⟩ := h
    have hR0 := hR
    obtain ⟨dx, vs, h1, h2, h3, hi⟩ := hR
    refine ⟨_, rfl, r, dx, _, rfl, h1, rF_none a i (by decide +kernel) (by decide +kernel), r, a, l, rk, i, rfl, hR0, fun v t ht tk => ?_⟩
    obtain ⟨tp, rfl, sq⟩ := tk.sq
    rw [drop_get ht] at q0 q1
    refine ⟨_, rfl, tp, _, 0, _, rfl, rfl, sq, atI_nat (j := 0) rfl, rfl, _, rfl, ?_⟩
    rw [kind_word]
    have fail : (takeOne ws (t :: l.drop (i + 1)) = wrong (t :: l.drop (i + 1))) → FaultE CF E H 3 (t.place : Nat) := fun e => (q0 ⟨3, t.place⟩ (e.trans (wrong_here t _))).fe
    obtain ⟨pl, tk2⟩ := t
    cases tk2 with
    | name b =>
      refine iteF ?_
      refine ⟨_, rfl, tp, _, 1, _, rfl, rfl, sq, atI_nat (j := 1) rfl, _, rfl, p, _, rfl, .inr hW, rfl, strs_flat ws, _, rfl, ?_⟩
      show if (if true = true then !inV (V.str (sT b)) (strsOf ws) else inV (V.str (sT b)) (strsOf ws)) = true then _ else _
      rw [if_pos rfl, in_strs]
      cases hc : ws.contains b with
      | false => exact iteT ⟨_, rfl, tp, _, 2, _, rfl, rfl, sq, atI_nat (j := 2) rfl, fault_tail (fail (by show (if ws.contains b = true then _ else _) = _; rw [hc, if_neg (by decide)]))⟩
      | true =>
        have hm1 := wf.more ht (by simp)
        refine iteF ⟨_, rfl, r, dx, _, rfl, h1, rF_none a i (by decide +kernel) (by decide +kernel), r, a, l, rk, i, _, rfl, hR0, ht, hm1, fun v H' k' hR' tk' => ?_⟩
        obtain ⟨tp2, rfl, sq2⟩ := tk'.sq
        exact ⟨tp2, _, 1, _, rfl, rfl, sq2, atI_nat (j := 1) rfl, q1 b (i + 1) (by show (if ws.contains b = true then _ else _) = _; rw [hc, if_pos rfl]) (Nat.lt_succ_self i) H' k' hR'⟩
    | num n => exact iteT (iteT ⟨_, rfl, tp, _, 2, _, rfl, rfl, sq, atI_nat (j := 2) rfl, fault_tail (fail rfl)⟩)
    | sign c => exact iteT (iteT ⟨_, rfl, tp, _, 2, _, rfl, rfl, sq, atI_nat (j := 2) rfl, fault_tail (fail rfl)⟩)
    | last => exact iteT (iteT ⟨_, rfl, tp, _, 2, _, rfl, rfl, sq, atI_nat (j := 2) rfl, fault_tail (fail rfl)⟩)
end
end Lsd
/-! Reader: take_end_of_command, take_number, take_letters, take_letters_or_none -/
namespace Lsd
open PySem PySem.Spec PyProof.Rows L2
open VasedBase hiding Tok
theorem scTakeLetters : FnScope ["self", "token"] ["self"] (defScope (sReader 6)) := ⟨rfl, rfl, rfl, by decide +kernel, rfl, by decide +kernel, by decide +kernel⟩
theorem scTakeInstead : FnScope ["self"] ["self"] (defScope (sReader 7)) := ⟨rfl, rfl, rfl, by decide +kernel, rfl, by decide +kernel, by decide +kernel⟩
def spLettersN (K : PySem.W.Frag) (CR CF : Addr) : SpN := fun n vs H Q E => ∃ r a l rk i, vs = [.ref r] ∧ RdAt K CR H r a l rk i ∧ TokWf l ∧ Parse K CR CF Vaseda.takeLetters r a l rk i H E fun b _ H' => Q n (.str (sT b) (rk.getD i 0)) (.str (sT b)) H'
def spInsteadN (K : PySem.W.Frag) (CR CF : Addr) : SpN := fun n vs H Q E => ∃ r a l rk i, vs = [.ref r] ∧ RdAt K CR H r a l rk i ∧ TokWf l ∧ Parse K CR CF Vaseda.takeInstead r a l rk i H E fun b _ H' =>
  ∀ m t, n ≤ m → ((t = rk.getD i 0 ∧ ∃ u, l[i]? = some u ∧ isName u) ∨ n ≤ t) → Q m (.str (sT b) t) (.str (sT b)) H'
section
variable {P : Program} {w : World} {K : PySem.W.Frag} {mg : Str → Option Value} {base : Heap} {CF CR : Addr}
theorem ok_take_end (F : MF K CR "take_end_of_command" "Reader.take_end_of_command" (sReader 5)) (T : ReaderT K mg CR) (TF : FaultT K mg CF) (FD : FaultD P w K mg base CF (spFault CF)) (D : MD P w K mg base CX0 1 CR "ahead" ["self"] (spAhead K CR)) (D2 : MD P w K mg base CX0 2 CR "take" ["self"] (spTake K CR)) :
    MD P w K mg base (L2.CX P w) 3 CR "take_end_of_command" ["self"] (spTakeEnd K CR CF) := by
  obtain ⟨f, fd, F, hm⟩ := F
  refine ⟨f, fd, F.okX scTakeEnd (fun vs H Q E h => ?_) (fun cdv A outer s H vs Q E hr h => ⟨_, pss_cons (ps_if (pt_cmpR op_ne (pe_ix ix_tup (pe_m0 D T.cl (hr.mono (by decide)) pass0 (pv 0)) L2.pe_int (fun _ _ => rfl)) pe_str (nomark _))
          (pss_one (ps_fault TF FD hr (takes_of rfl rfl rfl rfl) (pa_cons L2.pe_int (pa_cons (pe_ix ix_tup (pe_m0 D T.cl (hr.mono (by decide)) pass0 (pv 0)) L2.pe_int (fun _ _ => rfl)) pa_nil)))) pss_nil)
      (pss_one (ps_expr (pe_m0 D2 T.cl hr pass0 (pv 0)))), ?_⟩), hm, F.binds fun _ _ _ _ _ _ us hl => match us, hl with | [_], _ => rfl⟩
  · obtain ⟨r, a, l, rk, i, rfl, _⟩ := h
    rfl
  · obtain ⟨r, a, l, rk, i, rfl, hR, wf, q0, q1⟩ := h
    have hR0 := hR
    obtain ⟨dx, vs, h1, h2, h3, hi⟩ := hR
    refine ⟨_, rfl, r, dx, _, rfl, h1, rF_none a i (by decide +kernel) (by decide +kernel), r, a, l, rk, i, rfl, hR0, fun v t ht tk => ?_⟩
    obtain ⟨tp, rfl, sq⟩ := tk.sq
    rw [drop_get ht] at q0 q1
    refine ⟨tp, _, 0, _, rfl, rfl, sq, atI_nat (j := 0) rfl, rfl, _, rfl, ?_⟩
    rw [kind_sign]
    have fail : (takeEnd (t :: l.drop (i + 1)) = .error ⟨3, t.place⟩) → FaultE CF E H 3 (t.place : Nat) := fun e => (q0 ⟨3, t.place⟩ e).fe
    have bad : takeEnd (t :: l.drop (i + 1)) = .error ⟨3, t.place⟩ → if (!isSignB t) = true then tMkO CF (spFault CF) [] (tCons (tC (.int 3)) (tCons (tOp (rIxT K) (tMeth CR "ahead" (spAhead K CR) [] E0 (tVar 0) tNil) (tC (.int 2))) tNil)) (L2.start ["self"] [.ref r]) H (fun cls d H' => E cls d H') else True := fun e => by
      cases hs : isSignB t with
      | true => exact iteF trivial
      | false =>
        refine iteT ⟨_, rfl, r, dx, _, rfl, h1, rF_none a i (by decide +kernel) (by decide +kernel), r, a, l, rk, i, rfl, hR0, fun v2 t2 ht2 tk2 => ?_⟩
        rw [ht] at ht2
        cases ht2
        obtain ⟨tp2, rfl, sq2⟩ := tk2.sq
        exact ⟨tp2, _, 2, _, rfl, rfl, sq2, atI_nat (j := 2) rfl, fault_tail (fail e)⟩
    obtain ⟨pl, tk2⟩ := t
    cases tk2 with
    | name b => exact bad rfl
    | num n => exact bad rfl
    | last => exact bad rfl
    | sign c =>
      have hc : c = 59 := wf.sign _ (TokWf.mem ht) c rfl
      subst hc
      refine iteF ?_
      refine ⟨_, rfl, r, dx, _, rfl, h1, rF_none a i (by decide +kernel) (by decide +kernel), r, a, l, rk, i, _, rfl, hR0, ht, wf.more ht (by simp), fun v H' k' hR' tk' => ?_⟩
      exact q1 () (i + 1) rfl (Nat.lt_succ_self i) H' k' hR'
theorem ok_take_number (F : MF K CR "take_number" "Reader.take_number" (sReader 8)) (T : ReaderT K mg CR) (TF : FaultT K mg CF) (FD : FaultD P w K mg base CF (spFault CF)) (D : MD P w K mg base CX0 1 CR "ahead" ["self"] (spAhead K CR)) (D2 : MD P w K mg base CX0 2 CR "take" ["self"] (spTake K CR)) :
    MD P w K mg base (L2.CX P w) 3 CR "take_number" ["self", "least", "most"] (spTakeNumber K CR CF) := by
  obtain ⟨f, fd, F, hm⟩ := F
  refine ⟨f, fd, F.okX scTakeNumber (fun vs H Q E h => ?_) (fun cdv A outer s H vs Q E hr h => ⟨_, pss_cons (ps_set (i := 3) scTakeNumber.nd rfl (Or.inl rfl) (pe_m0 D T.cl (hr.mono (by decide)) pass0 (pv 0)))
      (pss_cons (ps_if (pt_cmpR op_ne (pe_ix ix_tup (pv 3) L2.pe_int (fun _ _ => rfl)) pe_str (nomark _))
          (pss_one (ps_fault TF FD hr (takes_of rfl rfl rfl rfl) (pa_cons L2.pe_int (pa_cons (pe_ix ix_tup (pv 3) L2.pe_int (fun _ _ => rfl)) pa_nil)))) pss_nil)
      (pss_cons (ps_if (PW.pt (pw_or (pt_cmpR op_lt (pe_ix ix_tup (pv 3) L2.pe_int (fun _ _ => rfl)) (pv 1) (nomark _)) (pw_or1 (pt_cmpR op_gt (pe_ix ix_tup (pv 3) L2.pe_int (fun _ _ => rfl)) (pv 2) (nomark _)))))
          (pss_one (ps_fault TF FD hr (takes_of rfl rfl rfl rfl) (pa_cons L2.pe_int (pa_cons (pe_ix ix_tup (pv 3) L2.pe_int (fun _ _ => rfl)) pa_nil)))) pss_nil)
      (pss_one (ps_ret (pe_ix ix_tup (pe_m0 D2 T.cl hr pass0 (pv 0)) L2.pe_int (fun _ _ => rfl)))))), ?_⟩), hm, F.binds fun _ _ _ _ _ _ us hl => match us, hl with | [_, _, _], _ => rfl⟩
  · obtain ⟨r, a, l, rk, i, lo, hi, rfl, _⟩ := h
    rfl
  · obtain ⟨r, a, l, rk, i, lo, hi, rfl, hR, wf, q0, q1⟩ := h
    have hR0 := hR
    obtain ⟨dx, vs, h1, h2, h3, hil⟩ := hR
    refine ⟨_, rfl, r, dx, _, rfl, h1, rF_none a i (by decide +kernel) (by decide +kernel), r, a, l, rk, i, rfl, hR0, fun v t ht tk => ?_⟩
    obtain ⟨tp, rfl, sq⟩ := tk.sq
    rw [drop_get ht] at q0 q1
    refine ⟨_, rfl, tp, _, 0, _, rfl, rfl, sq, atI_nat (j := 0) rfl, rfl, _, rfl, ?_⟩
    rw [kind_number]
    have fail : (Vaseda.takeNum lo hi (t :: l.drop (i + 1)) = wrong (t :: l.drop (i + 1))) → FaultE CF E H 3 (t.place : Nat) := fun e => (q0 ⟨3, t.place⟩ (e.trans (wrong_here t _))).fe
    obtain ⟨pl, tk2⟩ := t
    cases tk2 with
    | name b => exact iteT ⟨_, rfl, tp, _, 2, _, rfl, rfl, sq, atI_nat (j := 2) rfl, fault_tail (fail rfl)⟩
    | sign c => exact iteT ⟨_, rfl, tp, _, 2, _, rfl, rfl, sq, atI_nat (j := 2) rfl, fault_tail (fail rfl)⟩
    | last => exact iteT ⟨_, rfl, tp, _, 2, _, rfl, rfl, sq, atI_nat (j := 2) rfl, fault_tail (fail rfl)⟩
    | num n =>
      refine iteF ?_
      dsimp only [tNext, tSeq, tIfS]
      show tOr _ _ _ _ _
      refine orT (c := decide ((n : Int) < (lo : Int))) (d := decide ((hi : Int) < (n : Int))) (fun R rr => ⟨_, rfl, tp, _, 1, _, rfl, rfl, sq, atI_nat (j := 1) rfl, _, rfl, _, _, rfl, rfl, _, rfl, rr⟩) (fun _ R rr => ⟨_, rfl, tp, _, 1, _, rfl, rfl, sq, atI_nat (j := 1) rfl, _, rfl, _, _, rfl, rfl, _, rfl, rr⟩) ?_
      have en : (decide ((n : Int) < (lo : Int)) || decide ((hi : Int) < (n : Int))) = true ↔ (n < lo ∨ hi < n) := by
        rw [Bool.or_eq_true, decide_eq_true_eq, decide_eq_true_eq]
        omega
      refine ite2 (fun z => ?_) fun z => ?_
      · exact ⟨_, rfl, tp, _, 2, _, rfl, rfl, sq, atI_nat (j := 2) rfl, fault_tail ((q0 ⟨7, pl⟩ (by show (if n < lo ∨ hi < n then _ else _) = _; rw [if_pos (en.mp z)])).fe)⟩
      · refine ⟨_, rfl, r, dx, _, rfl, h1, rF_none a i (by decide +kernel) (by decide +kernel), r, a, l, rk, i, _, rfl, hR0, ht, wf.more ht (by simp), fun v H' k' hR' tk' => ?_⟩
        obtain ⟨tp2, rfl, sq2⟩ := tk'.sq
        exact ⟨tp2, _, 1, _, rfl, rfl, sq2, atI_nat (j := 1) rfl, q1 n (i + 1) (by show (if n < lo ∨ hi < n then _ else _) = _; rw [if_neg (fun y => z (en.mpr y))]) (Nat.lt_succ_self i) H' k' hR'⟩
/-- letters: the word's own token -/
theorem ok_take_letters (F : MF K CR "take_letters" "Reader.take_letters" (sReader 6)) (T : ReaderT K mg CR) (TF : FaultT K mg CF) (FD : FaultD P w K mg base CF (spFault CF)) (D : MD P w K mg base CX0 1 CR "ahead" ["self"] (spAhead K CR)) (D2 : MD P w K mg base CX0 2 CR "take" ["self"] (spTake K CR))
    (cO : GT K mg "OWN_WORDS" (strsOf RESERVED)) : MN P w K mg base (L2.CX P w) 3 CR "take_letters" ["self"] (spLettersN K CR CF) := by
  obtain ⟨f, fd, F, hm⟩ := F
  refine ⟨f, fd, fun_n F scTakeLetters (fun n vs H Q E h => ?_) (fun cdv A outer s H vs n Q E hr h => ⟨_, pssn_cons (psn_of (ps_set (i := 1) scTakeLetters.nd rfl (Or.inl rfl) (pe_m0 D T.cl (hr.mono (by decide)) pass0 (pv 0))))
      (pssn_cons (psn_of (ps_if (PW.pt (pw_or (pt_cmpR op_ne (pe_ix ix_tup (pv 1) L2.pe_int (fun _ _ => rfl)) pe_str (nomark _)) (pw_or1 (pt_cmpR op_in_seq (pe_ix ix_tup (pv 1) L2.pe_int (fun _ _ => rfl)) (pe_gt cO) (by rfl)))))
          (pss_one (ps_fault TF FD hr (takes_of rfl rfl rfl rfl) (pa_cons L2.pe_int (pa_cons (pe_ix ix_tup (pv 1) L2.pe_int (fun _ _ => rfl)) pa_nil)))) pss_nil))
      (pssn_one (psn_ret (pen_item (j := 1) (pe_m0 D2 T.cl hr pass0 (pv 0)))))), ?_⟩), hm, F.binds fun _ _ _ _ _ _ us hl => match us, hl with | [_], _ => rfl⟩
  · obtain ⟨r, a, l, rk, i, rfl, _⟩ := h
    rfl
  · obtain ⟨r, a, l, rk, i, rfl, hR, wf, q0, q1⟩ := h
    have hR0 := hR
    obtain ⟨dx, vs, h1, h2, h3, hi⟩ := hR
    refine ⟨_, rfl, r, dx, _, rfl, h1, rF_none a i (by decide +kernel) (by decide +kernel), r, a, l, rk, i, rfl, hR0, fun v t ht tk => ?_⟩
    obtain ⟨tp, rfl, sq⟩ := tk.sq
    rw [drop_get ht] at q0 q1
    refine ⟨_, rfl, tp, _, 0, _, rfl, rfl, sq, atI_nat (j := 0) rfl, rfl, _, rfl, ?_⟩
    rw [kind_word]
    have fail : (Vaseda.takeLetters (t :: l.drop (i + 1)) = .error ⟨3, t.place⟩) → FaultE CF E H 3 (t.place : Nat) := fun e => (q0 ⟨3, t.place⟩ e).fe
    obtain ⟨pl, tk2⟩ := t
    cases tk2 with
    | name b =>
      refine iteF ?_
      refine ⟨_, rfl, tp, _, 1, _, rfl, rfl, sq, atI_nat (j := 1) rfl, fun p kp => ⟨p, _, rfl, .inr kp.sq, rfl, strs_flat RESERVED, _, rfl, ?_⟩⟩
      show if (if false = true then !inV (V.str (sT b)) (strsOf RESERVED) else inV (V.str (sT b)) (strsOf RESERVED)) = true then _ else _
      rw [if_neg Bool.false_ne_true, in_strs]
      cases hc : RESERVED.contains b with
      | true => exact iteT ⟨_, rfl, tp, _, 2, _, rfl, rfl, sq, atI_nat (j := 2) rfl, fault_tail (fail (by show ((if RESERVED.contains b = true then _ else _ : Except VasedBase.Fault (PName × Toks)).map _) = _; rw [hc, if_pos rfl]; rfl))⟩
      | false =>
        refine iteF ⟨_, rfl, r, dx, _, rfl, h1, rF_none a i (by decide +kernel) (by decide +kernel), r, a, l, rk, i, _, rfl, hR0, ht, wf.more ht (by simp), fun v H' k' hR' tk' => ?_⟩
        obtain ⟨tp2, us, rfl, hf, hu⟩ := tk'
        exact ⟨tp2, _, us, _, _, rfl, hf, hu, rfl, q1 b (i + 1) (by show ((if RESERVED.contains b = true then _ else _ : Except VasedBase.Fault (PName × Toks)).map _) = _; rw [hc, if_neg (by decide)]; rfl) (Nat.lt_succ_self i) H' k' hR'⟩
    | num n => exact iteT (iteT ⟨_, rfl, tp, _, 2, _, rfl, rfl, sq, atI_nat (j := 2) rfl, fault_tail (fail rfl)⟩)
    | sign c => exact iteT (iteT ⟨_, rfl, tp, _, 2, _, rfl, rfl, sq, atI_nat (j := 2) rfl, fault_tail (fail rfl)⟩)
    | last => exact iteT (iteT ⟨_, rfl, tp, _, 2, _, rfl, rfl, sq, atI_nat (j := 2) rfl, fault_tail (fail rfl)⟩)
theorem none_word : (Str.ofString "none") = sT (word "none") := by decide +kernel
theorem empty_word : (Str.ofString "") = sT [] := by decide +kernel
theorem letters_name {l : Toks} {i : Nat} {x : Bytes × Toks} (h : Vaseda.takeLetters (l.drop i) = .ok x) : ∃ t, l[i]? = some t ∧ isName t := by
  cases e : l[i]? with
  | none =>
    rw [List.drop_eq_nil_of_le (List.getElem?_eq_none_iff.mp e)] at h
    cases h
  | some t =>
    rw [drop_get e] at h
    obtain ⟨p, tk⟩ := t
    cases tk with
    | name b => exact ⟨_, rfl, b, rfl⟩
    | num n => cases h
    | sign c => cases h
    | last => cases h
theorem ok_take_instead (F : MF K CR "take_letters_or_none" "Reader.take_letters_or_none" (sReader 7)) (T : ReaderT K mg CR) (D : MD P w K mg base CX0 2 CR "is_word" ["self", "word"] (spIsWord K CR)) (D2 : MD P w K mg base CX0 2 CR "take" ["self"] (spTake K CR))
    (D3 : MN P w K mg base (L2.CX P w) 3 CR "take_letters" ["self"] (spLettersN K CR CF)) : MN P w K mg base (L2.CX P w) 4 CR "take_letters_or_none" ["self"] (spInsteadN K CR CF) := by
  obtain ⟨f, fd, F, hm⟩ := F
  refine ⟨f, fd, fun_n F scTakeInstead (fun n vs H Q E h => ?_) (fun cdv A outer s H vs n Q E hr h => ⟨_,
      pssn_cons (psn_if (pt_val (pe_m D T.cl (hr.mono (by decide)) pass0 (pv 0) (pa_cons pe_str pa_nil))) (pssn_cons (psn_of (ps_expr (pe_m0 D2 T.cl (hr.mono (by decide)) pass0 (pv 0)))) (pssn_one (psn_ret pen_str))) pssn_nil)
      (pssn_one (psn_ret (pen_m0 D3 T.cl hr (passW (takes_of rfl rfl rfl rfl)) (pv 0)))), ?_⟩), hm, F.binds fun _ _ _ _ _ _ us hl => match us, hl with | [_], _ => rfl⟩
  · obtain ⟨r, a, l, rk, i, rfl, _⟩ := h
    rfl
  · obtain ⟨r, a, l, rk, i, rfl, hR, wf, q0, q1⟩ := h
    have hR0 := hR
    obtain ⟨dx, vs, h1, h2, h3, hi⟩ := hR
    refine ⟨_, rfl, r, dx, _, rfl, h1, rF_none a i (by decide +kernel) (by decide +kernel), r, a, l, rk, i, word "none", by rw [none_word] <;> rfl, hR0, _, rfl, ?_⟩
    have es : Vaseda.takeInstead (l.drop i) = if next (.name (word "none")) (l.drop i) = true then .ok ([], (l.drop i).drop 1) else Vaseda.takeLetters (l.drop i) := rfl
    cases hn : next (.name (word "none")) (l.drop i) with
    | true =>
      rw [hn, if_pos rfl, List.drop_drop] at es
      obtain ⟨t, ht⟩ := hR0.tok
      have hnl : t.tok ≠ .last := fun e => by
        rw [drop_get ht] at hn
        obtain ⟨p, tk⟩ := t
        cases e
        cases hn
      refine iteT ⟨_, rfl, r, dx, _, rfl, h1, rF_none a i (by decide +kernel) (by decide +kernel), r, a, l, rk, i, t, rfl, hR0, ht, wf.more ht hnl, fun v H' k' hR' tk' => ?_⟩
      intro t2 ht2
      have q := q1 [] (i + 1) es (Nat.lt_succ_self i) H' k' hR' (t2 + 1) t2 (by omega) (.inr ht2)
      rw [← empty_word] at q
      exact q
    | false =>
      rw [hn, if_neg (by decide)] at es
      refine iteF ?_
      refine ⟨_, rfl, r, dx, _, rfl, h1, rF_none a i (by decide +kernel) (by decide +kernel), r, a, l, rk, i, rfl, hR0, wf, fun f e => q0 f (es.trans e), fun x j e hj H' k' hR' => ?_⟩
      exact q1 x j (es.trans e) hj H' k' hR' n (rk.getD i 0) (Nat.le_refl n) (.inl ⟨rfl, letters_name e⟩)
end
end Lsd
/-! Reader.__init__, read_plain_address -/
namespace Lsd
open PySem PySem.Spec PyProof.Rows L2
open VasedBase hiding Tok
theorem if_tr {c : Bool} {A B : Prop} (hc : c = true) (h : A) : if c = true then A else B := by
  rw [if_pos hc]
  exact h
theorem if_fl {c : Bool} {A B : Prop} (hc : c = false) (h : B) : if c = true then A else B := by
  rw [hc, if_neg Bool.false_ne_true]
  exact h
theorem scReaderInit : FnScope ["self", "script"] ["self", "script"] (defScope (sReader 0)) := ⟨rfl, rfl, rfl, by decide +kernel, rfl, by decide +kernel, by decide +kernel⟩
/-- what a class must have to be made, with its __init__ in the text -/
def InitF (K : PySem.W.Frag) (C : Addr) (qual : Str) (st : Stmt) : Prop := ∃ f fd, Fun K "__init__" qual st f fd ∧ Mk K C f
def spReaderInit (K : PySem.W.Frag) (CR CF : Addr) : SpN := fun n vs H Q E => ∃ x dx a b, vs = [.ref x, .ref a] ∧ H x = some (.ins CR dx []) ∧ SqL K H a (ofB b) ∧ b.length ≤ 10000 ∧ (∀ f, tokens b = .error f → FaultE CF E H f.code f.place) ∧
  ∀ l, tokens b = .ok l → ∀ p rk m H', (∀ c o, H c = some o → c ≠ x → H' c = some o) → RdAt K CR H' x p l rk 0 → Ranks l rk m → 1 ≤ m → l.length ≤ b.length + 1 → Q m .none .non H'
structure MkN (P : Program) (w : World) (K : PySem.W.Frag) (mg : Str → Option Value) (base : Heap) (CX : CXT) (k : Nat) (C : Addr) (ps : List Str) (sp : SpN) : Prop where
  ex : ∃ f fd, FnN P w K mg base CX k f fd ps sp ∧ Mk K C f ∧ Binds K fd ps []
theorem wf_pos {l : Toks} (w : TokWf l) : 0 < l.length := by
  obtain ⟨l0, p, e, _⟩ := w.last
  rw [e, List.length_append]
  exact Nat.succ_pos _
section
variable {P : Program} {w : World} {K : PySem.W.Frag} {mg : Str → Option Value} {base : Heap} {CF CR : Addr}
theorem ok_reader_init (F : InitF K CR "Reader.__init__" (sReader 0)) (T : ReaderT K mg CR) (D : GN P w K mg base (L2.CX P w) 5 "tokens_of" ["script"] (spTokens K CF)) : MkN P w K mg base (L2.CX P w) 6 CR ["self", "script"] (spReaderInit K CR CF) := by
  obtain ⟨f, fd, F, hm⟩ := F
  refine ⟨f, fd, fun_n F scReaderInit (fun n vs H Q E h => ?_) (fun cdv A outer s H vs n Q E hr h => ⟨_, pssn_cons (psn_fld (pv 0) (pen_g D hr (passW (takes_of rfl rfl rfl rfl)) (pan_of (pa_cons (pv 1) pa_nil)))) (pssn_one (psn_of (ps_fld (pv 0) L2.pe_int rfl))), ?_⟩), hm, F.binds fun _ _ _ _ _ _ us hl => match us, hl with | [_, _], _ => rfl⟩
  · obtain ⟨x, dx, a, b, rfl, _⟩ := h
    rfl
  · obtain ⟨x, dx, a, b, rfl, hx, hS, hz, q0, q1⟩ := h
    refine ⟨_, rfl, fun us rus => ⟨a, b, rfl, hS, hz, q0, fun l etok p vs rk m H' s1 hp tv rks h1 hlen => ?_⟩⟩
    have hx1 := s1 _ _ hx
    have npx : p ≠ x := fun z => by rw [z, hx1] at hp; cases hp
    refine ⟨_, rfl, x, CR, dx, _, rfl, hx1, T.cl, T.nT, by show 0 < 1000; decide, ?_⟩
    refine ⟨_, rfl, x, CR, dx, _, rfl, upd_same, T.cl, T.nH, by show 1 < 1000; decide, ?_⟩
    rw [upd_upd]
    have e : putF "here" (.int 0) (putF "tokens" (.ref p) []) = rF p 0 := (putF_past (by decide +kernel)).trans rfl
    rw [e]
    refine q1 l etok p rk m _ (fun c o hc hn => (upd_ne hn).trans (s1 c o hc)) ⟨dx, vs, upd_same, (upd_ne npx).trans hp, tv.keep (KeepT.updi hx1), wf_pos (tokens_wf etok)⟩ rks h1 hlen
end
/-! ### addresses -/
def AtA (K : PySem.W.Frag) (H : Hp) : Vaseda.Addr → V → Prop
  | .all, v => ∃ p, v = .ref p ∧ SqT K H p [.str "all"]
  | .line n, v => ∃ p, v = .ref p ∧ SqT K H p [.str "line", .int (n : Int)]
  | .span a b, v => ∃ p, v = .ref p ∧ SqT K H p [.str "from", .int (a : Int), .int (b : Int)]
  | .last, v => ∃ p, v = .ref p ∧ SqT K H p [.str "last"]
  | .has x, v => ∃ p, v = .ref p ∧ SqT K H p [.str "has", .str (sT x)]
  | .is_ x, v => ∃ p, v = .ref p ∧ SqT K H p [.str "is", .str (sT x)]
  | .not a, v => ∃ p v', v = .ref p ∧ SqT K H p [.str "not", v'] ∧ AtA K H a v'
theorem AtA.keep {K : PySem.W.Frag} {H H' : Hp} (k : KeepT H H') : ∀ {a : Vaseda.Addr} {v : V}, AtA K H a v → AtA K H' a v
  | .all, v, ⟨p, e, h⟩ => ⟨p, e, k.sq h⟩
  | .line n, v, ⟨p, e, h⟩ => ⟨p, e, k.sq h⟩
  | .span a b, v, ⟨p, e, h⟩ => ⟨p, e, k.sq h⟩
  | .last, v, ⟨p, e, h⟩ => ⟨p, e, k.sq h⟩
  | .has x, v, ⟨p, e, h⟩ => ⟨p, e, k.sq h⟩
  | .is_ x, v, ⟨p, e, h⟩ => ⟨p, e, k.sq h⟩
  | .not a, v, ⟨p, v', e, h, h2⟩ => ⟨p, v', e, k.sq h, AtA.keep k h2⟩
/-- tuples stand where all but some objects of other kinds stands -/
theorem Keep.keepT {S : List Addr} {H H' : Hp} (k : Keep S H H') (h : ∀ x ∈ S, (∀ xs, H x ≠ some (.tup xs)) ∧ ∀ o u, H x ≠ some (.frz o u)) : KeepT H H' :=
  ⟨fun b xs e => k b _ e fun m => (h b m).1 xs e, fun b o u e => k b _ e fun m => (h b m).2 o u e⟩
theorem RdAt.notT {K : PySem.W.Frag} {CR : Addr} {H : Hp} {r a : Addr} {l : Toks} {rk : List Nat} {i : Nat} (h : RdAt K CR H r a l rk i) : ∀ x ∈ [r], (∀ xs, H x ≠ some (.tup xs)) ∧ ∀ o u, H x ≠ some (.frz o u) := by
  obtain ⟨dx, vs, h1, _⟩ := h
  intro x hx
  have e : x = r := by simpa using hx
  subst e
  exact ⟨fun xs z => (by rw [h1] at z; cases z), fun o u z => (by rw [h1] at z; cases z)⟩
theorem RdAt.same {K : PySem.W.Frag} {CR : Addr} {H H' : Hp} {r a : Addr} {l : Toks} {rk : List Nat} {i : Nat} (h : RdAt K CR H r a l rk i) (s : Same H H') : RdAt K CR H' r a l rk i := by
  obtain ⟨dx, vs, h1, h2, h3, hi⟩ := h
  exact ⟨dx, vs, s _ _ h1, s _ _ h2, h3.keep (Same.keepT s), hi⟩
theorem RdAt.ins {K : PySem.W.Frag} {CR : Addr} {H : Hp} {r a : Addr} {l : Toks} {rk : List Nat} {i : Nat} (h : RdAt K CR H r a l rk i) : ∃ dx, H r = some (.ins CR dx (rF a i)) := by
  obtain ⟨dx, _, h1, _⟩ := h
  exact ⟨dx, h1⟩
theorem ebind_ok {A B : Type} {e : Except VasedBase.Fault A} {x : A} {f : A → Except VasedBase.Fault B} (h : e = .ok x) : e.bind f = f x := by rw [h] <;> rfl
theorem ebind_er {A B : Type} {e : Except VasedBase.Fault A} {z : VasedBase.Fault} {f : A → Except VasedBase.Fault B} (h : e = .error z) : e.bind f = .error z := by rw [h] <;> rfl
theorem emap_ok {A B : Type} {e : Except VasedBase.Fault A} {x : A} {f : A → B} (h : e = .ok x) : e.map f = .ok (f x) := by rw [h] <;> rfl
theorem emap_er {A B : Type} {e : Except VasedBase.Fault A} {z : VasedBase.Fault} {f : A → B} (h : e = .error z) : e.map f = .error z := by rw [h] <;> rfl
theorem keep_upd {S : List Addr} {H H1 : Hp} {p : Addr} {o : HO} (k : Keep S H H1) (h : H1 p = none) : Keep S H (L2.upd H1 p o) := k.trans (Keep.of (Same.upd h))
def addrWords : List Bytes := ["all", "line", "from", "last", "has", "is"].map word
def plainRest (x : Bytes) (r : Toks) : Except VasedBase.Fault (Vaseda.Addr × Toks) :=
  if x = word "line" then (Vaseda.takeNum 1 99 r).map fun y => (.line y.1, y.2)
  else if x = word "from" then (Vaseda.takeNum 1 99 r).bind fun y => (takeOne [word "to"] y.2).bind fun z => (Vaseda.takeNum y.1 99 z.2).map fun u => (.span y.1 u.1, u.2)
  else if x = word "has" then (Vaseda.takeLetters r).map fun y => (.has y.1, y.2)
  else if x = word "is" then (Vaseda.takeLetters r).map fun y => (.is_ y.1, y.2)
  else if x = word "last" then .ok (.last, r) else .ok (.all, r)
def plainAddr (l : Toks) : Except VasedBase.Fault (Vaseda.Addr × Toks) := (takeOne addrWords l).bind fun x => plainRest x.1 x.2
theorem takeOne_mem {ws : List Bytes} {l : Toks} {x : Bytes × Toks} (h : takeOne ws l = .ok x) : x.1 ∈ ws := by
  unfold takeOne at h
  split at h
  · split at h
    · rename_i q
      cases h
      exact List.contains_iff_mem.mp q
    · cases h
  · cases h
abbrev sPlain : Stmt := top 34
theorem scPlain : FnScope ["reader", "word", "first"] ["reader"] (defScope sPlain) := ⟨rfl, rfl, rfl, by decide +kernel, rfl, by decide +kernel, by decide +kernel⟩
/-- reads an address -/
def spAddr (K : PySem.W.Frag) (CR CF : Addr) (Pf : Toks → Except VasedBase.Fault (Vaseda.Addr × Toks)) : Sp := fun vs H Q E => ∃ r a l rk i, vs = [.ref r] ∧ RdAt K CR H r a l rk i ∧ TokWf l ∧ Parse K CR CF Pf r a l rk i H E fun ad _ H' => ∀ v, AtA K H' ad v → Q v H'
/-- take_letters, not counted -/
def spLetters0 (K : PySem.W.Frag) (CR CF : Addr) : Sp := fun vs H Q E => ∃ r a l rk i, vs = [.ref r] ∧ RdAt K CR H r a l rk i ∧ TokWf l ∧ Parse K CR CF Vaseda.takeLetters r a l rk i H E fun b _ H' => Q (.str (sT b)) H'
section
variable {P : Program} {w : World} {K : PySem.W.Frag} {mg : Str → Option Value} {base : Heap} {CF CR : Addr}
theorem letters0 (D : MN P w K mg base (L2.CX P w) 3 CR "take_letters" ["self"] (spLettersN K CR CF)) : MD P w K mg base (L2.CX P w) 3 CR "take_letters" ["self"] (spLetters0 K CR CF) := by
  obtain ⟨f, fd, F, r⟩ := D.ex
  exact ⟨f, fd, F.ok.imp fun vs H Q E ⟨r, a, l, rk, i, e, hR, wf, q⟩ => ⟨r, a, l, rk, i, e, hR, wf, q⟩, r⟩
theorem lit_all : strsOf addrWords = [.str "all", .str "line", .str "from", .str "last", .str "has", .str "is"] := by decide +kernel
theorem lit_to : strsOf [word "to"] = [.str "to"] := by decide +kernel
theorem ok_plain (F : GF K mg "read_plain_address" sPlain) (T : ReaderT K mg CR) (D1 : MD P w K mg base (L2.CX P w) 3 CR "take_one_of" ["self", "words"] (spTakeOne K CR CF)) (D2 : MD P w K mg base (L2.CX P w) 3 CR "take_number" ["self", "least", "most"] (spTakeNumber K CR CF))
    (D3 : MD P w K mg base (L2.CX P w) 3 CR "take_letters" ["self"] (spLetters0 K CR CF)) (cM : GC mg "MOST_LINE" (.int 99)) : GD P w K mg base (L2.CX P w) 4 "read_plain_address" ["reader"] (spAddr K CR CF plainAddr) := by
  obtain ⟨f, fd, F, hm⟩ := F
  refine ⟨f, fd, F.okX scPlain (fun vs H Q E h => ?_) (fun cdv A outer s H vs Q E hr h => ⟨_,
      pss_cons (ps_set (i := 1) scPlain.nd rfl (Or.inl rfl) (pe_m D1 T.cl hr (passW (takes_of rfl rfl rfl rfl)) (pv 0) (pa_cons (pe_tup (pa_cons pe_str (pa_cons pe_str (pa_cons pe_str (pa_cons pe_str (pa_cons pe_str (pa_cons pe_str pa_nil))))))) pa_nil)))
      (pss_cons (ps_if (pt_cmpR op_eq (pv 1) pe_str (nomark _)) (pss_one (ps_ret (pe_tup (pa_cons (pv 1) (pa_cons (pe_m D2 T.cl hr (passW (takes_of rfl rfl rfl rfl)) (pv 0) (pa_cons L2.pe_int (pa_cons (pe_gc cM) pa_nil))) pa_nil))))) pss_nil)
      (pss_cons (ps_if (pt_cmpR op_eq (pv 1) pe_str (nomark _)) (pss_cons (ps_set (i := 2) scPlain.nd rfl (Or.inl rfl) (pe_m D2 T.cl hr (passW (takes_of rfl rfl rfl rfl)) (pv 0) (pa_cons L2.pe_int (pa_cons (pe_gc cM) pa_nil))))
          (pss_cons (ps_expr (pe_m D1 T.cl hr (passW (takes_of rfl rfl rfl rfl)) (pv 0) (pa_cons (pe_tup (pa_cons pe_str pa_nil)) pa_nil)))
          (pss_one (ps_ret (pe_tup (pa_cons (pv 1) (pa_cons (pv 2) (pa_cons (pe_m D2 T.cl hr (passW (takes_of rfl rfl rfl rfl)) (pv 0) (pa_cons (pv 2) (pa_cons (pe_gc cM) pa_nil))) pa_nil)))))))) pss_nil)
      (pss_cons (ps_if (pt_cmpR op_in_seq (pv 1) (pe_tup (pa_cons pe_str (pa_cons pe_str pa_nil))) (by rfl)) (pss_one (ps_ret (pe_tup (pa_cons (pv 1) (pa_cons (pe_m0 D3 T.cl hr (passW (takes_of rfl rfl rfl rfl)) (pv 0)) pa_nil))))) pss_nil)
      (pss_one (ps_ret (pe_tup (pa_cons (pv 1) pa_nil))))))), ?_⟩), hm, F.kp, F.binds fun _ _ _ _ _ _ us hl => match us, hl with | [_], _ => rfl⟩
  · obtain ⟨r, a, l, rk, i, rfl, _⟩ := h
    rfl
  · obtain ⟨r, a, l, rk, i, rfl, hR, wf, q0, q1⟩ := h
    have hR0 := hR
    obtain ⟨dx, vs, h1, h2, h3, hi⟩ := hR
    have nm : ∀ (k : Nat) (m : Str), (m == ("tokens" : Str)) = false → (m == ("here" : Str)) = false → (rF a k).lookup m = none := fun k m z1 z2 => rF_none a k z1 z2
    refine ⟨_, rfl, r, dx, _, rfl, h1, nm i _ (by decide +kernel) (by decide +kernel), by show 6 ≤ sizeLine; decide, fun p hp => ?_⟩
    refine ⟨r, a, l, rk, i, p, addrWords, rfl, hR0.same (Same.upd hp), wf, SqT.of (by rw [lit_all]; exact upd_same), fun f e => (q0 f (ebind_er e)).of (Keep.of (Same.upd hp)), fun x j e hj H1 k1 hR1 => ?_⟩
    have ko : Keep [r] H H1 := (Keep.of (Same.upd hp)).trans k1
    have eq : plainAddr (l.drop i) = plainRest x (l.drop j) := ebind_ok e
    rw [eq] at q0 q1
    obtain ⟨dx1, h11⟩ := hR1.ins
    have hx := takeOne_mem e
    have hx' : x = word "all" ∨ x = word "line" ∨ x = word "from" ∨ x = word "last" ∨ x = word "has" ∨ x = word "is" := by simpa [addrWords] using hx
    rcases hx' with z | z | z | z | z | z
    · subst z
      refine ⟨_, rfl, rfl, _, rfl, if_fl (by decide +kernel) ⟨_, rfl, rfl, _, rfl, if_fl (by decide +kernel) ⟨_, rfl, by show 2 ≤ sizeLine; decide, fun p2 hp2 => ⟨p2, _, rfl, .inr (SqT.of upd_same), rfl, rfl, _, rfl, if_fl (by decide +kernel) ?_⟩⟩⟩⟩
      refine ⟨_, rfl, by show 1 ≤ sizeLine; decide, fun p3 hp3 => ?_⟩
      refine q1 .all j rfl hj _ (keep_upd (keep_upd ko hp2) hp3) (hR1.same ((Same.upd hp2).trans (Same.upd hp3))) _ ⟨p3, rfl, SqT.of ?_⟩
      rw [show sT (word "all") = ("all" : Str) by decide +kernel]
      exact upd_same
    · subst z
      refine ⟨_, rfl, rfl, _, rfl, if_tr (by decide +kernel) ⟨_, rfl, _, rfl, r, dx1, _, rfl, h11, nm j _ (by decide +kernel) (by decide +kernel), r, a, l, rk, j, 1, 99, rfl, hR1, wf, fun f e2 => (q0 f (emap_er e2)).of ko, fun n j2 e2 hj2 H2 k2 hR2 => ⟨by show 2 ≤ sizeLine; decide, fun p2 hp2 => ?_⟩⟩⟩
      refine q1 (.line n) j2 (emap_ok e2) (Nat.lt_trans hj hj2) _ (keep_upd (ko.trans k2) hp2) (hR2.same (Same.upd hp2)) _ ⟨p2, rfl, SqT.of ?_⟩
      rw [show sT (word "line") = ("line" : Str) by decide +kernel]
      exact upd_same
    · subst z
      refine ⟨_, rfl, rfl, _, rfl, if_fl (by decide +kernel) ⟨_, rfl, rfl, _, rfl, if_tr (by decide +kernel) ⟨_, rfl, r, dx1, _, rfl, h11, nm j _ (by decide +kernel) (by decide +kernel), r, a, l, rk, j, 1, 99, rfl, hR1, wf, fun f e2 => (q0 f (ebind_er e2)).of ko, fun n j2 e2 hj2 H2 k2 hR2 => ?_⟩⟩⟩
      obtain ⟨dx2, h12⟩ := hR2.ins
      refine ⟨_, rfl, r, dx2, _, rfl, h12, nm j2 _ (by decide +kernel) (by decide +kernel), by show 1 ≤ sizeLine; decide, fun p2 hp2 => ?_⟩
      refine ⟨r, a, l, rk, j2, p2, [word "to"], rfl, hR2.same (Same.upd hp2), wf, SqT.of (by rw [lit_to]; exact upd_same), fun f e3 => (q0 f ((ebind_ok e2).trans (ebind_er e3))).of (keep_upd (ko.trans k2) hp2), fun y j3 e3 hj3 H3 k3 hR3 => ?_⟩
      obtain ⟨dx3, h13⟩ := hR3.ins
      have k3' : Keep [r] H H3 := (keep_upd (ko.trans k2) hp2).trans k3
      refine ⟨_, rfl, _, rfl, _, rfl, r, dx3, _, rfl, h13, nm j3 _ (by decide +kernel) (by decide +kernel), _, rfl, r, a, l, rk, j3, n, 99, rfl, hR3, wf, fun f e4 => (q0 f ((ebind_ok e2).trans ((ebind_ok e3).trans (emap_er e4)))).of k3', fun m j4 e4 hj4 H4 k4 hR4 => ⟨by show 3 ≤ sizeLine; decide, fun p4 hp4 => ?_⟩⟩
      refine q1 (.span n m) j4 ((ebind_ok e2).trans ((ebind_ok e3).trans (emap_ok e4))) (Nat.lt_trans hj (Nat.lt_trans hj2 (Nat.lt_trans hj3 hj4))) _ (keep_upd (k3'.trans k4) hp4) (hR4.same (Same.upd hp4)) _ ⟨p4, rfl, SqT.of ?_⟩
      rw [show sT (word "from") = ("from" : Str) by decide +kernel]
      exact upd_same
    · subst z
      refine ⟨_, rfl, rfl, _, rfl, if_fl (by decide +kernel) ⟨_, rfl, rfl, _, rfl, if_fl (by decide +kernel) ⟨_, rfl, by show 2 ≤ sizeLine; decide, fun p2 hp2 => ⟨p2, _, rfl, .inr (SqT.of upd_same), rfl, rfl, _, rfl, if_fl (by decide +kernel) ?_⟩⟩⟩⟩
      refine ⟨_, rfl, by show 1 ≤ sizeLine; decide, fun p3 hp3 => ?_⟩
      refine q1 .last j rfl hj _ (keep_upd (keep_upd ko hp2) hp3) (hR1.same ((Same.upd hp2).trans (Same.upd hp3))) _ ⟨p3, rfl, SqT.of ?_⟩
      rw [show sT (word "last") = ("last" : Str) by decide +kernel]
      exact upd_same
    · subst z
      refine ⟨_, rfl, rfl, _, rfl, if_fl (by decide +kernel) ⟨_, rfl, rfl, _, rfl, if_fl (by decide +kernel) ⟨_, rfl, by show 2 ≤ sizeLine; decide, fun p2 hp2 => ⟨p2, _, rfl, .inr (SqT.of upd_same), rfl, rfl, _, rfl, if_tr (by decide +kernel) ?_⟩⟩⟩⟩
      have hR2 := hR1.same (Same.upd (o := .tup [.str "has", .str "is"]) hp2)
      obtain ⟨dx2, h12⟩ := hR2.ins
      refine ⟨_, rfl, _, rfl, r, dx2, _, rfl, h12, nm j _ (by decide +kernel) (by decide +kernel), r, a, l, rk, j, rfl, hR2, wf, fun f e2 => (q0 f (emap_er e2)).of (keep_upd ko hp2), fun b j2 e2 hj2 H2 k2 hR2 => ⟨by show 2 ≤ sizeLine; decide, fun p3 hp3 => ?_⟩⟩
      refine q1 (.has b) j2 (emap_ok e2) (Nat.lt_trans hj hj2) _ (keep_upd ((keep_upd ko hp2).trans k2) hp3) (hR2.same (Same.upd hp3)) _ ⟨p3, rfl, SqT.of ?_⟩
      rw [show sT (word "has") = ("has" : Str) by decide +kernel]
      exact upd_same
    · subst z
      refine ⟨_, rfl, rfl, _, rfl, if_fl (by decide +kernel) ⟨_, rfl, rfl, _, rfl, if_fl (by decide +kernel) ⟨_, rfl, by show 2 ≤ sizeLine; decide, fun p2 hp2 => ⟨p2, _, rfl, .inr (SqT.of upd_same), rfl, rfl, _, rfl, if_tr (by decide +kernel) ?_⟩⟩⟩⟩
      have hR2 := hR1.same (Same.upd (o := .tup [.str "has", .str "is"]) hp2)
      obtain ⟨dx2, h12⟩ := hR2.ins
      refine ⟨_, rfl, _, rfl, r, dx2, _, rfl, h12, nm j _ (by decide +kernel) (by decide +kernel), r, a, l, rk, j, rfl, hR2, wf, fun f e2 => (q0 f (emap_er e2)).of (keep_upd ko hp2), fun b j2 e2 hj2 H2 k2 hR2 => ⟨by show 2 ≤ sizeLine; decide, fun p3 hp3 => ?_⟩⟩
      refine q1 (.is_ b) j2 (emap_ok e2) (Nat.lt_trans hj hj2) _ (keep_upd ((keep_upd ko hp2).trans k2) hp3) (hR2.same (Same.upd hp3)) _ ⟨p3, rfl, SqT.of ?_⟩
      rw [show sT (word "is") = ("is" : Str) by decide +kernel]
      exact upd_same
end
end Lsd
/-! read_address -/
namespace Lsd
open PySem PySem.Spec PyProof.Rows L2
open VasedBase hiding Tok
theorem nextWord_name (s : String) (p : Nat) (b : Bytes) (r : Toks) : nextWord s (⟨p, .name b⟩ :: r) = (b == word s) := rfl
theorem takeAddr_plain {f n : Nat} {l : Toks} (h : next (.name (word "not")) l = false) : Vaseda.takeAddr (f + 1) n l = plainAddr l := by
  have hn : nextWord "not" l = false := h
  rcases l with _ | ⟨⟨p, tk⟩, r⟩
  · rfl
  · cases tk with
    | num m => rfl
    | sign c => rfl
    | last => rfl
    | name b =>
      rw [nextWord_name] at hn
      have e0 : plainAddr (⟨p, .name b⟩ :: r) = (if addrWords.contains b = true then (.ok (b, r) : Except VasedBase.Fault (Bytes × Toks)) else wrong (⟨p, .name b⟩ :: r)).bind fun x => plainRest x.1 x.2 := rfl
      have e1 : Vaseda.takeAddr (f + 1) n (⟨p, .name b⟩ :: r) =
        if (b == word "all") = true then .ok (.all, r)
        else if (b == word "line") = true then (Vaseda.takeNum 1 99 r).map fun x => (.line x.1, x.2)
        else if (b == word "from") = true then (Vaseda.takeNum 1 99 r).bind fun x => (takeWord "to" x.2).bind fun l => (Vaseda.takeNum x.1 99 l).map fun y => (.span x.1 y.1, y.2)
        else if (b == word "last") = true then .ok (.last, r)
        else if (b == word "has") = true then (Vaseda.takeLetters r).map fun x => (.has x.1, x.2)
        else if (b == word "is") = true then (Vaseda.takeLetters r).map fun x => (.is_ x.1, x.2)
        else if (b == word "not") = true then (if 3 ≤ n then .error ⟨4, p⟩ else (Vaseda.takeAddr f (n + 1) r).map fun x => (.not x.1, x.2))
        else wrong (⟨p, .name b⟩ :: r) := rfl
      have hto : ∀ l : Toks, (takeOne [word "to"] l).map Prod.snd = takeWord "to" l := fun l => by
        rcases l with _ | ⟨⟨p2, tk2⟩, r2⟩
        · rfl
        · cases tk2 with
          | num m => rfl
          | sign c => rfl
          | last => rfl
          | name b2 =>
            show (if [word "to"].contains b2 = true then (.ok (b2, r2) : Except VasedBase.Fault (Bytes × Toks)) else wrong _).map Prod.snd = (if (b2 == word "to") = true then .ok r2 else wrong _)
            rw [List.contains_cons, List.contains_nil, Bool.or_false]
            cases (b2 == word "to") <;> rfl
      rw [e0, e1]
      by_cases c1 : b = word "all"
      · subst c1; rfl
      by_cases c2 : b = word "line"
      · subst c2; rfl
      by_cases c3 : b = word "from"
      · subst c3
        show (Vaseda.takeNum 1 99 r).bind _ = (Vaseda.takeNum 1 99 r).bind _
        congr 1
        funext x
        rw [← hto]
        cases takeOne [word "to"] x.2 <;> rfl
      by_cases c4 : b = word "last"
      · subst c4; rfl
      by_cases c5 : b = word "has"
      · subst c5; rfl
      by_cases c6 : b = word "is"
      · subst c6; rfl
      rw [beq_false_of_ne c1, beq_false_of_ne c2, beq_false_of_ne c3, beq_false_of_ne c4, beq_false_of_ne c5, beq_false_of_ne c6, hn]
      have hnc : addrWords.contains b = false := by
        rw [← Bool.not_eq_true, List.contains_iff_mem]
        simp [addrWords, c1, c2, c3, c4, c5, c6]
      rw [hnc]
      rfl
theorem takeAddr_not {f n : Nat} {l : Toks} (h : next (.name (word "not")) l = true) : Vaseda.takeAddr (f + 1) n l = if 3 ≤ n then .error ⟨4, here l⟩ else (Vaseda.takeAddr f (n + 1) (l.drop 1)).map fun x => (.not x.1, x.2) := by
  rcases l with _ | ⟨⟨p, tk⟩, r⟩
  · cases h
  · cases tk with
    | num m => cases h
    | sign c => cases h
    | last => cases h
    | name b =>
      have e : b = word "not" := eq_of_beq h
      subst e
      rfl
/-- so many nots -/
def notsOf : Nat → Vaseda.Addr → Vaseda.Addr
  | 0, a => a
  | k + 1, a => .not (notsOf k a)
theorem notsOf_in (k : Nat) (a : Vaseda.Addr) : notsOf k (.not a) = notsOf (k + 1) a := by
  induction k with
  | zero => rfl
  | succ k ih => show Vaseda.Addr.not (notsOf k (.not a)) = _; rw [ih] <;> rfl
def wrapN (k : Nat) (x : Vaseda.Addr × Toks) : Vaseda.Addr × Toks := (notsOf k x.1, x.2)
theorem wrap_map (k : Nat) (e : Except VasedBase.Fault (Vaseda.Addr × Toks)) : (e.map fun x => (.not x.1, x.2)).map (wrapN k) = e.map (wrapN (k + 1)) := by
  cases e with
  | error f => rfl
  | ok x => show Except.ok (notsOf k (.not x.1), x.2) = Except.ok (notsOf (k + 1) x.1, x.2); rw [notsOf_in]
abbrev sAddress : Stmt := top 35
theorem scAddress : FnScope ["reader", "nots", "found", "turn"] ["reader"] (defScope sAddress) := ⟨rfl, rfl, rfl, by decide +kernel, rfl, by decide +kernel, by decide +kernel⟩
def spAddress (K : PySem.W.Frag) (CR CF : Addr) : Sp := fun vs H Q E => ∃ r a l rk i F, vs = [.ref r] ∧ RdAt K CR H r a l rk i ∧ TokWf l ∧ (l.drop i).length < F ∧ Parse K CR CF (Vaseda.takeAddr F 0) r a l rk i H E fun ad _ H' => ∀ v, AtA K H' ad v → Q v H'
theorem not_word : (Str.ofString "not") = sT (word "not") := by decide +kernel
/-- so far nots are read -/
def NotS (K : PySem.W.Frag) (CR : Addr) (r a : Addr) (l : Toks) (rk : List Nat) (i F : Nat) (H : Hp) (j : Nat) (σ : L2.St) (H' : Hp) : Prop := ∃ k F', σ = [some (.ref r), some (.int ((k : Nat) : Int)), none, none] ∧ Keep [r] H H' ∧ RdAt K CR H' r a l rk j ∧ i ≤ j ∧ k ≤ 3 ∧ (l.drop j).length < F' ∧
  Vaseda.takeAddr F 0 (l.drop i) = (Vaseda.takeAddr F' k (l.drop j)).map (wrapN k)
section
variable {P : Program} {w : World} {K : PySem.W.Frag} {mg : Str → Option Value} {base : Heap} {CF CR : Addr}
theorem ok_address (F : GF K mg "read_address" sAddress) (T : ReaderT K mg CR) (TF : FaultT K mg CF) (FD : FaultD P w K mg base CF (spFault CF)) (D0 : MD P w K mg base CX0 1 CR "ahead" ["self"] (spAhead K CR)) (D1 : MD P w K mg base CX0 2 CR "is_word" ["self", "word"] (spIsWord K CR)) (D2 : MD P w K mg base CX0 2 CR "take" ["self"] (spTake K CR))
    (D3 : GD P w K mg base (L2.CX P w) 4 "read_plain_address" ["reader"] (spAddr K CR CF plainAddr)) (mr : mg "range" = none) (cM : GC mg "MOST_NOTS" (.int 3)) : GD P w K mg base (L2.CX P w) 5 "read_address" ["reader"] (spAddress K CR CF) := by
  obtain ⟨f, fd, F, hm⟩ := F
  refine ⟨f, fd, F.okX scAddress (fun vs H Q E h => ?_) (fun cdv A outer s H vs Q E hr h => ⟨_, pss_cons (ps_set (i := 1) scAddress.nd rfl (Or.inl rfl) L2.pe_int)
      (pss_cons (ps_while (passes_of rfl) (pt_val (pe_m D1 T.cl (hr.mono (by decide)) pass0 (pv 0) (pa_cons pe_str pa_nil)))
        (pss_cons (ps_if (pt_cmpR op_eq (pv 1) (pe_gc cM) (nomark _)) (pss_one (ps_fault TF FD (hr.mono (by decide)) (takes_of rfl rfl rfl rfl) (pa_cons L2.pe_int (pa_cons (pe_ix ix_tup (pe_m0 D0 T.cl (hr.mono (by decide)) pass0 (pv 0)) L2.pe_int (fun _ _ => rfl)) pa_nil)))) pss_nil)
        (pss_cons (ps_expr (pe_m0 D2 T.cl (hr.mono (by decide)) pass0 (pv 0))) (pss_one (ps_aug (i := 1) scAddress.nd rfl (Or.inl rfl) L2.pe_int ip_add)))))
      (pss_cons (ps_set (i := 2) scAddress.nd rfl (Or.inl rfl) (pe_g D3 hr (passW (takes_of rfl rfl rfl rfl)) (pa_cons (pv 0) pa_nil)))
      (pss_cons (ps_for (passes_of rfl) rfl (pi_range1 (by rfl) mr (pa_cons (pv 1) pa_nil)) (pg_name (i := 3) scAddress.nd rfl (Or.inl rfl)) (pss_one (ps_set (i := 2) scAddress.nd rfl (Or.inl rfl) (pe_tup (pa_cons pe_str (pa_cons (pv 2) pa_nil))))))
      (pss_one (ps_ret (pv 2)))))), ?_⟩), hm, F.kp, F.binds fun _ _ _ _ _ _ us hl => match us, hl with | [_], _ => rfl⟩
  · obtain ⟨r, a, l, rk, i, F, rfl, _⟩ := h
    rfl
  · obtain ⟨r, a, l, rk, i, F, rfl, hR, wf, hF, q0, q1⟩ := h
    have nm : ∀ (k : Nat) (m : Str), (m == ("tokens" : Str)) = false → (m == ("here" : Str)) = false → (rF a k).lookup m = none := fun k m z1 z2 => rF_none a k z1 z2
    refine ⟨loopW (NotS K CR r a l rk i F H) (fun j => l.length - j), ⟨_, i, ⟨0, F, rfl, Keep.refl _ _, hR, Nat.le_refl _, by decide, hF, ?_⟩, rfl⟩, ?_⟩
    · cases Vaseda.takeAddr F 0 (l.drop i) <;> rfl
    rintro m σ H1 ⟨j, ⟨k, F', rfl, k1, hR1, hij, hk3, hF', eA⟩, rfl⟩
    obtain ⟨dx1, h11⟩ := hR1.ins
    refine ⟨_, rfl, r, dx1, _, rfl, h11, nm j _ (by decide +kernel) (by decide +kernel), r, a, l, rk, j, word "not", by rw [not_word] <;> rfl, hR1, _, rfl, ?_⟩
    obtain ⟨F2, rfl⟩ : ∃ F2, F' = F2 + 1 := ⟨F' - 1, by omega⟩
    obtain ⟨t, ht⟩ := hR1.tok
    have hd := drop_get ht
    cases hn : next (.name (word "not")) (l.drop j) with
    | true =>
      rw [takeAddr_not hn] at eA
      refine iteT ⟨nextW (NotS K CR r a l rk i F H) (fun j => l.length - j) j, nextW_ok _ _ j, ?_⟩
      refine ⟨_, rfl, rfl, _, rfl, ?_⟩
      have hnl : t.tok ≠ .last := fun e => by
        rw [hd] at hn
        obtain ⟨p, tk⟩ := t
        cases e
        cases hn
      by_cases ck : k = 3
      · subst ck
        rw [if_pos (Nat.le_refl 3)] at eA
        refine if_tr (by decide) ⟨_, rfl, r, dx1, _, rfl, h11, nm j _ (by decide +kernel) (by decide +kernel), r, a, l, rk, j, rfl, hR1, fun v t2 ht2 tk2 => ?_⟩
        obtain ⟨tp, rfl, sq⟩ := tk2.sq
        have et : here (l.drop j) = t2.place := by rw [drop_get ht2] <;> rfl
        rw [et] at eA
        exact ⟨tp, _, 2, _, rfl, rfl, sq, atI_nat (j := 2) rfl, fault_tail ((q0 ⟨4, t2.place⟩ eA).of k1).fe⟩
      · rw [if_neg (by omega), wrap_map, List.drop_drop] at eA
        refine if_fl (by rw [decide_eq_false_iff_not]; simp; omega) ⟨_, rfl, r, dx1, _, rfl, h11, nm j _ (by decide +kernel) (by decide +kernel), r, a, l, rk, j, t, rfl, hR1, ht, wf.more ht hnl, fun v H2 k2 hR2 tk2 => ?_⟩
        have hj := (List.getElem?_eq_some_iff.mp ht).1
        rw [List.length_drop] at hF'
        refine ⟨_, rfl, _, _, rfl, rfl, j + 1, ⟨k + 1, F2, rfl, k1.trans k2, hR2, by omega, by omega, by rw [List.length_drop]; omega, eA⟩, show l.length - (j + 1) < l.length - j by omega⟩
    | false =>
      rw [takeAddr_plain hn] at eA
      refine iteF ⟨_, rfl, r, a, l, rk, j, rfl, hR1, wf, fun f e => (q0 f (eA.trans (emap_er e))).of k1, fun ad j2 e2 hj2 H2 k2 hR2 v0 hv0 => ?_⟩
      have eB := eA.trans (emap_ok e2)
      refine ⟨_, rfl, _, rfl, by omega, by omega, for_range (lo := 0) (n := k) (fun m σ H3 => ∃ v tv, σ = [some (.ref r), some (.int ((k : Nat) : Int)), some v, tv] ∧ Keep [r] H2 H3 ∧ RdAt K CR H3 r a l rk j2 ∧ AtA K H3 (notsOf m ad) v) ⟨v0, none, rfl, Keep.refl _ _, hR2, hv0⟩ ?_ ?_⟩
      · rintro m σ H3 hm ⟨v, tv, rfl, k3, hR3, hv⟩
        refine ⟨_, rfl, by show 2 ≤ sizeLine; decide, fun p hp => ?_⟩
        exact ⟨.ref p, _, rfl, keep_upd k3 hp, hR3.same (Same.upd hp), p, v, rfl, SqT.of upd_same, hv.keep (KeepT.updn hp)⟩
      · rintro σ H3 ⟨v, tv, rfl, k3, hR3, hv⟩
        exact ⟨_, rfl, q1 (notsOf k ad) j2 eB (by omega) H3 ((k1.trans k2).trans k3) hR3 v hv⟩
end
end Lsd
/-! A name's own value between a store and the next display -/
namespace Lsd
open PySem PySem.Spec PyProof.Rows L2
open VasedBase hiding Tok
section
variable {X : Cx} {pins : List (Addr × Obj)} {σ : L2.St} {H : Hp} {s : Shared}
/-- behind a store of a local name: the invariant -/
theorem inv_store {i : Nat} {x : Str} {v : V} {u : Value} {m0 : Str → Option Value} {h' : Heap} {tk : Nat} (I : Inv X pins σ H s) (hN : X.N.Nodup) (hi : X.N[i]? = some x) (hk : X.env.scope.names.lookup x = some .local) (r : RelV v u)
    (hn : s.heap.Ns X.env.locals m0) (hn' : h'.Ns X.env.locals (fun y => if y = x then some u else m0 y)) (hs : Heap.SameBut X.env.locals s.heap h') : Inv X pins (σ.set i (some v)) H { s with heap := h', toks := tk } := by
  obtain ⟨m, hm, hl⟩ := I.loc
  obtain rfl : m = m0 := hm.eq_nsMap.trans hn.eq_nsMap.symm
  have old : ∀ b o, X.s_0.heap.get? b = some o → b ≠ X.env.locals := fun b o e => Nat.ne_of_lt (Nat.lt_of_lt_of_le (Heap.lt_size e) I.ok.above)
  have far : ∀ b u, H b = some u → b ≠ X.env.locals := fun b u e z => by
    have q := I.free
    rw [← z, e] at q
    cases q
  exact {
    ok := I.ok
    os := I.os
    bare := I.bare
    base := {
      keep := fun b o e n hb hx => (hs.2 b (old b o e)).trans (I.base.keep b o e n hb hx)
      slot := fun b o e n hb hx => let ⟨sl, z⟩ := I.base.slot b o e n hb hx; ⟨sl, (hs.2 b (old b o e)).trans z⟩
      free := I.base.free
      there := fun b o e hx => let ⟨o', z⟩ := I.base.there b o e hx; ⟨o', (hs.2 b (old b o e)).trans z⟩
      tups := I.base.tups
      frzs := I.base.frzs
      tbls := I.base.tbls }
    loc := ⟨_, hn', fun j y w e1 e2 e3 => by
      by_cases hj : j = i
      · subst hj
        rw [hi] at e1
        cases e1
        have hlt : j < σ.length := by
          rw [I.len]
          exact (List.getElem?_eq_some_iff.mp hi).1
        rw [List.getElem?_set_self hlt] at e2
        cases e2
        exact ⟨u, r, .inl ⟨hk, if_pos rfl⟩⟩
      · rw [List.getElem?_set_ne (Ne.symm hj)] at e2
        obtain ⟨u', r', q⟩ := hl j y w e1 e2 e3
        refine ⟨u', r', q.imp (fun ⟨a, b⟩ => ⟨a, (if_neg fun z : y = x => hj (nodup_ix hN e1 (z ▸ hi))).trans b⟩) fun ⟨a, c, b, d⟩ => ⟨a, c, b, d.sameBut hs (I.cne y c b)⟩⟩⟩
    cell := fun y c e => let ⟨w, z⟩ := I.cell y c e; ⟨w, z.sameBut hs (I.cne y c e)⟩
    free := I.free
    freeC := I.freeC
    pin := fun p hp => let ⟨e, n, ne, nf, d⟩ := I.pin p hp; ⟨(hs.2 p.1 ne).trans e, n, ne, nf, d⟩
    hok := fun b u e => (I.hok b u e).stay (fun c w hc z => (hs.2 c (hc.elim (fun q => q ▸ far b u e) fun q => far c _ q)).trans z) (fun _ z => z) fun _ _ z => z
    len := by rw [List.length_set]; exact I.len }
end
/-- letters = e1; return (w, letters, e2): the pair's own values stand in the new tuple -/
def nPair (i iw : Nat) (t1 t2 : TEN) : TSN := fun D n σ H => t1 n σ H fun m u1 y1 H1 => ∃ vw, (σ.set i (some y1))[iw]? = some (some vw) ∧ t2 m (σ.set i (some y1)) H1 fun m2 u2 y2 H2 =>
  ∀ p H3 us, H2 p = none → FrzT H3 p [vw, y1, y2] us → us[1]? = some u1 → us[2]? = some u2 → (∀ b o, H2 b = some o → H3 b = some o) → D.rt m2 (.ref p) (.ref p) H3
theorem pssn_pair {X : Cx} {i iw : Nat} {xl xw : Str} {e1 e2 : Expr} {t1 t2 : TEN} {p1 p2 p3 pos1 pos2 pos3 : Pos} {kt : Nat} (hN : X.N.Nodup) (hi : X.N[i]? = some xl) (hk : X.env.scope.names.lookup xl = some .local) (hkk : X.env.kindOf xl = some .local) (hw : X.N[iw]? = some xw) (hv : Vis X.env.scope xw) (he1 : PEN X e1 t1) (he2 : PEN X e2 t2)
    (hs : swapsWith e1 (some (.Name xl p1)) pos1.line X.env = pure false := by rfl) (hst : ∀ env, starEach [.Name xw p2, .Name xl p3, e2] env = [(false, eval (.Name xw p2) env), (false, eval (.Name xl p3) env), (false, eval e2 env)] := by intro _; rfl)
    (hd1 : (xl == ("__debug__" : Str)) = false := by decide) (hd2 : (xw == ("__debug__" : Str)) = false := by decide) (hd3 : (xw == ("__classdict__" : Str)) = false := by decide) :
    PSsN X [.Assign [.Name xl p1] e1 pos1, .Return (some (.Tuple [.Name xw p2, .Name xl p3, e2] kt pos3)) pos2] (nPair i iw t1 t2) := by
  refine ⟨fun pins s σ H n D hn I h => ?_⟩
  refine wpAny_execs_cons (wpAny_Assign_Name (thn (he1.run pins s σ H n _ hn I h) fun u1 s1 ⟨m, y1, H1, l1, I1, r1, vw, hvw, q1⟩ => ?_) hs)
  obtain ⟨m0, hns, _⟩ := id I1.loc
  have hcls : (X.env.scope.kind == .class || (X.env.scope.kind == .module && X.env.locals != X.env.globals)) = false := by rw [I1.ok.kind]; rfl
  refine wpAny_storeName_local hkk hns (fun h' hn' hsb => ?_) hcls
  have I2 : Inv X pins (σ.set i (some y1)) H1 { s1 with heap := h', toks := s1.toks + 1 } := inv_store I1 hN hi hk r1 hns hn' hsb
  refine wpAny_execs_cons (wpAny_Return_some (wpAny_Tuple_spliced ?_))
  rw [hst]
  refine Calls.spliced_cons (raw_name hw hv I2 hvw (fun uw ruw => ?_) hd2 hd3)
  refine Calls.spliced_cons (wpAny_Name (wpAny_loadName_local I2.ok.kind hkk hn' (v := u1) (if_pos rfl) ?_) hd1)
  refine Calls.spliced_cons (thn (he2.run pins _ _ H1 m _ (Nat.le_succ_of_le l1) I2 q1) fun u2 s3 ⟨m2, y2, H2, l2, I3, r2, q2⟩ => Calls.spliced_nil ⟨by show 3 ≤ sizeLine; decide, ?_⟩)
  have hf : H2 s3.heap.objs.size = none := I3.hok.fresh (Nat.le_refl _)
  have hg : (s3.heap.push { cls := .type "tuple", data := .seq [uw, u1, u2].toArray }).get? s3.heap.objs.size = some { cls := .type "tuple", data := .seq [uw, u1, u2].toArray } := Heap.get?_push_size _ rfl
  refine ⟨m2, .ref s3.heap.objs.size, _, upd H2 s3.heap.objs.size (.frz { cls := .type "tuple", data := .seq [uw, u1, u2].toArray } (.tup [vw, y1, y2])), l2, I3.laid (t' := s3.toks) (fun b u e => Heap.get?_push_of_some _ e) (Nat.le_refl _) ?_, rfl, ?_⟩
  · exact ⟨hg, by show 3 ≤ sizeLine; decide, [uw, u1, u2], .cons ruw (.cons r1 (.cons r2 .nil)), ⟨_, hg, rfl, _, rfl⟩⟩
  · exact q2 _ _ [uw, u1, u2] hf ⟨_, _, upd_same, rfl, rfl⟩ rfl rfl fun b o e => by rw [upd_ne (ne_of_none e hf)]; exact e
end Lsd
/-! read_deed -/
namespace Lsd
open PySem PySem.Spec PyProof.Rows L2
open VasedBase hiding Tok
/-! ### a method of a built-in type, counted -/
section
variable {X : Cx} {o e : Expr} {es : List Expr} {to : TE} {t : TAN} {name : Str} {apos cpos : Pos} {T id : String} {r : V → List V → Hp → VK → Prop}
def nBM (K : PySem.W.Frag) (T : String) (r : V → List V → Hp → VK → Prop) (to : TE) (t : TAN) : TEN := fun n σ H Q => to σ H fun x H1 => tyV K T x H1 ∧ t n σ H1 fun m us xs H2 => r x xs H2 fun v H3 => ∀ u, RelV v u → Q m u v H3
theorem pen_bm (pa : PlainAttrs T) (slot : Slot T name id) (hty : typeOf (.builtin id) = pure (.type "method_descriptor")) (hm : MtR X id r) (ho : PE X o to) (ha : PAN X (e :: es) t)
    (hbase : attributeBase o name X.env (eval o X.env) = eval o X.env := by rfl)
    (hfew : ((backTo cpos (starEach (e :: es) X.env)).all (fun x => !x.1) && (backToKw cpos (keywordEach [] X.env)).all (fun x => x.1.isSome)
      && decide ((e :: es).length + ([] : List Keyword).length + (if ([] : List Keyword).isEmpty then 0 else 1) < 30)) = true := by rfl)
    (hline : (apos.endLine == cpos.line) = true := by rfl) (hs : starEach (e :: es) X.env = (false, eval e X.env) :: starEach es X.env := by rfl) (hplain : (backTo cpos (starEach es X.env)).any (·.1) = false := by rfl) :
    PEN X (.Call (.Attribute o name apos) (e :: es) [] cpos) (nBM X.K T r to t) := by
  refine ⟨fun pins s σ H n Q hn I h => ?_⟩
  refine wpAny_Call_method_late hbase hfew hline rfl (cnt hn (ho.run pins s σ H _ I h) fun v s1 l1 ⟨x, H1, I1, r1, ty, q1⟩ => ?_)
  obtain ⟨h1, h2⟩ := tyV_is I1 r1 ty
  refine ⟨T, id, pa, slot, hty, h1, h2, ?_⟩
  have hA := ha.run cpos pins s1 σ H1 n _ l1 I1 q1
  rw [hs] at hA ⊢
  refine Calls.callWith_builtin (by show (false || (backTo cpos (starEach es X.env)).any (·.1)) = false; rw [hplain] <;> rfl) (Calls.evalArgs_plain ?_)
  exact thn hA fun us s2 ⟨m, vs, H2, l2, I2, r2, q2⟩ => cnt l2 (hm pins s2 σ H2 x vs v us _ I2 r1 r2 q2) fun u s3 l3 ⟨v', H3, I3, r3, q3⟩ => ⟨m, v', H3, l3, I3, r3, q3 u r3⟩
end
/-! ### deeds -/
open Vaseda (Deed Addr Cmd)
def dWord : Deed → Bytes
  | .delete => word "delete"
  | .before _ => word "before"
  | .after _ => word "after"
  | .change _ => word "change"
  | .swap _ _ => word "swap"
  | .first _ _ => word "first"
  | .keep => word "keep"
  | .bring => word "bring"
  | .trade => word "trade"
  | .skip _ => word "skip"
  | .halt_ => word "stop"
def dArgs : Deed → List V
  | .before b => [.str (sT b)]
  | .after b => [.str (sT b)]
  | .change b => [.str (sT b)]
  | .swap a b => [.str (sT a), .str (sT b)]
  | .first a b => [.str (sT a), .str (sT b)]
  | .skip k => [.int (k : Int)]
  | _ => []
/-- two texts of tokens of their own -/
def TwoT (H : Hp) (p : PySem.Addr) (w a b : Bytes) : Prop := ∃ us t u, FrzT H p [.str (sT w), .str (sT a), .str (sT b)] us ∧ us[1]? = some (.str (sT a) t) ∧ us[2]? = some (.str (sT b) u) ∧ t ≠ 0 ∧ u ≠ 0 ∧ t ≠ u
def dTok (H : Hp) (p : PySem.Addr) : Deed → Prop
  | .swap a b => TwoT H p (word "swap") a b
  | .first a b => TwoT H p (word "first") a b
  | _ => True
def DeedAt (K : PySem.W.Frag) (H : Hp) (d : Deed) (v : V) : Prop := ∃ p, v = .ref p ∧ SqT K H p (.str (sT (dWord d)) :: dArgs d) ∧ dTok H p d
theorem TwoT.keep {H H' : Hp} {p : PySem.Addr} {w a b : Bytes} (k : KeepT H H') (h : TwoT H p w a b) : TwoT H' p w a b := by
  obtain ⟨us, t, u, hf, r⟩ := h
  exact ⟨us, t, u, k.frz hf, r⟩
theorem DeedAt.keep {K : PySem.W.Frag} {H H' : Hp} {d : Deed} {v : V} (k : KeepT H H') (h : DeedAt K H d v) : DeedAt K H' d v := by
  obtain ⟨p, e, hs, ht⟩ := h
  refine ⟨p, e, k.sq hs, ?_⟩
  cases d with
  | swap a b => exact TwoT.keep k ht
  | first a b => exact TwoT.keep k ht
  | _ => trivial
def aloneW : List Bytes := ["delete", "keep", "bring", "trade", "stop"].map word
def lettersW : List Bytes := ["before", "after", "change"].map word
def twoW : List Bytes := ["swap", "first"].map word
def deedWords : List Bytes := ((aloneW ++ lettersW) ++ twoW) ++ [word "skip"]
theorem lit_skip : strsOf [word "skip"] = [.str "skip"] := by decide +kernel
theorem strs_app (a b : List Bytes) : strsOf (a ++ b) = strsOf a ++ strsOf b := by simp [strsOf]
theorem lit_deed : ((strsOf aloneW ++ strsOf lettersW) ++ strsOf twoW) ++ [.str "skip"] = strsOf deedWords := by
  rw [← lit_skip, ← strs_app, ← strs_app, ← strs_app] <;> rfl
def mkL (x b : Bytes) : Deed := if x = word "before" then .before b else if x = word "after" then .after b else .change b
def mkT (x a b : Bytes) : Deed := if x = word "swap" then .swap a b else .first a b
def mkA (x : Bytes) : Deed := if x = word "delete" then .delete else if x = word "keep" then .keep else if x = word "bring" then .bring else if x = word "trade" then .trade else .halt_
def deedRest (x : Bytes) (r : Toks) : Except VasedBase.Fault (Deed × Toks) :=
  if lettersW.contains x = true then (Vaseda.takeLetters r).map fun y => (mkL x y.1, y.2)
  else if twoW.contains x = true then (Vaseda.takeLetters r).bind fun y => (Vaseda.takeInstead y.2).map fun z => (mkT x y.1 z.1, z.2)
  else if x = word "skip" then (Vaseda.takeNum 1 9 r).map fun y => (.skip y.1, y.2)
  else .ok (mkA x, r)
def deedP (l : Toks) : Except VasedBase.Fault (Deed × Toks) := (takeOne deedWords l).bind fun x => deedRest x.1 x.2
theorem takeDeed_eq (l : Toks) : Vaseda.takeDeed l = deedP l := by
  rcases l with _ | ⟨⟨p, tk⟩, r⟩
  · rfl
  · cases tk with
    | num m => rfl
    | sign c => rfl
    | last => rfl
    | name b =>
      have e1 : deedP (⟨p, .name b⟩ :: r) = (if deedWords.contains b = true then (.ok (b, r) : Except VasedBase.Fault (Bytes × Toks)) else wrong (⟨p, .name b⟩ :: r)).bind fun x => deedRest x.1 x.2 := rfl
      have e0 : Vaseda.takeDeed (⟨p, .name b⟩ :: r) = if (b == word "delete") = true then .ok (.delete, r)
        else if (b == word "before") = true then (Vaseda.takeLetters r).map fun x => (.before x.1, x.2)
        else if (b == word "after") = true then (Vaseda.takeLetters r).map fun x => (.after x.1, x.2)
        else if (b == word "change") = true then (Vaseda.takeLetters r).map fun x => (.change x.1, x.2)
        else if (b == word "swap") = true then Vaseda.takeTwo .swap r
        else if (b == word "first") = true then Vaseda.takeTwo .first r
        else if (b == word "keep") = true then .ok (.keep, r)
        else if (b == word "bring") = true then .ok (.bring, r)
        else if (b == word "trade") = true then .ok (.trade, r)
        else if (b == word "skip") = true then (Vaseda.takeNum 1 9 r).map fun x => (.skip x.1, x.2)
        else if (b == word "stop") = true then .ok (.halt_, r)
        else wrong (⟨p, .name b⟩ :: r) := rfl
      rw [e0, e1]
      by_cases c1 : b = word "delete"
      · subst c1; rfl
      by_cases c2 : b = word "before"
      · subst c2; rfl
      by_cases c3 : b = word "after"
      · subst c3; rfl
      by_cases c4 : b = word "change"
      · subst c4; rfl
      by_cases c5 : b = word "swap"
      · subst c5; rfl
      by_cases c6 : b = word "first"
      · subst c6; rfl
      by_cases c7 : b = word "keep"
      · subst c7; rfl
      by_cases c8 : b = word "bring"
      · subst c8; rfl
      by_cases c9 : b = word "trade"
      · subst c9; rfl
      by_cases c10 : b = word "skip"
      · subst c10; rfl
      by_cases c11 : b = word "stop"
      · subst c11; rfl
      rw [beq_false_of_ne c1, beq_false_of_ne c2, beq_false_of_ne c3, beq_false_of_ne c4, beq_false_of_ne c5, beq_false_of_ne c6, beq_false_of_ne c7, beq_false_of_ne c8, beq_false_of_ne c9, beq_false_of_ne c10, beq_false_of_ne c11]
      have hnc : deedWords.contains b = false := by
        rw [← Bool.not_eq_true, List.contains_iff_mem]
        simp [deedWords, aloneW, lettersW, twoW, c1, c2, c3, c4, c5, c6, c7, c8, c9, c10, c11]
      rw [hnc]
      rfl
abbrev sDeed : Stmt := top 36
theorem scDeed : FnScope ["reader", "word", "letters"] ["reader"] (defScope sDeed) := ⟨rfl, rfl, rfl, by decide +kernel, rfl, by decide +kernel, by decide +kernel⟩
/-- reads a deed: its texts have tokens of their own -/
def spDeed (K : PySem.W.Frag) (CR CF : PySem.Addr) : SpN := fun n vs H Q E => ∃ r a l rk i, vs = [.ref r] ∧ RdAt K CR H r a l rk i ∧ TokWf l ∧ Ranks l rk n ∧ Parse K CR CF Vaseda.takeDeed r a l rk i H E fun d _ H' => ∀ m p, n ≤ m → DeedAt K H' d (.ref p) → Q m (.ref p) (.ref p) H'
theorem mkL_word {x b : Bytes} (h : x ∈ lettersW) : dWord (mkL x b) = x ∧ dArgs (mkL x b) = [.str (sT b)] ∧ ∀ H p, dTok H p (mkL x b) := by
  have h' : x = word "before" ∨ x = word "after" ∨ x = word "change" := by simpa [lettersW] using h
  rcases h' with rfl | rfl | rfl <;> exact ⟨rfl, rfl, fun _ _ => trivial⟩
theorem mkT_word {x a b : Bytes} (h : x ∈ twoW) : dWord (mkT x a b) = x ∧ dArgs (mkT x a b) = [.str (sT a), .str (sT b)] ∧ ∀ H p, TwoT H p x a b → dTok H p (mkT x a b) := by
  have h' : x = word "swap" ∨ x = word "first" := by simpa [twoW] using h
  rcases h' with rfl | rfl <;> exact ⟨rfl, rfl, fun _ _ z => z⟩
theorem mkA_word {x : Bytes} (h : x ∈ aloneW) : dWord (mkA x) = x ∧ dArgs (mkA x) = [] ∧ ∀ H p, dTok H p (mkA x) := by
  have h' : x = word "delete" ∨ x = word "keep" ∨ x = word "bring" ∨ x = word "trade" ∨ x = word "stop" := by simpa [aloneW] using h
  rcases h' with rfl | rfl | rfl | rfl | rfl <;> exact ⟨rfl, rfl, fun _ _ => trivial⟩
theorem deed_alone {x : Bytes} (h : x ∈ deedWords) (h1 : lettersW.contains x = false) (h2 : twoW.contains x = false) (h3 : x ≠ word "skip") : x ∈ aloneW := by
  have a : x ∉ lettersW := fun z => by rw [List.contains_iff_mem.mpr z] at h1; cases h1
  have b : x ∉ twoW := fun z => by rw [List.contains_iff_mem.mpr z] at h2; cases h2
  simp only [deedWords, List.mem_append, List.mem_singleton] at h
  rcases h with ((h | h) | h) | h
  · exact h
  · exact absurd h a
  · exact absurd h b
  · exact absurd h h3
theorem skip_text : (Str.ofString "skip") = sT (word "skip") := by decide +kernel
section
variable {P : Program} {w : World} {K : PySem.W.Frag} {mg : Str → Option Value} {base : Heap} {CF CR : PySem.Addr}
theorem ok_deed (F : GF K mg "read_deed" sDeed) (T : ReaderT K mg CR) (D1 : MD P w K mg base (L2.CX P w) 3 CR "take_one_of" ["self", "words"] (spTakeOne K CR CF)) (D2 : MD P w K mg base (L2.CX P w) 3 CR "take_number" ["self", "least", "most"] (spTakeNumber K CR CF))
    (D3 : MN P w K mg base (L2.CX P w) 3 CR "take_letters" ["self"] (spLettersN K CR CF)) (D4 : MN P w K mg base (L2.CX P w) 4 CR "take_letters_or_none" ["self"] (spInsteadN K CR CF)) (cA : GT K mg "ALONE" (strsOf aloneW)) (cL : GT K mg "WITH_LETTERS" (strsOf lettersW)) (cT : GT K mg "WITH_TWO" (strsOf twoW)) (cM : GC mg "MOST_SKIP" (.int 9)) :
    GN P w K mg base (L2.CX P w) 5 "read_deed" ["reader"] (spDeed K CR CF) := by
  have D30 := letters0 D3
  obtain ⟨f, fd, F, hm⟩ := F
  refine ⟨f, fd, fun_n F scDeed (fun n vs H Q E h => ?_) (fun cdv A outer s H vs n Q E hr h => ⟨_,
      pssn_cons (psn_of (ps_set (i := 1) scDeed.nd rfl (Or.inl rfl) (pe_m D1 T.cl (hr.mono (by decide)) (passW (takes_of rfl rfl rfl rfl)) (pv 0) (pa_cons (pe_op op_catT (pe_op op_catT (pe_op op_catT (pe_gt cA) (pe_gt cL)) (pe_gt cT)) (pe_tup (pa_cons pe_str pa_nil))) pa_nil))))
      (pssn_cons (psn_of (ps_if (pt_cmpR op_in_seq (pv 1) (pe_gt cL) (by rfl)) (pss_one (ps_ret (pe_tup (pa_cons (pv 1) (pa_cons (pe_m0 D30 T.cl (hr.mono (by decide)) (passW (takes_of rfl rfl rfl rfl)) (pv 0)) pa_nil))))) pss_nil))
      (pssn_cons (psn_if (pt_cmpR op_in_seq (pv 1) (pe_gt cT) (by rfl)) (pssn_pair (i := 2) (iw := 1) scDeed.nd rfl rfl rfl rfl (Or.inl rfl) (pen_m0 D3 T.cl (hr.mono (by decide)) (passW (takes_of rfl rfl rfl rfl)) (pv 0)) (pen_m0 D4 T.cl hr (passW (takes_of rfl rfl rfl rfl)) (pv 0))) pssn_nil)
      (pssn_cons (psn_of (ps_if (pt_cmpR op_eq (pv 1) pe_str (nomark _)) (pss_one (ps_ret (pe_tup (pa_cons (pv 1) (pa_cons (pe_m D2 T.cl (hr.mono (by decide)) (passW (takes_of rfl rfl rfl rfl)) (pv 0) (pa_cons L2.pe_int (pa_cons (pe_gc cM) pa_nil))) pa_nil))))) pss_nil))
      (pssn_one (psn_of (ps_ret (pe_tup (pa_cons (pv 1) pa_nil)))))))), ?_⟩), hm, F.kp, F.binds fun _ _ _ _ _ _ us hl => match us, hl with | [_], _ => rfl⟩
  · obtain ⟨r, a, l, rk, i, rfl, _⟩ := h
    rfl
  · obtain ⟨r, a, l, rk, i, rfl, hR, wf, rks, q0, q1⟩ := h
    have hR0 := hR
    obtain ⟨dx, vs, h1, h2, h3, hi⟩ := hR
    have nm : ∀ (k : Nat) (m : Str), (m == ("tokens" : Str)) = false → (m == ("here" : Str)) = false → (rF a k).lookup m = none := fun k m z1 z2 => rF_none a k z1 z2
    refine ⟨_, rfl, r, dx, _, rfl, h1, nm i _ (by decide +kernel) (by decide +kernel), fun a1 k1 a2 k2 => ⟨a1, a2, _, _, rfl, rfl, k1.sq, k2.sq, by decide, by show 8 ≤ sizeLine; decide, fun z => (by cases z), fun _ p1 hp1 => ?_⟩⟩
    refine fun a3 k3 => ⟨p1, a3, _, _, rfl, rfl, SqT.of upd_same, k3.sq, by decide, by show 10 ≤ sizeLine; decide, fun z => (by cases z), fun _ p2 hp2 => ?_⟩
    refine ⟨by show 1 ≤ sizeLine; decide, fun p3 hp3 => ⟨p2, p3, _, _, rfl, rfl, SqT.of (Same.upd hp3 _ _ upd_same), SqT.of upd_same, by decide, by show 11 ≤ sizeLine; decide, fun z => (by cases z), fun _ p4 hp4 => ?_⟩⟩
    have sA := (((Same.upd (o := .tup (strsOf aloneW ++ strsOf lettersW)) hp1).trans (Same.upd hp2)).trans (Same.upd hp3)).trans (Same.upd (o := .tup (strsOf aloneW ++ strsOf lettersW ++ strsOf twoW ++ [.str "skip"])) hp4)
    have tup4 := SqT.of (K := K) (upd_same (H := upd (upd (upd H p1 (.tup (strsOf aloneW ++ strsOf lettersW))) p2 (.tup (strsOf aloneW ++ strsOf lettersW ++ strsOf twoW))) p3 (.tup [.str "skip"])) (a := p4) (o := .tup (strsOf aloneW ++ strsOf lettersW ++ strsOf twoW ++ [.str "skip"])))
    refine ⟨r, a, l, rk, i, p4, deedWords, rfl, hR0.same sA, wf, (by rw [← lit_deed]; exact tup4), fun f e => (q0 f (by rw [takeDeed_eq]; exact ebind_er e)).of (Keep.of sA), fun x j e hj H1 k1 hR1 => ?_⟩
    have ko : Keep [r] H H1 := (Keep.of sA).trans k1
    have eq : Vaseda.takeDeed (l.drop i) = deedRest x (l.drop j) := by rw [takeDeed_eq]; exact ebind_ok e
    rw [eq] at q0 q1
    obtain ⟨dx1, h11⟩ := hR1.ins
    have hx := takeOne_mem e
    refine ⟨_, rfl, fun b1 kb1 => ⟨b1, _, rfl, .inr kb1.sq, rfl, strs_flat _, _, rfl, ?_⟩⟩
    show if (if false = true then !inV (V.str (sT x)) (strsOf lettersW) else inV (V.str (sT x)) (strsOf lettersW)) = true then _ else _
    rw [if_neg Bool.false_ne_true, in_strs]
    cases c1 : lettersW.contains x with
    | true =>
      have eR : deedRest x (l.drop j) = (Vaseda.takeLetters (l.drop j)).map fun y => (mkL x y.1, y.2) := if_pos c1
      rw [eR] at q0 q1
      refine iteT ⟨_, rfl, _, rfl, r, dx1, _, rfl, h11, nm j _ (by decide +kernel) (by decide +kernel), r, a, l, rk, j, rfl, hR1, wf, fun f e2 => (q0 f (emap_er e2)).of ko, fun b j2 e2 hj2 H2 k2 hR2 => ⟨by show 2 ≤ sizeLine; decide, fun p5 hp5 u hu => ?_⟩⟩
      obtain rfl : u = Value.ref p5 := hu
      obtain ⟨w1, w2, w3⟩ := mkL_word (b := b) (List.contains_iff_mem.mp c1)
      refine q1 (mkL x b) j2 (emap_ok e2) (Nat.lt_trans hj hj2) _ (keep_upd (ko.trans k2) hp5) (hR2.same (Same.upd hp5)) n p5 (Nat.le_refl n) ⟨p5, rfl, ?_, w3 _ _⟩
      rw [w1, w2]
      exact SqT.of upd_same
    | false =>
      have eR : deedRest x (l.drop j) = if twoW.contains x = true then (Vaseda.takeLetters (l.drop j)).bind fun y => (Vaseda.takeInstead y.2).map fun z => (mkT x y.1 z.1, z.2)
          else if x = word "skip" then (Vaseda.takeNum 1 9 (l.drop j)).map fun y => (.skip y.1, y.2) else .ok (mkA x, l.drop j) := if_neg (by rw [c1]; decide)
      rw [eR] at q0 q1
      refine iteF ⟨_, rfl, fun b2 kb2 => ⟨b2, _, rfl, .inr kb2.sq, rfl, strs_flat _, _, rfl, ?_⟩⟩
      show if (if false = true then !inV (V.str (sT x)) (strsOf twoW) else inV (V.str (sT x)) (strsOf twoW)) = true then _ else _
      rw [if_neg Bool.false_ne_true, in_strs]
      cases c2 : twoW.contains x with
      | true =>
        rw [c2, if_pos rfl] at q0 q1
        refine iteT ⟨_, rfl, r, dx1, _, rfl, h11, nm j _ (by decide +kernel) (by decide +kernel), r, a, l, rk, j, rfl, hR1, wf, fun f e2 => (q0 f (ebind_er e2)).of ko, fun b j2 e2 hj2 H2 k2 hR2 => ⟨_, rfl, ?_⟩⟩
        obtain ⟨dx2, h12⟩ := hR2.ins
        refine ⟨_, rfl, r, dx2, _, rfl, h12, nm j2 _ (by decide +kernel) (by decide +kernel), r, a, l, rk, j2, rfl, hR2, wf, fun f e3 => (q0 f ((ebind_ok e2).trans (emap_er e3))).of (ko.trans k2), fun b3 j3 e3 hj3 H3 k3 hR3 m t hm2 ht p H4 us hp hfz hu1 hu2 hs => ?_⟩
        obtain ⟨t1, ht1, hn1⟩ := letters_name e2
        obtain ⟨lo1, lo2⟩ := rks.low j t1 ht1 hn1
        have hdist : t ≠ 0 ∧ rk.getD j 0 ≠ t := by
          rcases ht with ⟨rfl, t2, ht2, hn2⟩ | ht
          · have up := rks.up j j2 t1 t2 hj2 ht1 ht2 hn1 hn2
            exact ⟨by omega, by omega⟩
          · exact ⟨by omega, by omega⟩
        obtain ⟨w1, w2, w3⟩ := mkT_word (a := b) (b := b3) (List.contains_iff_mem.mp c2)
        refine q1 (mkT x b b3) j3 ((ebind_ok e2).trans (emap_ok e3)) (Nat.lt_trans hj (Nat.lt_trans hj2 hj3)) H4 (((ko.trans k2).trans k3).trans (Keep.of hs)) (hR3.same hs) m p hm2 ⟨p, rfl, ?_, w3 _ _ ⟨us, rk.getD j 0, t, hfz, hu1, hu2, (fun z => by rw [z] at lo1; omega), hdist.1, hdist.2⟩⟩
        rw [w1, w2]
        exact hfz.sq
      | false =>
        rw [c2, if_neg (by decide)] at q0 q1
        refine iteF ⟨_, rfl, rfl, _, rfl, ?_⟩
        rw [skip_text, str_dec]
        cases c3 : (x == word "skip") with
        | true =>
          have ex : x = word "skip" := eq_of_beq c3
          subst ex
          rw [if_pos rfl] at q0 q1
          refine iteT ⟨_, rfl, _, rfl, r, dx1, _, rfl, h11, nm j _ (by decide +kernel) (by decide +kernel), r, a, l, rk, j, 1, 9, rfl, hR1, wf, fun f e2 => (q0 f (emap_er e2)).of ko, fun k j2 e2 hj2 H2 k2 hR2 => ⟨by show 2 ≤ sizeLine; decide, fun p5 hp5 u hu => ?_⟩⟩
          obtain rfl : u = Value.ref p5 := hu
          exact q1 (.skip k) j2 (emap_ok e2) (Nat.lt_trans hj hj2) _ (keep_upd (ko.trans k2) hp5) (hR2.same (Same.upd hp5)) n p5 (Nat.le_refl n) ⟨p5, rfl, SqT.of upd_same, trivial⟩
        | false =>
          have nx : x ≠ word "skip" := ne_of_beq_false c3
          rw [if_neg nx] at q0 q1
          refine iteF ⟨_, rfl, by show 1 ≤ sizeLine; decide, fun p5 hp5 u hu => ?_⟩
          obtain rfl : u = Value.ref p5 := hu
          obtain ⟨w1, w2, w3⟩ := mkA_word (deed_alone hx c1 c2 nx)
          refine q1 (mkA x) j rfl hj _ (keep_upd ko hp5) (hR1.same (Same.upd hp5)) n p5 (Nat.le_refl n) ⟨p5, rfl, ?_, w3 _ _⟩
          rw [w1, w2]
          exact SqT.of upd_same
end
end Lsd
/-! read_command, read_script -/
namespace Lsd
open PySem PySem.Spec PyProof.Rows L2
open VasedBase hiding Tok
open Vaseda (Deed Cmd)
section
variable {X : Cx} {st : Stmt} {rest : List Stmt}
/-- a block cut behind its first statement -/
def nCut (t u : TSN) : TSN := fun D n σ H => ∃ Mid : Nat → L2.St → Hp → Prop, t { D with nx := Mid } n σ H ∧ ∀ n' σ' H', Mid n' σ' H' → u D n' σ' H'
theorem pssn_cut {t u : TSN} (h1 : PSN X st t) (h2 : PSsN X rest u) : PSsN X (st :: rest) (nCut t u) := by
  refine ⟨fun pins s σ H n D hn I h => ?_⟩
  obtain ⟨Mid, h, k⟩ := h
  refine wpAny_execs_cons (thn (h1.run pins s σ H n { D with nx := Mid } hn I h) fun f s1 q => ?_)
  cases f with
  | next =>
    obtain ⟨m, σ', H', hm, I', q⟩ := q
    exact h2.run pins s1 σ' H' m D hm I' (k m σ' H' q)
  | ret v => exact q
  | brk => exact q
  | cont => exact q
theorem pen_mk {CX : CXT} {k : Nat} {C : PySem.Addr} {x : Str} {ps : List Str} {sp : SpN} {E : XK} {t : TAN} {e : Expr} {es : List Expr} {p pos : Pos} (D : MkN X.prog X.w X.K X.mg X.base CX k C ps sp) (hr : Room (k + 1) X.A) (hm : X.mg x = some (.ref C)) (hx : Passes CX X E)
    (ha : PAN X (e :: es) t) (hg : Gl X x := by rfl) (hdb : (x == ("__debug__" : Str)) = false := by decide) (he : starEach (e :: es) X.env = (false, eval e X.env) :: starEach es X.env := by rfl) (hpl : (backTo pos (starEach es X.env)).any (·.1) = false := by rfl) :
    PEN X (.Call (.Name x p) (e :: es) [] pos) (nMake C sp E t) := by
  obtain ⟨f, fd, F, M, hb⟩ := D.ex
  exact pen_make M F hr hm hb hx ha hg hdb he hpl
end
def CmdAt (K : PySem.W.Frag) (H : Hp) (c : Cmd) (v : V) : Prop := ∃ p av dv, v = .ref p ∧ SqT K H p [av, dv] ∧ AtA K H c.a av ∧ DeedAt K H c.d dv
theorem CmdAt.keep {K : PySem.W.Frag} {H H' : Hp} {c : Cmd} {v : V} (k : KeepT H H') (h : CmdAt K H c v) : CmdAt K H' c v := by
  obtain ⟨p, av, dv, e, hs, ha, hd⟩ := h
  exact ⟨p, av, dv, e, k.sq hs, ha.keep k, hd.keep k⟩
/-- the values are the commands -/
def CmdsV (K : PySem.W.Frag) (H : Hp) (vs : List V) (cs : List Cmd) : Prop := vs.length = cs.length ∧ ∀ (i : Nat) (c : Cmd), cs[i]? = some c → ∃ v : V, vs[i]? = some v ∧ CmdAt K H c v
theorem CmdsV.keep {K : PySem.W.Frag} {H H' : Hp} {vs : List V} {cs : List Cmd} (k : KeepT H H') (h : CmdsV K H vs cs) : CmdsV K H' vs cs := ⟨h.1, fun i c e => let ⟨v, a, b⟩ := h.2 i c e; ⟨v, a, b.keep k⟩⟩
theorem CmdsV.nil (K : PySem.W.Frag) (H : Hp) : CmdsV K H [] [] := ⟨rfl, fun i c e => by simp at e⟩
theorem CmdsV.snoc {K : PySem.W.Frag} {H : Hp} {vs : List V} {cs : List Cmd} {v : V} {c : Cmd} (h : CmdsV K H vs cs) (hc : CmdAt K H c v) : CmdsV K H (vs ++ [v]) (cs ++ [c]) := by
  refine ⟨by rw [List.length_append, List.length_append, h.1] <;> rfl, fun i u q => ?_⟩
  rcases Nat.lt_or_ge i cs.length with hi | hi
  · rw [List.getElem?_append_left hi] at q
    obtain ⟨w, a, b⟩ := h.2 i u q
    exact ⟨w, by rw [List.getElem?_append_left (by rw [h.1]; exact hi)]; exact a, b⟩
  · rw [List.getElem?_append_right hi] at q
    have e : i = cs.length := by
      have := (List.getElem?_eq_some_iff.mp q).1
      simp at this
      omega
    subst e
    simp at q
    subst q
    exact ⟨v, by rw [← h.1]; simp, hc⟩
def cmdRest (ad : Vaseda.Addr) (l : Toks) : Except VasedBase.Fault (Cmd × Toks) := (Vaseda.takeDeed l).bind fun d => (takeEnd d.2).map fun m => (⟨ad, d.1⟩, m.2)
theorem sign_map {A : Type} (c : A) (l : Toks) : ((takeSign 59 l).map fun m => (c, m)) = (takeEnd l).map fun x => (c, x.2) := by
  unfold takeEnd
  cases takeSign 59 l <;> rfl
theorem takeCmd_eq (l : Toks) : Vaseda.takeCmd l = (if next (.name (word "if")) l = true then Vaseda.takeAddr (l.length + 1) 0 (l.drop 1) else .ok (Vaseda.Addr.all, l)).bind fun a => cmdRest a.1 a.2 := by
  unfold Vaseda.takeCmd cmdRest nextWord
  congr 1
  funext a
  congr 1
  funext d
  exact sign_map _ _
abbrev sCommand : Stmt := top 37
abbrev sScript : Stmt := top 38
theorem scCommand : FnScope ["reader", "address", "deed"] ["reader"] (defScope sCommand) := ⟨rfl, rfl, rfl, by decide +kernel, rfl, by decide +kernel, by decide +kernel⟩
theorem scScript : FnScope ["script", "reader", "found"] ["script"] (defScope sScript) := ⟨rfl, rfl, rfl, by decide +kernel, rfl, by decide +kernel, by decide +kernel⟩
def spCommand (K : PySem.W.Frag) (CR CF : PySem.Addr) : SpN := fun n vs H Q E => ∃ r a l rk i, vs = [.ref r] ∧ RdAt K CR H r a l rk i ∧ TokWf l ∧ Ranks l rk n ∧ Parse K CR CF Vaseda.takeCmd r a l rk i H E fun c _ H' => ∀ m p, n ≤ m → CmdAt K H' c (.ref p) → Q m (.ref p) (.ref p) H'
theorem if_word : (Str.ofString "if") = sT (word "if") := by decide +kernel
/-- behind the address -/
def AddrMid (K : PySem.W.Frag) (CR : PySem.Addr) (r a : PySem.Addr) (l : Toks) (rk : List Nat) (i : Nat) (H : Hp) (σ : L2.St) (H' : Hp) : Prop := ∃ ad av j, σ = [some (.ref r), some av, none] ∧ Keep [r] H H' ∧ RdAt K CR H' r a l rk j ∧ AtA K H' ad av ∧ i ≤ j ∧ Vaseda.takeCmd (l.drop i) = cmdRest ad (l.drop j)
section
variable {P : Program} {w : World} {K : PySem.W.Frag} {mg : Str → Option Value} {base : Heap} {CF CR : PySem.Addr}
theorem ok_command (F : GF K mg "read_command" sCommand) (T : ReaderT K mg CR) (D1 : MD P w K mg base CX0 2 CR "is_word" ["self", "word"] (spIsWord K CR)) (D2 : MD P w K mg base CX0 2 CR "take" ["self"] (spTake K CR))
    (D3 : GD P w K mg base (L2.CX P w) 5 "read_address" ["reader"] (spAddress K CR CF)) (D4 : GN P w K mg base (L2.CX P w) 5 "read_deed" ["reader"] (spDeed K CR CF)) (D5 : MD P w K mg base (L2.CX P w) 3 CR "take_end_of_command" ["self"] (spTakeEnd K CR CF)) (cA : GT K mg "ALL" [.str "all"]) :
    GN P w K mg base (L2.CX P w) 6 "read_command" ["reader"] (spCommand K CR CF) := by
  obtain ⟨f, fd, F, hm⟩ := F
  refine ⟨f, fd, fun_n F scCommand (fun n vs H Q E h => ?_) (fun cdv A outer s H vs n Q E hr h => ⟨_,
      pssn_cons (psn_of (ps_set (i := 1) scCommand.nd rfl (Or.inl rfl) (pe_gt cA)))
      (pssn_cut (psn_of (ps_if (pt_val (pe_m D1 T.cl (hr.mono (by decide)) pass0 (pv 0) (pa_cons pe_str pa_nil))) (pss_cons (ps_expr (pe_m0 D2 T.cl (hr.mono (by decide)) pass0 (pv 0))) (pss_one (ps_set (i := 1) scCommand.nd rfl (Or.inl rfl) (pe_g D3 hr (passW (takes_of rfl rfl rfl rfl)) (pa_cons (pv 0) pa_nil))))) pss_nil))
      (pssn_cons (psn_set (i := 2) scCommand.nd rfl (Or.inl rfl) (pen_g D4 hr (passW (takes_of rfl rfl rfl rfl)) (pan_of (pa_cons (pv 0) pa_nil))))
      (pssn_cons (psn_of (ps_expr (pe_m0 D5 T.cl (hr.mono (by decide)) (passW (takes_of rfl rfl rfl rfl)) (pv 0))))
      (pssn_one (psn_of (ps_ret (pe_tup (pa_cons (pv 1) (pa_cons (pv 2) pa_nil))))))))), ?_⟩), hm, F.kp, F.binds fun _ _ _ _ _ _ us hl => match us, hl with | [_], _ => rfl⟩
  · obtain ⟨r, a, l, rk, i, rfl, _⟩ := h
    rfl
  · obtain ⟨r, a, l, rk, i, rfl, hR, wf, rks, q0, q1⟩ := h
    have hR0 := hR
    obtain ⟨dx, vs, h1, h2, h3, hi⟩ := hR
    have nm : ∀ (k : Nat) (m : Str), (m == ("tokens" : Str)) = false → (m == ("here" : Str)) = false → (rF a k).lookup m = none := fun k m z1 z2 => rF_none a k z1 z2
    refine fun aA kA => ⟨fun n' σ' H' => n' = n ∧ AddrMid K CR r a l rk i H σ' H', ?_, ?_⟩
    · refine ⟨_, rfl, r, dx, _, rfl, h1, nm i _ (by decide +kernel) (by decide +kernel), r, a, l, rk, i, word "if", by rw [if_word] <;> rfl, hR0, _, rfl, ?_⟩
      have eC := takeCmd_eq (l.drop i)
      cases hn : next (.name (word "if")) (l.drop i) with
      | true =>
        rw [hn, if_pos rfl, List.drop_drop] at eC
        obtain ⟨t, ht⟩ := hR0.tok
        have hnl : t.tok ≠ .last := fun e => by
          rw [drop_get ht] at hn
          obtain ⟨p, tk⟩ := t
          cases e
          cases hn
        refine iteT ⟨_, rfl, r, dx, _, rfl, h1, nm i _ (by decide +kernel) (by decide +kernel), r, a, l, rk, i, t, rfl, hR0, ht, wf.more ht hnl, fun v H1 k1 hR1 tk1 => ?_⟩
        refine ⟨_, rfl, r, a, l, rk, i + 1, (l.drop i).length + 1, rfl, hR1, wf, by rw [List.length_drop, List.length_drop]; omega, fun f e => (q0 f (eC.trans (ebind_er e))).of k1, fun ad j e hj H2 k2 hR2 v2 hv2 => ?_⟩
        exact ⟨rfl, ad, v2, j, rfl, k1.trans k2, hR2, hv2, by omega, eC.trans (ebind_ok e)⟩
      | false =>
        rw [hn, if_neg (by decide)] at eC
        exact iteF ⟨rfl, .all, .ref aA, i, rfl, Keep.refl _ _, hR0, ⟨aA, rfl, kA.sq⟩, Nat.le_refl i, eC⟩
    · rintro n' σ' H1 ⟨rfl, ad, av, j, rfl, k1, hR1, hav, hij, eC⟩
      rw [eC] at q0 q1
      refine ⟨_, rfl, fun us rus => ⟨r, a, l, rk, j, rfl, hR1, wf, rks, fun f e => (q0 f (ebind_er e)).of k1, fun d j2 e2 hj2 H2 k2 hR2 m p hm2 hd => ?_⟩⟩
      obtain ⟨dx2, h12⟩ := hR2.ins
      refine ⟨_, rfl, r, dx2, _, rfl, h12, nm j2 _ (by decide +kernel) (by decide +kernel), r, a, l, rk, j2, rfl, hR2, wf, fun f e => (q0 f ((ebind_ok e2).trans (emap_er e))).of (k1.trans k2), fun _ j3 e3 hj3 H3 k3 hR3 => ?_⟩
      refine ⟨_, rfl, _, rfl, by show 2 ≤ sizeLine; decide, fun p2 hp2 u hu => ?_⟩
      obtain rfl : u = Value.ref p2 := hu
      have kt3 : KeepT H2 H3 := Keep.keepT k3 hR2.notT
      have kt : KeepT H1 H3 := (Keep.keepT k2 hR1.notT).trans kt3
      exact q1 ⟨ad, d⟩ j3 ((ebind_ok e2).trans (emap_ok e3)) (by omega) _ (keep_upd ((k1.trans k2).trans k3) hp2) (hR3.same (Same.upd hp2)) m p2 hm2 ⟨p2, av, .ref p, rfl, SqT.of upd_same, hav.keep (kt.trans (KeepT.updn hp2)), hd.keep (kt3.trans (KeepT.updn hp2))⟩
/-! ### read_script -/
def spScriptN (K : PySem.W.Frag) (CF : PySem.Addr) : SpN := fun n vs H Q E => ∃ a b, vs = [.ref a] ∧ SqL K H a (ofB b) ∧ b.length ≤ 10000 ∧ (∀ f, Vaseda.read b = .error f → FaultK CF E [] H f.code f.place) ∧
  ∀ s, Vaseda.read b = .ok s → ∀ m p vs H', Same H H' → H p = none → H' p = some (.lst vs) → CmdsV K H' vs s → Q m (.ref p) (.ref p) H'
def isLastB (t : PTok) : Bool := match t.tok with
  | .last => true
  | _ => false
theorem kind_end (t : PTok) : decide (V.str (kindS t) = V.str ("end" : Str)) = isLastB t := by
  obtain ⟨p, tk⟩ := t
  cases tk <;> (first | rfl | decide +kernel)
theorem next_last (t : PTok) (r : Toks) : next .last (t :: r) = isLastB t := by
  obtain ⟨p, tk⟩ := t
  cases tk <;> rfl
def ScrS (K : PySem.W.Frag) (CR a r pt pf : PySem.Addr) (l : Toks) (rk : List Nat) (H : Hp) (j n : Nat) (σ : L2.St) (H' : Hp) : Prop := ∃ cs vs F, σ = [some (.ref a), some (.ref r), some (.ref pf)] ∧ Same H H' ∧ H' pf = some (.lst vs) ∧ CmdsV K H' vs cs ∧ RdAt K CR H' r pt l rk j ∧
  (l.drop j).length < F ∧ cs.length ≤ 16 ∧ Ranks l rk n ∧ Vaseda.takeCmds (l.length + 1) [] l = Vaseda.takeCmds F cs (l.drop j)
theorem Ranks.mono {l : Toks} {rk : List Nat} {n m : Nat} (h : Ranks l rk n) (hm : n ≤ m) : Ranks l rk m := ⟨h.len, fun i t e z => ⟨(h.low i t e z).1, Nat.lt_of_lt_of_le (h.low i t e z).2 hm⟩, h.up⟩
theorem Keep.outer {r : PySem.Addr} {H H1 H2 : Hp} (hr : H r = none) (s : Same H H1) (k : Keep [r] H1 H2) : Same H H2 := fun b o e => k b o (s b o e) fun m => by
  have eb : b = r := by simpa using m
  rw [eb, hr] at e
  cases e
theorem ok_script (F : GF K mg "read_script" sScript) (T : ReaderT K mg CR) (TF : FaultT K mg CF) (FD : FaultD P w K mg base CF (spFault CF)) (DR : MkN P w K mg base (L2.CX P w) 6 CR ["self", "script"] (spReaderInit K CR CF)) (D0 : MD P w K mg base CX0 1 CR "ahead" ["self"] (spAhead K CR))
    (DC : GN P w K mg base (L2.CX P w) 6 "read_command" ["reader"] (spCommand K CR CF)) (ml : mg "len" = none) (cM : GC mg "MOST_COMMANDS" (.int 16)) : GN P w K mg base (L2.CX P w) 8 "read_script" ["script"] (spScriptN K CF) := by
  obtain ⟨f, fd, F, hm⟩ := F
  refine ⟨f, fd, fun_n F scScript (fun n vs H Q E h => ?_) (fun cdv A outer s H vs n Q E hr h => ⟨_,
      pssn_cons (psn_set (i := 1) scScript.nd rfl (Or.inl rfl) (pen_mk DR hr T.gl (passW (takes_of rfl rfl rfl rfl)) (pan_of (pa_cons (pv 0) pa_nil))))
      (pssn_cons (psn_of (ps_set (i := 2) scScript.nd rfl (Or.inl rfl) (pe_lst pa_nil)))
      (pssn_cons (psn_while (passes_of rfl) (pt_cmpR op_ne (pe_ix ix_tup (pe_m0 D0 T.cl (hr.mono (by decide)) pass0 (pv 1)) L2.pe_int (fun _ _ => rfl)) pe_str (nomark _))
        (pssn_cons (psn_of (ps_if (pt_cmpR op_eq (pe_callB call_len_seq (by rfl) ml boot_len (pa_cons (pv 2) pa_nil)) (pe_gc cM) (nomark _)) (pss_one (ps_fault TF FD (hr.mono (by decide)) (takes_of rfl rfl rfl rfl) (pa_cons L2.pe_int (pa_cons (pe_ix ix_tup (pe_m0 D0 T.cl (hr.mono (by decide)) pass0 (pv 1)) L2.pe_int (fun _ _ => rfl)) pa_nil)))) pss_nil))
        (pssn_one (psn_expr (pen_bm PySem.F.plainAttrs_list PySem.F.slot_list_append PySem.F.type_list_append mt_append (pv 2) (pan_cons (pen_g DC (hr.mono (by decide)) (passW (takes_of rfl rfl rfl rfl)) (pan_of (pa_cons (pv 1) pa_nil))) pan_nil))))))
      (pssn_one (psn_of (ps_ret (pv 2)))))), ?_⟩), hm, F.kp, F.binds fun _ _ _ _ _ _ us hl => match us, hl with | [_], _ => rfl⟩
  · obtain ⟨a, b, rfl, _⟩ := h
    rfl
  · obtain ⟨a, b, rfl, hS, hz, q0, q1⟩ := h
    refine ⟨_, rfl, fun us rus x dx hx hdx hne => ?_⟩
    have sN : Same H (upd (upd H dx (.own x)) x (.ins CR dx [])) := fun b o e => by
      rw [upd_ne (ne_of_none e hx), upd_ne (ne_of_none e hdx)]
      exact e
    refine ⟨x, dx, a, b, rfl, upd_same, sN.seq hS, hz, fun f e => ((q0 f (ebind_er e)).of (Keep.of sN)).fe, fun l etok pt rk m H1 k1 hR1 rks h1 hlen => ⟨rfl, ?_⟩⟩
    have wf := tokens_wf etok
    have erd : Vaseda.read b = Vaseda.takeCmds (l.length + 1) [] l := ebind_ok etok
    rw [erd] at q0 q1
    have s1 : Same H H1 := fun c o e => k1 c o (sN c o e) (ne_of_none e hx)
    refine ⟨by show 0 ≤ sizeLine; decide, fun pf hpf => ?_⟩
    have hpfH : H pf = none := by
      cases e : H pf with
      | none => rfl
      | some o => rw [s1 _ _ e] at hpf; cases hpf
    have hpn : pt ≠ pf := by
      obtain ⟨_, _, _, g2, _⟩ := hR1
      exact ne_of_none g2 hpf
    refine ⟨fun m n σ H' => ∃ j, ScrS K CR a x pt pf l rk H j n σ H' ∧ m = l.length - j, ⟨_, 0, ⟨[], [], l.length + 1, rfl, s1.trans (Same.upd hpf), upd_same, CmdsV.nil _ _, hR1.same (Same.upd hpf), Nat.lt_succ_self _, by decide, rks, rfl⟩, rfl⟩, ?_⟩
    rintro m2 n2 σ H2 ⟨j, ⟨cs, vs, F, rfl, s2, hl, hcs, hR2, hF, h16, rk2, eT⟩, rfl⟩
    have nm : ∀ (k : Nat) (m : Str), (m == ("tokens" : Str)) = false → (m == ("here" : Str)) = false → (rF pt k).lookup m = none := fun k m z1 z2 => rF_none pt k z1 z2
    obtain ⟨dx2, h12⟩ := hR2.ins
    obtain ⟨F2, rfl⟩ : ∃ F2, F = F2 + 1 := ⟨F - 1, by omega⟩
    refine ⟨_, rfl, x, dx2, _, rfl, h12, nm j _ (by decide +kernel) (by decide +kernel), x, pt, l, rk, j, rfl, hR2, fun v t ht tk => ?_⟩
    obtain ⟨tp, rfl, sq⟩ := tk.sq
    have hd := drop_get ht
    refine ⟨tp, _, 0, _, rfl, rfl, sq, atI_nat (j := 0) rfl, rfl, _, rfl, ?_⟩
    rw [kind_end]
    have eU : Vaseda.takeCmds (F2 + 1) cs (l.drop j) = if isLastB t = true then .ok cs else if 16 ≤ cs.length then .error ⟨4, t.place⟩ else (Vaseda.takeCmd (l.drop j)).bind fun y => Vaseda.takeCmds F2 (cs ++ [y.1]) y.2 := by
      show (if next .last (l.drop j) = true then (Except.ok cs : Except VasedBase.Fault Vaseda.Script) else if 16 ≤ cs.length then Except.error ⟨4, here (l.drop j)⟩ else (Vaseda.takeCmd (l.drop j)).bind fun y => Vaseda.takeCmds F2 (cs ++ [y.1]) y.2) = _
      rw [hd, next_last] <;> rfl
    rw [eU] at eT
    cases hlast : isLastB t with
    | true =>
      rw [hlast, if_pos rfl] at eT
      refine iteF ⟨_, rfl, fun u hu => ?_⟩
      obtain rfl : u = Value.ref pf := hu
      exact q1 cs eT n2 pf vs H2 s2 hpfH hl hcs
    | false =>
      rw [hlast, if_neg (by decide)] at eT
      refine iteT ⟨fun n3 σ3 H3 => ∃ j3, ScrS K CR a x pt pf l rk H j3 n3 σ3 H3 ∧ l.length - j3 < l.length - j, fun n3 σ3 H3 ⟨j3, h, lt⟩ => ⟨_, lt, j3, h, rfl⟩, ?_⟩
      refine ⟨_, rfl, pf, _, rfl, Or.inl (SqL.of hl), rfl, _, rfl, ?_⟩
      have hvl := hcs.1
      by_cases c16 : 16 ≤ cs.length
      · have e16 : cs.length = 16 := Nat.le_antisymm h16 c16
        rw [if_pos c16] at eT
        refine if_tr (by rw [hvl, e16]; rfl) ⟨_, rfl, x, dx2, _, rfl, h12, nm j _ (by decide +kernel) (by decide +kernel), x, pt, l, rk, j, rfl, hR2, fun v2 t2 ht2 tk2 => ?_⟩
        rw [ht] at ht2
        cases ht2
        obtain ⟨tp2, rfl, sq2⟩ := tk2.sq
        exact ⟨tp2, _, 2, _, rfl, rfl, sq2, atI_nat (j := 2) rfl, fault_tail ((q0 ⟨4, t.place⟩ eT).of (Keep.of s2)).fe⟩
      · rw [if_neg c16] at eT
        refine if_fl (by rw [hvl, decide_eq_false_iff_not]; simp; omega) ?_
        refine ⟨_, rfl, .inl ⟨rfl, _, SqL.of hl⟩, _, rfl, fun us rus => ⟨x, pt, l, rk, j, rfl, hR2, wf, rk2, fun f e => ?_, fun c j3 e3 hj3 H3 k3 hR3 m3 p3 hm3 hc3 => ?_⟩⟩
        · intro d H' kk hd'
          exact (q0 f (eT.trans (ebind_er e))) d H' (Keep.of (Keep.outer hx s2 kk)) hd'
        · have hxn : pf ≠ x := fun z => by rw [z, h12] at hl; cases hl
          have hl3 := k3 _ _ hl (by simpa using hxn)
          refine ⟨pf, vs, _, rfl, rfl, hl3, by rw [sizeLine_eq]; omega, fun u hu => ?_⟩
          have kt3 : KeepT H2 H3 := Keep.keepT k3 hR2.notT
          have hj := (List.getElem?_eq_some_iff.mp ht).1
          rw [List.length_drop] at hF
          obtain ⟨dx3, vs3, g1, g2, g3, g4⟩ := hR3
          have sX : Same H H3 := Keep.outer hx s2 k3
          refine ⟨j3, ⟨cs ++ [c], _, F2, rfl, Same.updD sX hpfH, upd_same, ((hcs.keep kt3).snoc hc3).keep (KeepT.updl hl3), ?_, by rw [List.length_drop]; omega, by rw [List.length_append]; show cs.length + 1 ≤ 16; omega, rk2.mono hm3, ?_⟩, by omega⟩
          · exact ⟨dx3, vs3, (upd_ne (Ne.symm hxn)).trans g1, (upd_ne hpn).trans g2, g3.keep (KeepT.updl hl3), g4⟩
          · rw [ebind_ok e3] at eT
            exact eT
end
end Lsd
/-! What is read is in bounds; the words of the one form -/
namespace Lsd
open PySem PySem.Spec PyProof.Rows L2
open VasedBase hiding Tok
open Vaseda (Deed Cmd)
/-! ### bounds -/
def NameWf (l : Toks) : Prop := ∀ t ∈ l, ∀ b, t.tok = .name b → 1 ≤ b.length ∧ b.length ≤ 8
theorem NameWf.drop {l : Toks} (h : NameWf l) (n : Nat) : NameWf (l.drop n) := fun t m => h t (List.mem_of_mem_drop m)
theorem NameWf.tail {t : PTok} {l : Toks} (h : NameWf (t :: l)) : NameWf l := fun u m => h u (List.mem_cons_of_mem _ m)
theorem bind_inv {A B : Type} {e : Except VasedBase.Fault A} {f : A → Except VasedBase.Fault B} {y : B} (h : e.bind f = .ok y) : ∃ x, e = .ok x ∧ f x = .ok y := by
  cases e with
  | error z => cases h
  | ok x => exact ⟨x, rfl, h⟩
theorem map_inv {A B : Type} {e : Except VasedBase.Fault A} {f : A → B} {y : B} (h : e.map f = .ok y) : ∃ x, e = .ok x ∧ f x = y := by
  cases e with
  | error z => cases h
  | ok x => exact ⟨x, rfl, Except.ok.inj h⟩
theorem letters_wf {l : Toks} {x : Bytes × Toks} (w : NameWf l) (h : Vaseda.takeLetters l = .ok x) : 1 ≤ x.1.length ∧ x.1.length ≤ 8 ∧ NameWf x.2 := by
  obtain ⟨y, e, rfl⟩ := map_inv h
  rcases l with _ | ⟨⟨p, tk⟩, r⟩
  · cases e
  · cases tk with
    | num m => cases e
    | sign c => cases e
    | last => cases e
    | name b =>
      have e' : (if RESERVED.contains b = true then wrong (⟨p, .name b⟩ :: r) else .ok (⟨p, b⟩, r) : Except VasedBase.Fault (PName × Toks)) = .ok y := e
      split at e'
      · cases e'
      · cases e'
        obtain ⟨a, c⟩ := w _ (List.mem_cons_self ..) b rfl
        exact ⟨a, c, w.tail⟩
theorem instead_wf {l : Toks} {x : Bytes × Toks} (w : NameWf l) (h : Vaseda.takeInstead l = .ok x) : x.1.length ≤ 8 ∧ NameWf x.2 := by
  unfold Vaseda.takeInstead at h
  split at h
  · cases h
    exact ⟨Nat.zero_le _, w.drop 1⟩
  · exact ⟨(letters_wf w h).2.1, (letters_wf w h).2.2⟩
theorem num_wf {lo hi : Nat} {l : Toks} {x : Nat × Toks} (w : NameWf l) (h : Vaseda.takeNum lo hi l = .ok x) : lo ≤ x.1 ∧ x.1 ≤ hi ∧ NameWf x.2 := by
  rcases l with _ | ⟨⟨p, tk⟩, r⟩
  · cases h
  · cases tk with
    | name m => cases h
    | sign c => cases h
    | last => cases h
    | num n =>
      have e' : (if n < lo ∨ hi < n then .error ⟨7, p⟩ else .ok (n, r) : Except VasedBase.Fault (Nat × Toks)) = .ok x := h
      split at e'
      · cases e'
      · rename_i q
        cases e'
        exact ⟨by show lo ≤ n; omega, by show n ≤ hi; omega, w.tail⟩
theorem taken_wf {t : VasedBase.Tok} {l r : Toks} (w : NameWf l) (h : taken t l = .ok r) : NameWf r := by
  unfold taken at h
  split at h
  · cases h
    exact w.drop 1
  · cases h
/-- an address in bounds, with at most n nots -/
def aOk : Nat → Vaseda.Addr → Prop
  | _, .line n => n ≤ 99
  | _, .span a b => a ≤ 99 ∧ b ≤ 99
  | _, .has w => 1 ≤ w.length ∧ w.length ≤ 8
  | _, .is_ w => 1 ≤ w.length ∧ w.length ≤ 8
  | 0, .not _ => False
  | n + 1, .not a => aOk n a
  | _, _ => True
theorem addr_wf : ∀ (f n : Nat) (l : Toks) (x : Vaseda.Addr × Toks), NameWf l → n ≤ 3 → Vaseda.takeAddr f n l = .ok x → aOk (3 - n) x.1 ∧ NameWf x.2
  | 0, _, _, _, _, _, h => by cases h
  | f + 1, n, l, x, w, hn, h => by
    unfold Vaseda.takeAddr at h
    have w1 := w.drop 1
    split at h
    · cases h
      exact ⟨by cases (3 - n) <;> trivial, w1⟩
    split at h
    · obtain ⟨y, e, rfl⟩ := map_inv h
      obtain ⟨a, b, c⟩ := num_wf w1 e
      refine ⟨?_, c⟩
      cases (3 - n) <;> exact b
    split at h
    · obtain ⟨y, e, h⟩ := bind_inv h
      obtain ⟨l2, e2, h⟩ := bind_inv h
      obtain ⟨z, e3, rfl⟩ := map_inv h
      obtain ⟨a, b, c⟩ := num_wf w1 e
      obtain ⟨a2, b2, c2⟩ := num_wf (taken_wf c e2) e3
      refine ⟨?_, c2⟩
      cases (3 - n) <;> exact ⟨b, b2⟩
    split at h
    · cases h
      exact ⟨by cases (3 - n) <;> trivial, w1⟩
    split at h
    · obtain ⟨y, e, rfl⟩ := map_inv h
      obtain ⟨a, b, c⟩ := letters_wf w1 e
      refine ⟨?_, c⟩
      cases (3 - n) <;> exact ⟨a, b⟩
    split at h
    · obtain ⟨y, e, rfl⟩ := map_inv h
      obtain ⟨a, b, c⟩ := letters_wf w1 e
      refine ⟨?_, c⟩
      cases (3 - n) <;> exact ⟨a, b⟩
    split at h
    · split at h
      · cases h
      · rename_i _ hq
        have hq : ¬ 3 ≤ n := hq
        obtain ⟨y, e, rfl⟩ := map_inv h
        obtain ⟨a, b⟩ := addr_wf f (n + 1) _ y w1 (by omega) e
        refine ⟨?_, b⟩
        have e3 : 3 - n = (3 - (n + 1)) + 1 := by omega
        rw [e3]
        exact a
    · cases h
def dOk : Deed → Prop
  | .before w => 1 ≤ w.length ∧ w.length ≤ 8
  | .after w => 1 ≤ w.length ∧ w.length ≤ 8
  | .change w => 1 ≤ w.length ∧ w.length ≤ 8
  | .swap a b => 1 ≤ a.length ∧ a.length ≤ 8 ∧ b.length ≤ 8
  | .first a b => 1 ≤ a.length ∧ a.length ≤ 8 ∧ b.length ≤ 8
  | .skip k => k ≤ 9
  | _ => True
theorem two_wf {f : Bytes → Bytes → Deed} {l : Toks} {x : Deed × Toks} (w : NameWf l) (h : Vaseda.takeTwo f l = .ok x) : ∃ a b, x.1 = f a b ∧ 1 ≤ a.length ∧ a.length ≤ 8 ∧ b.length ≤ 8 ∧ NameWf x.2 := by
  obtain ⟨y, e, h⟩ := bind_inv h
  obtain ⟨z, e2, rfl⟩ := map_inv h
  obtain ⟨a, b, c⟩ := letters_wf w e
  obtain ⟨d, g⟩ := instead_wf c e2
  exact ⟨_, _, rfl, a, b, d, g⟩
theorem deed_wf {l : Toks} {x : Deed × Toks} (w : NameWf l) (h : Vaseda.takeDeed l = .ok x) : dOk x.1 ∧ NameWf x.2 := by
  unfold Vaseda.takeDeed at h
  have w1 := w.drop 1
  dsimp only at h
  split at h
  · cases h; exact ⟨trivial, w1⟩
  split at h
  · obtain ⟨y, e, rfl⟩ := map_inv h
    obtain ⟨a, b, c⟩ := letters_wf w1 e
    exact ⟨⟨a, b⟩, c⟩
  split at h
  · obtain ⟨y, e, rfl⟩ := map_inv h
    obtain ⟨a, b, c⟩ := letters_wf w1 e
    exact ⟨⟨a, b⟩, c⟩
  split at h
  · obtain ⟨y, e, rfl⟩ := map_inv h
    obtain ⟨a, b, c⟩ := letters_wf w1 e
    exact ⟨⟨a, b⟩, c⟩
  split at h
  · obtain ⟨a, b, e, h1, h2, h3, h4⟩ := two_wf w1 h
    rw [e]
    exact ⟨⟨h1, h2, h3⟩, h4⟩
  split at h
  · obtain ⟨a, b, e, h1, h2, h3, h4⟩ := two_wf w1 h
    rw [e]
    exact ⟨⟨h1, h2, h3⟩, h4⟩
  split at h
  · cases h; exact ⟨trivial, w1⟩
  split at h
  · cases h; exact ⟨trivial, w1⟩
  split at h
  · cases h; exact ⟨trivial, w1⟩
  split at h
  · obtain ⟨y, e, rfl⟩ := map_inv h
    obtain ⟨a, b, c⟩ := num_wf w1 e
    exact ⟨b, c⟩
  split at h
  · cases h; exact ⟨trivial, w1⟩
  · cases h
def cmdOk (c : Cmd) : Prop := aOk 3 c.a ∧ dOk c.d
theorem cmd_wf {l : Toks} {x : Cmd × Toks} (w : NameWf l) (h : Vaseda.takeCmd l = .ok x) : cmdOk x.1 ∧ NameWf x.2 := by
  obtain ⟨a, ea, h⟩ := bind_inv h
  obtain ⟨d, ed, h⟩ := bind_inv h
  obtain ⟨m, em, rfl⟩ := map_inv h
  have ha : aOk 3 a.1 ∧ NameWf a.2 := by
    split at ea
    · exact addr_wf _ 0 _ a (w.drop 1) (by decide) ea
    · cases ea
      exact ⟨trivial, w⟩
  obtain ⟨hd, wd⟩ := deed_wf ha.2 ed
  exact ⟨⟨ha.1, hd⟩, taken_wf wd em⟩
theorem cmds_wf : ∀ (n : Nat) (cs : List Cmd) (l : Toks) (s : List Cmd), NameWf l → (∀ c ∈ cs, cmdOk c) → cs.length ≤ 16 → Vaseda.takeCmds n cs l = .ok s → (∀ c ∈ s, cmdOk c) ∧ s.length ≤ 16
  | 0, _, _, _, _, _, _, h => by cases h
  | n + 1, cs, l, s, w, hc, hl, h => by
    unfold Vaseda.takeCmds at h
    split at h
    · cases h
      exact ⟨hc, hl⟩
    split at h
    · cases h
    · rename_i q
      have q : ¬ 16 ≤ cs.length := q
      obtain ⟨x, e, h⟩ := bind_inv h
      obtain ⟨h1, h2⟩ := cmd_wf w e
      refine cmds_wf n _ _ s h2 (fun c m => ?_) (by rw [List.length_append]; show cs.length + 1 ≤ 16; omega) h
      rcases List.mem_append.mp m with m | m
      · exact hc c m
      · have : c = x.1 := by simpa using m
        rw [this]; exact h1
theorem TokWf.names {l : Toks} (w : TokWf l) : NameWf l := fun t m b e => (w.name t m b e).2
theorem read_wf {b : Bytes} {s : List Cmd} (h : Vaseda.read b = .ok s) : (∀ c ∈ s, cmdOk c) ∧ s.length ≤ 16 := by
  obtain ⟨l, e, h⟩ := bind_inv h
  exact cmds_wf _ _ _ s (tokens_wf e).names (fun c m => absurd m (by simp)) (Nat.zero_le _) h
/-! ### the words of the one form -/
def addrWs : Vaseda.Addr → List Bytes
  | .all => [word "all"]
  | .line n => [word "line", showNat n]
  | .span a b => [word "from", showNat a, word "to", showNat b]
  | .last => [word "last"]
  | .has w => [word "has", w]
  | .is_ w => [word "is", w]
  | .not a => word "not" :: addrWs a
theorem addrWs_ne : ∀ a : Vaseda.Addr, ∃ x r, addrWs a = x :: r
  | .all => ⟨_, _, rfl⟩
  | .line n => ⟨_, _, rfl⟩
  | .span a b => ⟨_, _, rfl⟩
  | .last => ⟨_, _, rfl⟩
  | .has w => ⟨_, _, rfl⟩
  | .is_ w => ⟨_, _, rfl⟩
  | .not a => ⟨_, _, rfl⟩
theorem glue_cons {x y : Bytes} {r : List Bytes} : glue (x :: y :: r) = x ++ (32 :: glue (y :: r)) := rfl
theorem glue_app : ∀ (l m : List Bytes), l ≠ [] → m ≠ [] → glue (l ++ m) = glue l ++ (32 :: glue m)
  | [], _, h, _ => absurd rfl h
  | [a], m, _, h => by
    cases m with
    | nil => exact absurd rfl h
    | cons b r => rfl
  | a :: b :: r, m, _, h => by
    show a ++ (32 :: glue ((b :: r) ++ m)) = (a ++ (32 :: glue (b :: r))) ++ (32 :: glue m)
    rw [glue_app (b :: r) m (by simp) h, List.append_assoc] <;> rfl
theorem word_sp (s t : String) (h : word t = word s ++ [32]) (x : Bytes) : word t ++ x = word s ++ (32 :: x) := by rw [h, List.append_assoc] <;> rfl
theorem show_addr : ∀ a : Vaseda.Addr, Vaseda.showAddr a = glue (addrWs a)
  | .all => rfl
  | .line n => word_sp "line" "line " (by decide +kernel) _
  | .span a b => by
    show word "from " ++ (showNat a ++ (word " to " ++ showNat b)) = word "from" ++ (32 :: (showNat a ++ (32 :: (word "to" ++ (32 :: showNat b)))))
    rw [word_sp "from" "from " (by decide +kernel), show word " to " = 32 :: (word "to" ++ [32]) by decide +kernel]
    simp
  | .last => rfl
  | .has w => word_sp "has" "has " (by decide +kernel) _
  | .is_ w => word_sp "is" "is " (by decide +kernel) _
  | .not a => by
    obtain ⟨x, r, e⟩ := addrWs_ne a
    show word "not " ++ Vaseda.showAddr a = glue (word "not" :: addrWs a)
    rw [word_sp "not" "not " (by decide +kernel), show_addr a, e] <;> rfl
def deedWs : Deed → List Bytes
  | .before w => [word "before", w]
  | .after w => [word "after", w]
  | .change w => [word "change", w]
  | .swap a b => [word "swap", a, Vaseda.instead b]
  | .first a b => [word "first", a, Vaseda.instead b]
  | .skip k => [word "skip", showNat k]
  | d => [dWord d]
theorem deedWs_ne (d : Deed) : deedWs d ≠ [] := by cases d <;> simp [deedWs]
theorem show_deed (d : Deed) : Vaseda.showDeed d = glue (deedWs d) := by
  cases d with
  | delete => rfl
  | before w => exact word_sp "before" "before " (by decide +kernel) _
  | after w => exact word_sp "after" "after " (by decide +kernel) _
  | change w => exact word_sp "change" "change " (by decide +kernel) _
  | swap a b =>
    show word "swap " ++ (a ++ (word " " ++ Vaseda.instead b)) = word "swap" ++ (32 :: (a ++ (32 :: Vaseda.instead b)))
    rw [word_sp "swap" "swap " (by decide +kernel)] <;> rfl
  | first a b =>
    show word "first " ++ (a ++ (word " " ++ Vaseda.instead b)) = word "first" ++ (32 :: (a ++ (32 :: Vaseda.instead b)))
    rw [word_sp "first" "first " (by decide +kernel)] <;> rfl
  | keep => rfl
  | bring => rfl
  | trade => rfl
  | skip k => exact word_sp "skip" "skip " (by decide +kernel) _
  | halt_ => rfl
def cmdWs (c : Cmd) : List Bytes := ((if c.a = .all then [] else word "if" :: addrWs c.a) ++ deedWs c.d) ++ [word ";"]
theorem show_cmd (c : Cmd) : Vaseda.showCmd c = glue (cmdWs c) ++ [10] := by
  unfold Vaseda.showCmd cmdWs
  rw [show_deed, show_addr, glue_app _ [word ";"] (by
    intro z
    exact deedWs_ne c.d (List.append_eq_nil_iff.mp z).2) (by simp)]
  split
  · rw [List.nil_append, List.nil_append, List.append_assoc]
    rfl
  · obtain ⟨x, r, e⟩ := addrWs_ne c.a
    rw [glue_app (word "if" :: addrWs c.a) _ (by simp) (deedWs_ne _), e, glue_cons, word_sp "if" "if " (by decide +kernel)]
    have e2 : word " ;" = 32 :: glue [word ";"] := by decide +kernel
    have e3 : word " " = [32] := by decide +kernel
    rw [e2, e3]
    simp
theorem show_script (s : List Cmd) : Vaseda.shown s = (s.map Vaseda.showCmd).flatten := by
  show s.flatMap Vaseda.showCmd = _
  rw [List.flatMap_def]
end Lsd
/-! address_words, deed_words -/
namespace Lsd
open PySem PySem.Spec PyProof.Rows L2
open VasedBase hiding Tok
open Vaseda (Deed Cmd)
theorem num_text : ∀ n : Nat, n ≤ 99 → Str.ofString (toString ((n : Nat) : Int)) = sT (showNat n) := by
  have key : ∀ k : Fin 100, Str.ofString (toString ((k.val : Nat) : Int)) = sT (showNat k.val) := by decide +kernel
  exact fun n h => key ⟨n, by omega⟩
theorem num_small : ∀ n : Nat, n ≤ 99 → ((n : Int)).natAbs.log2 < 1920 := by
  have key : ∀ k : Fin 100, ((k.val : Nat) : Int).natAbs.log2 < 1920 := by decide +kernel
  exact fun n h => key ⟨n, by omega⟩
theorem num_len : ∀ n : Nat, n ≤ 99 → (showNat n).length ≤ 2 := by
  have key : ∀ k : Fin 100, (showNat k.val).length ≤ 2 := by decide +kernel
  exact fun n h => key ⟨n, by omega⟩
/-- str(x) of an int, of a text -/
abbrev rStr : List V → Hp → VK → Prop := fun xs H Q => (∃ i, xs = [.int i] ∧ i.natAbs.log2 < 1920 ∧ Q (.str (toString i)) H) ∨ ∃ a, xs = [.str a] ∧ Q (.str a) H
theorem cr_str {X : Cx} : CallR X (.type "str") rStr := CallR.or call_str_int SkE.call_str_str
theorem str_num {n : Nat} {H : Hp} {Q : VK} (h : n ≤ 99) (q : Q (.str (sT (showNat n))) H) : rStr [.int (n : Int)] H Q := .inl ⟨_, rfl, num_small n h, by rw [← num_text n h] at q; exact q⟩
theorem cut1 {xs : List V} (h : xs ≠ []) : cutV xs (some 1) none = xs.drop 1 ∧ ¬ (HT.sIx xs.length 0 (some 1) = 0 ∧ HT.sIx xs.length xs.length none = xs.length) := by
  have hl : 1 ≤ xs.length := by
    cases xs with
    | nil => exact absurd rfl h
    | cons a r => simp
  have e : HT.sIx xs.length 0 (some 1) = 1 := by
    have := HT.sIx_nat xs.length 0 1
    rw [Nat.min_eq_left hl] at this
    exact this
  refine ⟨?_, fun z => by rw [e] at z; omega⟩
  unfold cutV
  rw [e, HT.sIx_none, List.take_of_length_le (by rw [List.length_drop] <;> exact Nat.le_refl _)]
/-- a part and its word -/
def PartV (q : V × Bytes) : Prop := q.1 = .str (sT q.2) ∨ ∃ n : Nat, n ≤ 99 ∧ q.1 = .int (n : Int) ∧ q.2 = showNat n
/-- the values of an address behind its word -/
def aParts : Vaseda.Addr → List (V × Bytes)
  | .line n => [(.int (n : Int), showNat n)]
  | .has w => [(.str (sT w), w)]
  | .is_ w => [(.str (sT w), w)]
  | _ => []
def aWord : Vaseda.Addr → Bytes
  | .all => word "all"
  | .line _ => word "line"
  | .span _ _ => word "from"
  | .last => word "last"
  | .has _ => word "has"
  | .is_ _ => word "is"
  | .not _ => word "not"
theorem AtA.head {K : PySem.W.Frag} {H : Hp} {a : Vaseda.Addr} {v : V} (h : AtA K H a v) : ∃ p r, v = .ref p ∧ SqT K H p (.str (sT (aWord a)) :: r) := by
  cases a with
  | all => obtain ⟨p, e, h⟩ := h; exact ⟨p, _, e, h⟩
  | line n => obtain ⟨p, e, h⟩ := h; exact ⟨p, _, e, h⟩
  | span a b => obtain ⟨p, e, h⟩ := h; exact ⟨p, _, e, h⟩
  | last => obtain ⟨p, e, h⟩ := h; exact ⟨p, _, e, h⟩
  | has w => obtain ⟨p, e, h⟩ := h; exact ⟨p, _, e, h⟩
  | is_ w => obtain ⟨p, e, h⟩ := h; exact ⟨p, _, e, h⟩
  | not a => obtain ⟨p, v', e, h, _⟩ := h; exact ⟨p, _, e, h⟩
theorem AtA.parts {K : PySem.W.Frag} {H : Hp} {a : Vaseda.Addr} {v : V} (h : AtA K H a v) (h1 : aWord a ≠ word "not") (h2 : aWord a ≠ word "from") : ∃ p, v = .ref p ∧ SqT K H p (.str (sT (aWord a)) :: (aParts a).map Prod.fst) := by
  cases a with
  | all => obtain ⟨p, e, h⟩ := h; exact ⟨p, e, h⟩
  | line n => obtain ⟨p, e, h⟩ := h; exact ⟨p, e, h⟩
  | span a b => exact absurd rfl h2
  | last => obtain ⟨p, e, h⟩ := h; exact ⟨p, e, h⟩
  | has w => obtain ⟨p, e, h⟩ := h; exact ⟨p, e, h⟩
  | is_ w => obtain ⟨p, e, h⟩ := h; exact ⟨p, e, h⟩
  | not a => exact absurd rfl h1
theorem parts_ok {n : Nat} {a : Vaseda.Addr} (h : aOk n a) : ∀ q ∈ aParts a, PartV q := by
  intro q hq
  cases a with
  | all => simp [aParts] at hq
  | line k => simp [aParts] at hq; subst hq; exact .inr ⟨k, by cases n <;> exact h, rfl, rfl⟩
  | span a b => simp [aParts] at hq
  | last => simp [aParts] at hq
  | has w => simp [aParts] at hq; subst hq; exact .inl rfl
  | is_ w => simp [aParts] at hq; subst hq; exact .inl rfl
  | not a => simp [aParts] at hq
theorem addrWs_parts {a : Vaseda.Addr} (h1 : aWord a ≠ word "not") (h2 : aWord a ≠ word "from") : addrWs a = aWord a :: (aParts a).map Prod.snd := by
  cases a with
  | span a b => exact absurd rfl h2
  | not a => exact absurd rfl h1
  | _ => rfl
theorem aWord_not {a : Vaseda.Addr} (h : (aWord a == word "not") = true) : ∃ b, a = .not b := by
  cases a with
  | all => exact absurd (show (word "all" == word "not") = true from h) (by decide +kernel)
  | line k => exact absurd (show (word "line" == word "not") = true from h) (by decide +kernel)
  | span a b => exact absurd (show (word "from" == word "not") = true from h) (by decide +kernel)
  | last => exact absurd (show (word "last" == word "not") = true from h) (by decide +kernel)
  | has x => exact absurd (show (word "has" == word "not") = true from h) (by decide +kernel)
  | is_ x => exact absurd (show (word "is" == word "not") = true from h) (by decide +kernel)
  | not b => exact ⟨b, rfl⟩
theorem aWord_from {a : Vaseda.Addr} (h : (aWord a == word "from") = true) : ∃ b c, a = .span b c := by
  cases a with
  | all => exact absurd (show (word "all" == word "from") = true from h) (by decide +kernel)
  | line k => exact absurd (show (word "line" == word "from") = true from h) (by decide +kernel)
  | span a b => exact ⟨a, b, rfl⟩
  | last => exact absurd (show (word "last" == word "from") = true from h) (by decide +kernel)
  | has x => exact absurd (show (word "has" == word "from") = true from h) (by decide +kernel)
  | is_ x => exact absurd (show (word "is" == word "from") = true from h) (by decide +kernel)
  | not b => exact absurd (show (word "not" == word "from") = true from h) (by decide +kernel)
abbrev sAddrWords : Stmt := top 39
abbrev sDeedWords : Stmt := top 40
theorem scAddrWords : FnScope ["address", "found", "part"] ["address"] (defScope sAddrWords) := ⟨rfl, rfl, rfl, by decide +kernel, rfl, by decide +kernel, by decide +kernel⟩
theorem scDeedWords : FnScope ["deed", "part"] ["deed"] (defScope sDeedWords) := ⟨rfl, rfl, rfl, by decide +kernel, rfl, by decide +kernel, by decide +kernel⟩
def spAddrWords (K : PySem.W.Frag) : Sp := fun vs H Q _ => ∃ ad v, vs = [v] ∧ AtA K H ad v ∧ aOk 3 ad ∧ ∀ p H', H p = none → Same H H' → H' p = some (.lst (strsOf (addrWs ad))) → Q (.ref p) H'
def AwS (K : PySem.W.Frag) (pf : PySem.Addr) (ad : Vaseda.Addr) (H : Hp) (n : Nat) (σ : L2.St) (H' : Hp) : Prop := ∃ pre ad' v', σ = [some v', some (.ref pf), none] ∧ AtA K H' ad' v' ∧ aOk n ad' ∧ n ≤ 3 ∧ Same H H' ∧ H' pf = some (.lst (strsOf pre)) ∧ pre.length + n ≤ 3 ∧ addrWs ad = pre ++ addrWs ad'
theorem none_of {H H' : Hp} (s : Same H H') {p : PySem.Addr} (h : H' p = none) : H p = none := by
  cases e : H p with
  | none => rfl
  | some o => rw [s _ _ e] at h; cases h
theorem strs_one (w : Bytes) : strsOf [w] = [.str (sT w)] := rfl
theorem strs_get {ws : List Bytes} {i : Nat} {v : V} (h : (strsOf ws)[i]? = some v) : ∃ w, ws[i]? = some w ∧ v = .str (sT w) := by
  unfold strsOf at h
  rw [List.getElem?_map] at h
  cases e : ws[i]? with
  | none => rw [e] at h; cases h
  | some w => rw [e] at h; exact ⟨w, rfl, (Option.some.inj h).symm⟩
theorem strs_len (ws : List Bytes) : (strsOf ws).length = ws.length := by simp [strsOf]
theorem strs_snoc (ws : List Bytes) (w : Bytes) : strsOf ws ++ [.str (sT w)] = strsOf (ws ++ [w]) := by simp [strsOf]
theorem from_word : (Str.ofString "from") = sT (word "from") := by decide +kernel
theorem map_get {α β : Type} {f : α → β} {l : List α} {i : Nat} {y : β} (h : (l.map f)[i]? = some y) : ∃ x, l[i]? = some x ∧ y = f x := by
  rw [List.getElem?_map] at h
  cases e : l[i]? with
  | none => rw [e] at h; cases h
  | some x => rw [e] at h; exact ⟨x, rfl, (Option.some.inj h).symm⟩
section
variable {P : Program} {w : World} {K : PySem.W.Frag} {mg : Str → Option Value} {base : Heap}
theorem ok_address_words (F : GF K mg "address_words" sAddrWords) (ms : mg "str" = none) : GD P w K mg base CX0 1 "address_words" ["address"] (spAddrWords K) := by
  obtain ⟨f, fd, F, hm⟩ := F
  refine ⟨f, fd, F.ok scAddrWords (fun vs H Q E h => ?_) (fun cdv A outer s H vs Q E hr h => ⟨_,
      pss_cons (ps_set (i := 1) scAddrWords.nd rfl (Or.inl rfl) (pe_lst pa_nil))
      (pss_cons (ps_while PassesOwn.never (pt_cmpR op_eq (pe_ix ix_tup (pv 0) L2.pe_int (fun _ _ => rfl)) pe_str (nomark _))
        (pss_cons (ps_expr (pe_bm PySem.F.plainAttrs_list PySem.F.slot_list_append PySem.F.type_list_append mt_append (pv 1) (pa_cons pe_str pa_nil)))
        (pss_one (ps_set (i := 0) scAddrWords.nd rfl (Or.inl rfl) (pe_ix ix_tup (pv 0) L2.pe_int (fun _ _ => rfl))))))
      (pss_cons (ps_if (pt_cmpR op_eq (pe_ix ix_tup (pv 0) L2.pe_int (fun _ _ => rfl)) pe_str (nomark _))
        (pss_one (ps_ret (pe_op op_cat (pv 1) (pe_lst (pa_cons pe_str (pa_cons (pe_callTy cr_str (by rfl) ms (by decide +kernel) (pa_cons (pe_ix ix_tup (pv 0) L2.pe_int (fun _ _ => rfl)) pa_nil)) (pa_cons pe_str (pa_cons (pe_callTy cr_str (by rfl) ms (by decide +kernel) (pa_cons (pe_ix ix_tup (pv 0) L2.pe_int (fun _ _ => rfl)) pa_nil)) pa_nil)))))))) pss_nil)
      (pss_one (ps_ret (pe_op op_cat (pe_op op_cat (pv 1) (pe_lst (pa_cons (pe_ix ix_tup (pv 0) L2.pe_int (fun _ _ => rfl)) pa_nil)))
        (pe_lc (own := [("part", 2)]) (g := gName 2) (tt := tYes) (by rfl) scAddrWords.nd (pi_tup (pe_slice sl_tup (pv 0) (po_some L2.pe_int) po_none)) (blkOk_by (N := ["address", "found", "part"]) (sc := defScope sAddrWords) (by decide +kernel))
          (fun _ _ _ _ _ => pg_name (i := 2) scAddrWords.nd rfl (Or.inl rfl)) (fun _ _ _ _ _ => pts_nil) (fun _ _ _ _ _ => pe_callTy cr_str (by rfl) ms (by decide +kernel) (pa_cons (pv 2) pa_nil)))))))), ?_⟩), hm, F.kp, F.binds fun _ _ _ _ _ _ us hl => match us, hl with | [_], _ => rfl⟩
  · obtain ⟨ad, v, rfl, _⟩ := h
    rfl
  · obtain ⟨ad, v, rfl, hA, hok, q⟩ := h
    refine ⟨by show 0 ≤ sizeLine; decide, fun pf hpf => ?_⟩
    refine ⟨loopW (AwS K pf ad H) Nat.succ, ⟨_, 3, ⟨[], ad, v, rfl, hA.keep (KeepT.updn hpf), hok, Nat.le_refl 3, Same.upd hpf, upd_same, Nat.le_refl 3, rfl⟩, rfl⟩, ?_⟩
    rintro m σ H1 ⟨n, ⟨pre, ad', v', rfl, hA1, hok1, hn3, s1, hl, hpre, ew⟩, rfl⟩
    obtain ⟨p, r, rfl, sq⟩ := hA1.head
    refine ⟨_, rfl, p, _, 0, _, rfl, rfl, sq, atI_nat (j := 0) rfl, rfl, _, rfl, ?_⟩
    rw [not_word, str_dec]
    cases hn : (aWord ad' == word "not") with
    | true =>
      obtain ⟨a2, rfl⟩ := aWord_not hn
      · obtain ⟨p', v2, e, sq2, hA2⟩ := hA1
        cases e
        obtain ⟨k, rfl⟩ : ∃ k, n = k + 1 := by
          cases n with
          | zero => exact absurd hok1 (fun z => z)
          | succ k => exact ⟨k, rfl⟩
        refine iteT ⟨nextW (AwS K pf ad H) Nat.succ (k + 1), nextW_ok _ _ _, ?_⟩
        refine ⟨_, rfl, .inl ⟨rfl, _, SqL.of hl⟩, pf, _, _, rfl, rfl, hl, by rw [sizeLine_eq, strs_len]; omega, ?_⟩
        refine ⟨_, rfl, p, _, 1, _, rfl, rfl, (KeepT.updl hl).sq sq2, atI_nat (j := 1) rfl, k, ⟨pre ++ [word "not"], a2, v2, rfl, hA2.keep (KeepT.updl hl), hok1, by omega, Same.updD s1 hpf, ?_, by rw [List.length_append]; show pre.length + 1 + k ≤ 3; omega, ?_⟩, Nat.lt_succ_self _⟩
        · rw [upd_same, ← strs_snoc]
        · rw [ew, List.append_assoc] <;> rfl
    | false =>
      have nn : aWord ad' ≠ word "not" := ne_of_beq_false hn
      refine iteF ⟨_, rfl, p, _, 0, _, rfl, rfl, sq, atI_nat (j := 0) rfl, rfl, _, rfl, ?_⟩
      rw [from_word, str_dec]
      cases hf : (aWord ad' == word "from") with
      | true =>
        obtain ⟨a, b, rfl⟩ := aWord_from hf
        · obtain ⟨p', e, sq2⟩ := hA1
          cases e
          have hok2 : a ≤ 99 ∧ b ≤ 99 := by cases n <;> exact hok1
          refine iteT ⟨_, rfl, _, rfl, p, _, 1, _, rfl, rfl, sq2, atI_nat (j := 1) rfl, .inl ⟨_, rfl, num_small _ hok2.1, ?_⟩⟩
          rw [num_text _ hok2.1]
          refine ⟨_, rfl, p, _, 2, _, rfl, rfl, sq2, atI_nat (j := 2) rfl, .inl ⟨_, rfl, num_small _ hok2.2, ?_⟩⟩
          rw [num_text _ hok2.2]
          refine ⟨by show 4 ≤ sizeLine; decide, fun p2 hp2 => ?_⟩
          have s2 := Same.upd (o := .lst [.str (sT (word "from")), .str (sT (showNat a)), .str "to", .str (sT (showNat b))]) hp2
          refine ⟨pf, p2, _, _, rfl, rfl, s2 _ _ hl, upd_same, by rw [sizeLine_eq, strs_len]; show pre.length + 4 ≤ _; omega, fun p3 hp3 => ?_⟩
          have hp3H : H p3 = none := none_of (s1.trans s2) hp3
          refine q p3 _ hp3H ((s1.trans s2).trans (Same.upd hp3)) ?_
          rw [upd_same, ew, strs_app]
          have et : sT (word "to") = Str.ofString "to" := by decide +kernel
          rw [← et]
          rfl
      | false =>
        have nf : aWord ad' ≠ word "from" := ne_of_beq_false hf
        obtain ⟨p', e, sq2⟩ := hA1.parts nn nf
        cases e
        obtain ⟨c1, c2⟩ := cut1 (xs := .str (sT (aWord ad')) :: (aParts ad').map Prod.fst) (by simp)
        refine iteF ⟨_, rfl, _, rfl, p, _, 0, _, rfl, rfl, sq2, atI_nat (j := 0) rfl, by show 1 ≤ sizeLine; decide, fun p2 hp2 => ?_⟩
        have s2 := Same.upd (o := .lst [.str (sT (aWord ad'))]) hp2
        refine ⟨pf, p2, _, _, rfl, rfl, s2 _ _ hl, upd_same, by rw [sizeLine_eq, strs_len]; show pre.length + 1 ≤ _; omega, fun p3 hp3 => ?_⟩
        rw [← strs_one, ← strs_app] at *
        have s3 := s2.trans (Same.upd (o := .lst (strsOf (pre ++ [aWord ad']))) hp3)
        refine ⟨_, rfl, _, rfl, p, _, rfl, (Same.keepT s3).sq sq2, c2, fun p4 hp4 => ?_⟩
        rw [c1]
        have s4 := s3.trans (Same.upd (o := .tup ((aParts ad').map Prod.fst)) hp4)
        have hW := parts_ok hok1
        have hpl : (aParts ad').length ≤ 1 := by cases ad' <;> simp [aParts]
        refine ⟨p4, rfl, ⟨_, SqT.of upd_same⟩, fun D hD => lc_tup (K := K) (a := p4) (xs := (aParts ad').map Prod.fst) (fun i H' => Same (upd (upd (upd H1 p2 (.lst [.str (sT (aWord ad'))])) p3 (.lst (strsOf (pre ++ [aWord ad'])))) p4 (.tup ((aParts ad').map Prod.fst))) H' ∧ H' D = some (.lst (strsOf (((aParts ad').map Prod.snd).take i)))) ⟨Same.upd hD, upd_same⟩
          (fun i H' _ ⟨ss, _⟩ => (Same.keepT ss).sq (SqT.of upd_same)) (fun i x H' hx ⟨ss, hDl⟩ => ?_) fun H' ⟨ss, hDl⟩ => ?_⟩
        · obtain ⟨y, hy, rfl⟩ := map_get hx
          have hy2 : ((aParts ad').map Prod.snd)[i]? = some y.2 := by rw [List.getElem?_map, hy] <;> rfl
          refine ⟨rfl, yesT ⟨_, rfl, ?_⟩⟩
          have fin : ∃ acc, H' D = some (.lst acc) ∧ acc.length < sizeLine ∧ Same (upd (upd (upd H1 p2 (.lst [.str (sT (aWord ad'))])) p3 (.lst (strsOf (pre ++ [aWord ad'])))) p4 (.tup ((aParts ad').map Prod.fst))) (upd H' D (.lst (acc ++ [.str (sT y.2)]))) ∧ (upd H' D (.lst (acc ++ [.str (sT y.2)]))) D = some (.lst (strsOf (((aParts ad').map Prod.snd).take (i + 1)))) := by
            refine ⟨_, hDl, ?_, Same.updD ss hD, ?_⟩
            · rw [strs_len, List.length_take, List.length_map, sizeLine_eq]
              omega
            · rw [upd_same, take_snoc hy2, strs_app, strs_one]
          rcases hW y (List.mem_of_getElem? hy) with e | ⟨k, hk, e, e2⟩
          · rw [e]
            exact .inr ⟨_, rfl, fin⟩
          · rw [e]
            rw [e2] at fin
            refine .inl ⟨_, rfl, num_small k hk, ?_⟩
            rw [num_text k hk]
            exact fin
        · have sE := s4.trans ss
          have hl3 : H' p3 = some (.lst (strsOf (pre ++ [aWord ad']))) := ss _ _ (by rw [upd_ne (ne_of_none upd_same hp4)]; exact upd_same)
          refine ⟨p3, D, _, _, rfl, rfl, hl3, hDl, by rw [strs_len, strs_len, List.length_take, List.length_map, List.length_map, List.length_append, sizeLine_eq]; simp; omega, fun p5 hp5 => ?_⟩
          have hp5H : H p5 = none := none_of (s1.trans sE) hp5
          refine q p5 _ hp5H ((s1.trans sE).trans (Same.upd hp5)) ?_
          rw [upd_same, ew, addrWs_parts nn nf, ← strs_app]
          congr 3
          rw [List.length_map, ← List.length_map (f := Prod.snd), List.take_length, List.append_assoc] <;> rfl
end
end Lsd
/-! deed_words, command_told, script_told -/
namespace Lsd
open PySem PySem.Spec PyProof.Rows L2
open VasedBase hiding Tok
open Vaseda (Deed Cmd)
/-- a deed's part and its word: no letters are told as none -/
def PartD (q : V × Bytes) : Prop := (∃ b, q.1 = .str (sT b) ∧ q.2 = Vaseda.instead b) ∨ ∃ n : Nat, n ≤ 99 ∧ q.1 = .int (n : Int) ∧ q.2 = showNat n
def dParts : Deed → List (V × Bytes)
  | .before b => [(.str (sT b), b)]
  | .after b => [(.str (sT b), b)]
  | .change b => [(.str (sT b), b)]
  | .swap a b => [(.str (sT a), a), (.str (sT b), Vaseda.instead b)]
  | .first a b => [(.str (sT a), a), (.str (sT b), Vaseda.instead b)]
  | .skip k => [(.int (k : Int), showNat k)]
  | _ => []
theorem instead_ne {b : Bytes} (h : 1 ≤ b.length) : Vaseda.instead b = b := by
  cases b with
  | nil => simp at h
  | cons a r => rfl
theorem dParts_fst (d : Deed) : (dParts d).map Prod.fst = dArgs d := by cases d <;> rfl
theorem dParts_snd (d : Deed) : deedWs d = dWord d :: (dParts d).map Prod.snd := by cases d <;> rfl
theorem dParts_len (d : Deed) : (dParts d).length ≤ 2 := by cases d <;> simp [dParts]
theorem dParts_ok {d : Deed} (h : dOk d) : ∀ q ∈ dParts d, PartD q := by
  intro q hq
  cases d with
  | before b => simp [dParts] at hq; subst hq; exact .inl ⟨b, rfl, (instead_ne h.1).symm⟩
  | after b => simp [dParts] at hq; subst hq; exact .inl ⟨b, rfl, (instead_ne h.1).symm⟩
  | change b => simp [dParts] at hq; subst hq; exact .inl ⟨b, rfl, (instead_ne h.1).symm⟩
  | swap a b =>
    simp [dParts] at hq
    rcases hq with rfl | rfl
    · exact .inl ⟨a, rfl, (instead_ne h.1).symm⟩
    · exact .inl ⟨b, rfl, rfl⟩
  | first a b =>
    simp [dParts] at hq
    rcases hq with rfl | rfl
    · exact .inl ⟨a, rfl, (instead_ne h.1).symm⟩
    · exact .inl ⟨b, rfl, rfl⟩
  | skip k => simp [dParts] at hq; subst hq; exact .inr ⟨k, Nat.le_trans h (by decide), rfl, rfl⟩
  | delete => simp [dParts] at hq
  | keep => simp [dParts] at hq
  | bring => simp [dParts] at hq
  | trade => simp [dParts] at hq
  | halt_ => simp [dParts] at hq
def spDeedWords (K : PySem.W.Frag) : Sp := fun vs H Q _ => ∃ d v, vs = [v] ∧ DeedAt K H d v ∧ dOk d ∧ ∀ p H', H p = none → Same H H' → H' p = some (.lst (strsOf (deedWs d))) → Q (.ref p) H'
theorem empty_dec (b : Bytes) : decide (V.str (sT b) = V.str (Str.ofString "")) = b.isEmpty := by
  rw [empty_word, str_dec]
  cases b <;> rfl
abbrev sCmdTold : Stmt := top 41
abbrev sScriptTold : Stmt := top 42
theorem scCmdTold : FnScope ["command", "address", "deed", "words"] ["command"] (defScope sCmdTold) := ⟨rfl, rfl, rfl, by decide +kernel, rfl, by decide +kernel, by decide +kernel⟩
theorem scScriptTold : FnScope ["commands", "command"] ["commands"] (defScope sScriptTold) := ⟨rfl, rfl, rfl, by decide +kernel, rfl, by decide +kernel, by decide +kernel⟩
section
variable {P : Program} {w : World} {K : PySem.W.Frag} {mg : Str → Option Value} {base : Heap}
theorem ok_deed_words (F : GF K mg "deed_words" sDeedWords) (ms : mg "str" = none) : GD P w K mg base CX0 1 "deed_words" ["deed"] (spDeedWords K) := by
  obtain ⟨f, fd, F, hm⟩ := F
  refine ⟨f, fd, F.ok scDeedWords (fun vs H Q E h => ?_) (fun cdv A outer s H vs Q E hr h => ⟨_,
      pss_one (ps_ret (pe_op op_cat (pe_lst (pa_cons (pe_ix ix_tup (pv 0) L2.pe_int (fun _ _ => rfl)) pa_nil))
        (pe_lc (own := [("part", 1)]) (g := gName 1) (tt := tYes) (by rfl) scDeedWords.nd (pi_tup (pe_slice sl_tup (pv 0) (po_some L2.pe_int) po_none)) (blkOk_by (N := ["deed", "part"]) (sc := defScope sDeedWords) (by decide +kernel))
          (fun _ _ _ _ _ => pg_name (i := 1) scDeedWords.nd rfl (Or.inl rfl)) (fun _ _ _ _ _ => pts_nil) (fun _ _ _ _ _ => pe_ifExp (pt_cmpR op_ne (pv 1) pe_str (nomark _)) (pe_callTy cr_str (by rfl) ms (by decide +kernel) (pa_cons (pv 1) pa_nil)) pe_str)))), ?_⟩), hm, F.kp, F.binds fun _ _ _ _ _ _ us hl => match us, hl with | [_], _ => rfl⟩
  · obtain ⟨d, v, rfl, _⟩ := h
    rfl
  · obtain ⟨d, v, rfl, ⟨p, rfl, sq, _⟩, hok, q⟩ := h
    rw [← dParts_fst] at sq
    obtain ⟨c1, c2⟩ := cut1 (xs := .str (sT (dWord d)) :: (dParts d).map Prod.fst) (by simp)
    refine ⟨_, rfl, p, _, 0, _, rfl, rfl, sq, atI_nat (j := 0) rfl, by show 1 ≤ sizeLine; decide, fun p2 hp2 => ?_⟩
    have s2 := Same.upd (o := .lst [.str (sT (dWord d))]) hp2
    refine ⟨_, rfl, _, rfl, p, _, rfl, (Same.keepT s2).sq sq, c2, fun p4 hp4 => ?_⟩
    rw [c1]
    have s4 := s2.trans (Same.upd (o := .tup ((dParts d).map Prod.fst)) hp4)
    have hW := dParts_ok hok
    have hpl := dParts_len d
    refine ⟨p4, rfl, ⟨_, SqT.of upd_same⟩, fun D hD => lc_tup (K := K) (a := p4) (xs := (dParts d).map Prod.fst) (fun i H' => Same (upd (upd H p2 (.lst [.str (sT (dWord d))])) p4 (.tup ((dParts d).map Prod.fst))) H' ∧ H' D = some (.lst (strsOf (((dParts d).map Prod.snd).take i)))) ⟨Same.upd hD, upd_same⟩
      (fun i H' _ ⟨ss, _⟩ => (Same.keepT ss).sq (SqT.of upd_same)) (fun i x H' hx ⟨ss, hDl⟩ => ?_) fun H' ⟨ss, hDl⟩ => ?_⟩
    · obtain ⟨y, hy, rfl⟩ := map_get hx
      have hy2 : ((dParts d).map Prod.snd)[i]? = some y.2 := by rw [List.getElem?_map, hy] <;> rfl
      refine ⟨rfl, yesT ?_⟩
      have fin : ∃ acc, H' D = some (.lst acc) ∧ acc.length < sizeLine ∧ Same (upd (upd H p2 (.lst [.str (sT (dWord d))])) p4 (.tup ((dParts d).map Prod.fst))) (upd H' D (.lst (acc ++ [.str (sT y.2)]))) ∧ (upd H' D (.lst (acc ++ [.str (sT y.2)]))) D = some (.lst (strsOf (((dParts d).map Prod.snd).take (i + 1)))) := by
        refine ⟨_, hDl, ?_, Same.updD ss hD, ?_⟩
        · rw [strs_len, List.length_take, List.length_map, sizeLine_eq]
          omega
        · rw [upd_same, take_snoc hy2, strs_app, strs_one]
      rcases hW y (List.mem_of_getElem? hy) with ⟨b, e, e2⟩ | ⟨k, hk, e, e2⟩
      · rw [e]
        refine ⟨_, rfl, rfl, _, rfl, ?_⟩
        rw [empty_dec]
        cases b with
        | nil =>
          have ew : sT (Vaseda.instead []) = Str.ofString "none" := by decide +kernel
          rw [e2, ew] at fin
          exact iteF fin
        | cons c r =>
          rw [e2] at fin
          exact iteT ⟨_, rfl, .inr ⟨_, rfl, fin⟩⟩
      · rw [e]
        rw [e2] at fin
        refine ⟨_, rfl, rfl, _, rfl, if_tr (by rfl) ⟨_, rfl, .inl ⟨_, rfl, num_small k hk, ?_⟩⟩⟩
        rw [num_text k hk]
        exact fin
    · have sE := s4.trans ss
      have hl3 : H' p2 = some (.lst [.str (sT (dWord d))]) := ss _ _ (by rw [upd_ne (ne_of_none upd_same hp4)]; exact upd_same)
      refine ⟨p2, D, _, _, rfl, rfl, hl3, hDl, by rw [strs_len, List.length_take, List.length_map, List.length_map, sizeLine_eq]; simp; omega, fun p5 hp5 => ?_⟩
      have hp5H : H p5 = none := none_of sE hp5
      refine q p5 _ hp5H (sE.trans (Same.upd hp5)) ?_
      rw [upd_same, dParts_snd, ← strs_one, ← strs_app]
      congr 3
      rw [List.length_map, ← List.length_map (f := Prod.snd), List.take_length] <;> rfl
end
/-! ### an address compared -/
def addrD : Vaseda.Addr → PyData
  | .all => .tuple [.str "all"]
  | .line n => .tuple [.str "line", .int (n : Int)]
  | .span a b => .tuple [.str "from", .int (a : Int), .int (b : Int)]
  | .last => .tuple [.str "last"]
  | .has x => .tuple [.str "has", .str (sT x)]
  | .is_ x => .tuple [.str "is", .str (sT x)]
  | .not a => .tuple [.str "not", addrD a]
theorem AtA.dp {K : PySem.W.Frag} {H : Hp} : ∀ {a : Vaseda.Addr} {v : V}, AtA K H a v → Dp K H v (addrD a)
  | .all, _, ⟨p, e, h⟩ => by subst e; exact .tup h (.cons (.str _) .nil)
  | .line n, _, ⟨p, e, h⟩ => by subst e; exact .tup h (.cons (.str _) (.cons (.int _) .nil))
  | .span a b, _, ⟨p, e, h⟩ => by subst e; exact .tup h (.cons (.str _) (.cons (.int _) (.cons (.int _) .nil)))
  | .last, _, ⟨p, e, h⟩ => by subst e; exact .tup h (.cons (.str _) .nil)
  | .has x, _, ⟨p, e, h⟩ => by subst e; exact .tup h (.cons (.str _) (.cons (.str _) .nil))
  | .is_ x, _, ⟨p, e, h⟩ => by subst e; exact .tup h (.cons (.str _) (.cons (.str _) .nil))
  | .not a, _, ⟨p, v', e, h, h2⟩ => by subst e; exact .tup h (.cons (.str _) (.cons (AtA.dp h2) .nil))
theorem strOk_sT (b : Bytes) : PyData.strOk (sT b) = true := by
  unfold PyData.strOk
  rw [Array.all_eq_true']
  intro x hx
  have h : x ∈ (sT b).cps.toList := by simpa using hx
  rw [sT_cps, List.mem_map] at h
  obtain ⟨c, _, rfl⟩ := h
  have := c.toNat_lt
  simp
  omega
theorem addrD_can : ∀ a : Vaseda.Addr, PyData.canLay0 (addrD a) = true
  | .all => by decide +kernel
  | .line n => by
    show (PyData.strOk _ && (true && true)) = true
    decide +kernel
  | .span a b => by
    show (PyData.strOk _ && (true && (true && true))) = true
    decide +kernel
  | .last => by decide +kernel
  | .has x => by
    show (PyData.strOk _ && (PyData.strOk (sT x) && true)) = true
    rw [strOk_sT]
    decide +kernel
  | .is_ x => by
    show (PyData.strOk _ && (PyData.strOk (sT x) && true)) = true
    rw [strOk_sT]
    decide +kernel
  | .not a => by
    show (PyData.strOk _ && (PyData.canLay0 (addrD a) && true)) = true
    rw [addrD_can a]
    decide +kernel
theorem addrD_depth : ∀ (n : Nat) (a : Vaseda.Addr), aOk n a → (addrD a).depth ≤ n + 1
  | n, .all, _ => by show max 0 0 + 1 ≤ n + 1; omega
  | n, .line k, _ => by show max 0 (max 0 0) + 1 ≤ n + 1; omega
  | n, .span a b, _ => by show max 0 (max 0 (max 0 0)) + 1 ≤ n + 1; omega
  | n, .last, _ => by show max 0 0 + 1 ≤ n + 1; omega
  | n, .has x, _ => by show max 0 (max 0 0) + 1 ≤ n + 1; omega
  | n, .is_ x, _ => by show max 0 (max 0 0) + 1 ≤ n + 1; omega
  | n + 1, .not a, h => by
    have ih := addrD_depth n a h
    show max 0 (max (addrD a).depth 0) + 1 ≤ n + 1 + 1
    omega
  | 0, .not a, h => absurd h (fun z => z)
theorem addrD_shaped {a : Vaseda.Addr} (h : aOk 3 a) : SeqAt.shaped (addrD a) = true := by
  unfold SeqAt.shaped
  rw [addrD_can, Bool.true_and, decide_eq_true_eq]
  have := addrD_depth 3 a h
  omega
theorem addrD_eqv (a : Vaseda.Addr) : PyData.eqv (addrD a) (.tuple [.str "all"]) = decide (a = .all) := by
  cases a with
  | all => rfl
  | line n => rfl
  | span a b => rfl
  | last => rfl
  | has x => rfl
  | is_ x => rfl
  | not a => rfl
/-! ### sizes -/
theorem sum_le {α : Type} (f : α → Nat) (k : Nat) : ∀ l : List α, (∀ x ∈ l, f x ≤ k) → (l.map f).sum ≤ k * l.length
  | [], _ => Nat.zero_le _
  | a :: r, h => by
    have ih := sum_le f k r fun x m => h x (List.mem_cons_of_mem _ m)
    have h0 := h a (List.mem_cons_self ..)
    rw [List.map_cons, List.sum_cons, List.length_cons, Nat.mul_succ]
    omega
theorem addrWs_ok : ∀ (n : Nat) (a : Vaseda.Addr), aOk n a → (addrWs a).length ≤ n + 4 ∧ ∀ w ∈ addrWs a, w.length ≤ 8
  | n, .all, _ => ⟨by show 1 ≤ n + 4; omega, fun w m => by simp [addrWs] at m; subst m; decide⟩
  | n, .line k, h => by
    have hk : k ≤ 99 := by cases n <;> exact h
    refine ⟨by show 2 ≤ n + 4; omega, fun w m => ?_⟩
    simp [addrWs] at m
    rcases m with rfl | rfl
    · decide
    · exact Nat.le_trans (num_len k hk) (by decide)
  | n, .span a b, h => by
    have hk : a ≤ 99 ∧ b ≤ 99 := by cases n <;> exact h
    refine ⟨by show 4 ≤ n + 4; omega, fun w m => ?_⟩
    simp [addrWs] at m
    rcases m with rfl | rfl | rfl | rfl
    · decide
    · exact Nat.le_trans (num_len a hk.1) (by decide)
    · decide
    · exact Nat.le_trans (num_len b hk.2) (by decide)
  | n, .last, _ => ⟨by show 1 ≤ n + 4; omega, fun w m => by simp [addrWs] at m; subst m; decide⟩
  | n, .has x, h => by
    have hx : 1 ≤ x.length ∧ x.length ≤ 8 := by cases n <;> exact h
    refine ⟨by show 2 ≤ n + 4; omega, fun w m => ?_⟩
    simp [addrWs] at m
    rcases m with rfl | rfl
    · decide
    · exact hx.2
  | n, .is_ x, h => by
    have hx : 1 ≤ x.length ∧ x.length ≤ 8 := by cases n <;> exact h
    refine ⟨by show 2 ≤ n + 4; omega, fun w m => ?_⟩
    simp [addrWs] at m
    rcases m with rfl | rfl
    · decide
    · exact hx.2
  | n + 1, .not a, h => by
    obtain ⟨h1, h2⟩ := addrWs_ok n a h
    refine ⟨by show (addrWs a).length + 1 ≤ n + 1 + 4; omega, fun w m => ?_⟩
    simp [addrWs] at m
    rcases m with rfl | m
    · decide
    · exact h2 w m
  | 0, .not a, h => absurd h (fun z => z)
theorem instead_len {b : Bytes} (h : b.length ≤ 8) : (Vaseda.instead b).length ≤ 8 := by
  cases b with
  | nil => decide
  | cons a r => exact h
theorem deedWs_ok {d : Deed} (h : dOk d) : (deedWs d).length ≤ 3 ∧ ∀ w ∈ deedWs d, w.length ≤ 8 := by
  cases d with
  | before b => exact ⟨by show 2 ≤ 3; decide, fun w m => by simp [deedWs] at m; rcases m with rfl | rfl; decide; exact h.2⟩
  | after b => exact ⟨by show 2 ≤ 3; decide, fun w m => by simp [deedWs] at m; rcases m with rfl | rfl; decide; exact h.2⟩
  | change b => exact ⟨by show 2 ≤ 3; decide, fun w m => by simp [deedWs] at m; rcases m with rfl | rfl; decide; exact h.2⟩
  | swap a b => exact ⟨by show 3 ≤ 3; decide, fun w m => by simp [deedWs] at m; rcases m with rfl | rfl | rfl; decide; exact h.2.1; exact instead_len h.2.2⟩
  | first a b => exact ⟨by show 3 ≤ 3; decide, fun w m => by simp [deedWs] at m; rcases m with rfl | rfl | rfl; decide; exact h.2.1; exact instead_len h.2.2⟩
  | skip k => exact ⟨by show 2 ≤ 3; decide, fun w m => by simp [deedWs] at m; rcases m with rfl | rfl; decide; exact Nat.le_trans (num_len k (Nat.le_trans h (by decide))) (by decide)⟩
  | delete => exact ⟨by decide, fun w m => by simp [deedWs, dWord] at m; subst m; decide⟩
  | keep => exact ⟨by decide, fun w m => by simp [deedWs, dWord] at m; subst m; decide⟩
  | bring => exact ⟨by decide, fun w m => by simp [deedWs, dWord] at m; subst m; decide⟩
  | trade => exact ⟨by decide, fun w m => by simp [deedWs, dWord] at m; subst m; decide⟩
  | halt_ => exact ⟨by decide, fun w m => by simp [deedWs, dWord] at m; subst m; decide⟩
def ifWs (a : Vaseda.Addr) : List Bytes := if a = .all then [] else word "if" :: addrWs a
theorem ifWs_ok {a : Vaseda.Addr} (h : aOk 3 a) : (ifWs a).length ≤ 8 ∧ ∀ w ∈ ifWs a, w.length ≤ 8 := by
  unfold ifWs
  split
  · exact ⟨by decide, fun w m => absurd m (by simp)⟩
  · obtain ⟨h1, h2⟩ := addrWs_ok 3 a h
    refine ⟨by show (addrWs a).length + 1 ≤ 8; omega, fun w m => ?_⟩
    rcases List.mem_cons.mp m with rfl | m
    · decide
    · exact h2 w m
theorem cmdWs_ok {c : Cmd} (h : cmdOk c) : (cmdWs c).length ≤ 12 ∧ ∀ w ∈ cmdWs c, w.length ≤ 8 := by
  obtain ⟨a1, a2⟩ := ifWs_ok h.1
  obtain ⟨d1, d2⟩ := deedWs_ok h.2
  show ((ifWs c.a ++ deedWs c.d) ++ [word ";"]).length ≤ 12 ∧ ∀ w ∈ ((ifWs c.a ++ deedWs c.d) ++ [word ";"]), w.length ≤ 8
  refine ⟨by rw [List.length_append, List.length_append]; show _ + _ + 1 ≤ 12; omega, fun w m => ?_⟩
  rcases List.mem_append.mp m with m | m
  · rcases List.mem_append.mp m with m | m
    · exact a2 w m
    · exact d2 w m
  · have : w = word ";" := by simpa using m
    subst this
    decide
theorem glue_len : ∀ l : List Bytes, (glue l).length ≤ (l.map List.length).sum + l.length
  | [] => Nat.zero_le _
  | [a] => by show a.length ≤ a.length + 0 + 1; omega
  | a :: b :: r => by
    have ih := glue_len (b :: r)
    rw [glue_cons, List.length_append, List.length_cons, List.map_cons, List.sum_cons, List.length_cons]
    omega
theorem showCmd_len {c : Cmd} (h : cmdOk c) : (Vaseda.showCmd c).length ≤ 120 := by
  obtain ⟨h1, h2⟩ := cmdWs_ok h
  rw [show_cmd, List.length_append]
  have h3 := glue_len (cmdWs c)
  have h4 := sum_le List.length 8 (cmdWs c) h2
  have h5 : 8 * (cmdWs c).length ≤ 8 * 12 := Nat.mul_le_mul_left _ h1
  show _ + 1 ≤ 120
  omega
theorem lens_sT (l : List Bytes) : ((l.map sT).map fun x => x.length) = l.map List.length := by
  rw [List.map_map]
  apply List.map_congr_left
  intro x _
  exact sT_len x
def spCmdTold (K : PySem.W.Frag) : Sp := fun vs H Q _ => ∃ c v, vs = [v] ∧ CmdAt K H c v ∧ cmdOk c ∧ ∀ H', Same H H' → Q (.str (sT (Vaseda.showCmd c))) H'
def spShown (K : PySem.W.Frag) : Sp := fun vs H Q _ => ∃ a ys cs, vs = [.ref a] ∧ SqL K H a ys ∧ CmdsV K H ys cs ∧ (∀ c ∈ cs, cmdOk c) ∧ cs.length ≤ 16 ∧ ∀ H', Same H H' → Q (.str (sT (Vaseda.shown cs))) H'
section
variable {P : Program} {w : World} {K : PySem.W.Frag} {mg : Str → Option Value} {base : Heap}
theorem ok_command_told (F : GF K mg "command_told" sCmdTold) (D1 : GD P w K mg base CX0 1 "address_words" ["address"] (spAddrWords K)) (D2 : GD P w K mg base CX0 1 "deed_words" ["deed"] (spDeedWords K)) (cA : GT K mg "ALL" [.str "all"]) : GD P w K mg base CX0 2 "command_told" ["command"] (spCmdTold K) := by
  obtain ⟨f, fd, F, hm⟩ := F
  refine ⟨f, fd, F.ok scCmdTold (fun vs H Q E h => ?_) (fun cdv A outer s H vs Q E hr h => ⟨_,
      pss_cons (ps_asg (pv 0) (pg_tup (n := 2) rfl (pgs_cons (pg_name (i := 1) scCmdTold.nd rfl (Or.inl rfl)) (pgs_cons (pg_name (i := 2) scCmdTold.nd rfl (Or.inl rfl)) pgs_nil))))
      (C8.pss_cut (ps_set (i := 3) scCmdTold.nd rfl (Or.inl rfl) (pe_ifExp (pt_cmpR (op_eqD hr.units) (pv 1) (pe_gt cA) (nomark _)) (pe_lst pa_nil) (pe_op op_cat (pe_lst (pa_cons pe_str pa_nil)) (pe_g D1 hr pass0 (pa_cons (pv 1) pa_nil)))))
      (pss_one (ps_ret (pe_op op_add_str (pe_join pe_str (pe_op op_cat (pe_op op_cat (pv 3) (pe_g D2 hr pass0 (pa_cons (pv 2) pa_nil))) (pe_lst (pa_cons pe_str pa_nil)))) pe_str)))), ?_⟩), hm, F.kp, F.binds fun _ _ _ _ _ _ us hl => match us, hl with | [_], _ => rfl⟩
  · obtain ⟨c, v, rfl, _⟩ := h
    rfl
  · obtain ⟨c, v, rfl, ⟨p, av, dv, rfl, sq, hA, hD⟩, hok, q⟩ := h
    refine ⟨_, rfl, p, _, rfl, sq, rfl, _, _, rfl, _, _, rfl, rfl, ?_⟩
    refine ⟨fun σ' H' => ∃ W, σ' = [some (.ref p), some av, some dv, some (.ref W)] ∧ Same H H' ∧ H' W = some (.lst (strsOf (ifWs c.a))), ?_, ?_⟩
    · refine ⟨_, rfl, fun aA kA => ⟨addrD c.a, .tuple [.str "all"], hA.dp, .tup kA.sq (.cons (.str _) .nil), addrD_shaped hok.1, by decide +kernel, _, rfl, ?_⟩⟩
      rw [addrD_eqv]
      by_cases ca : c.a = .all
      · refine if_tr (decide_eq_true ca) ⟨by show 0 ≤ sizeLine; decide, fun W hW => ⟨W, rfl, Same.upd hW, ?_⟩⟩
        unfold ifWs
        rw [if_pos ca]
        exact upd_same
      · refine if_fl (decide_eq_false ca) ⟨by show 1 ≤ sizeLine; decide, fun p2 hp2 => ⟨_, rfl, c.a, av, rfl, hA.keep (KeepT.updn hp2), hok.1, fun p3 H3 hp3 s3 hl3 => ?_⟩⟩
        obtain ⟨l1, _⟩ := addrWs_ok 3 c.a hok.1
        refine ⟨p2, p3, _, _, rfl, rfl, s3 _ _ upd_same, hl3, by rw [strs_len, sizeLine_eq]; show 1 + _ ≤ _; omega, fun p4 hp4 => ⟨p4, rfl, ((Same.upd hp2).trans s3).trans (Same.upd hp4), ?_⟩⟩
        rw [upd_same]
        unfold ifWs
        rw [if_neg ca, if_word]
        rfl
    · rintro σ' H1 ⟨W, rfl, s1, hW⟩
      obtain ⟨l1, _⟩ := ifWs_ok hok.1
      obtain ⟨l2, _⟩ := deedWs_ok hok.2
      refine ⟨⟨_, rfl⟩, _, rfl, _, rfl, c.d, dv, rfl, hD.keep (Same.keepT s1), hok.2, fun p5 H5 hp5 s5 hl5 => ?_⟩
      refine ⟨W, p5, _, _, rfl, rfl, s5 _ _ hW, hl5, by rw [strs_len, strs_len, sizeLine_eq]; omega, fun p6 hp6 => ⟨by show 1 ≤ sizeLine; decide, fun p7 hp7 => ?_⟩⟩
      rw [← strs_app] at *
      have hl6 := upd_same (H := H5) (a := p6) (o := .lst (strsOf (ifWs c.a ++ deedWs c.d)))
      refine ⟨p6, p7, _, _, rfl, rfl, Same.upd hp7 _ _ hl6, upd_same, by rw [strs_len, List.length_append, sizeLine_eq]; show _ + 1 ≤ _; omega, fun p8 hp8 => ?_⟩
      have es : (Str.ofString ";") = sT (word ";") := by decide +kernel
      have ew : strsOf (ifWs c.a ++ deedWs c.d) ++ [V.str (Str.ofString ";")] = ((cmdWs c).map sT).map V.str := by
        rw [es, ← strs_one, ← strs_app, List.map_map] <;> rfl
      obtain ⟨k1, k2⟩ := cmdWs_ok hok
      have k4 := sum_le List.length 8 (cmdWs c) k2
      have k5 : 8 * (cmdWs c).length ≤ 8 * 12 := Nat.mul_le_mul_left _ k1
      have eb : (Str.ofString " ") = sT [32] := by decide +kernel
      have en : (Str.ofString "\n") = sT [10] := by decide +kernel
      refine ⟨_, p8, (cmdWs c).map sT, rfl, rfl, .inl (SqL.of (by rw [← ew]; exact upd_same)), ?_, ?_⟩
      · rw [lens_sT, List.length_map, eb, sT_len]
        show _ + _ * 1 ≤ _
        omega
      · rw [eb, join_blank, en]
        refine ⟨_, _, rfl, rfl, ?_, ?_⟩
        · have k6 := glue_len (cmdWs c)
          rw [sT_len, sT_len, sizeLine_eq]
          show _ + 1 ≤ _
          omega
        · rw [sT_app, ← show_cmd]
          exact q _ (((s1.trans s5).trans (Same.upd hp6)).trans ((Same.upd hp7).trans (Same.upd hp8)))
theorem ok_script_told (F : GF K mg "script_told" sScriptTold) (D1 : GD P w K mg base CX0 2 "command_told" ["command"] (spCmdTold K)) : GD P w K mg base CX0 3 "script_told" ["commands"] (spShown K) := by
  obtain ⟨f, fd, F, hm⟩ := F
  refine ⟨f, fd, F.ok scScriptTold (fun vs H Q E h => ?_) (fun cdv A outer s H vs Q E hr h => ⟨_,
      pss_one (ps_ret (pe_join pe_str (pe_lc (own := [("command", 1)]) (g := gName 1) (tt := tYes) (by rfl) scScriptTold.nd (pi_list (pv 0)) (blkOk_by (N := ["commands", "command"]) (sc := defScope sScriptTold) (by decide +kernel))
          (fun _ _ _ _ _ => pg_name (i := 1) scScriptTold.nd rfl (Or.inl rfl)) (fun _ _ _ _ _ => pts_nil) (fun _ _ _ _ _ => pe_g D1 hr pass0 (pa_cons (pv 1) pa_nil))))), ?_⟩), hm, F.kp, F.binds fun _ _ _ _ _ _ us hl => match us, hl with | [_], _ => rfl⟩
  · obtain ⟨a, ys, cs, rfl, _⟩ := h
    rfl
  · obtain ⟨a, ys, cs, rfl, hS, hC, hok, h16, q⟩ := h
    have hyl : ys.length = cs.length := hC.1
    refine ⟨⟨_, rfl⟩, _, rfl, a, rfl, ⟨_, hS⟩, fun D hD => lc_list (K := K) (a := a) (xs := ys) (fun i H' => Same H H' ∧ H' D = some (.lst (strsOf ((cs.map Vaseda.showCmd).take i)))) ⟨Same.upd hD, upd_same⟩
      (fun i H' _ ⟨ss, _⟩ => ss.seq hS) (fun i x H' hx ⟨ss, hDl⟩ => ?_) fun H' ⟨ss, hDl⟩ => ?_⟩
    · have hi := (List.getElem?_eq_some_iff.mp hx).1
      rw [hyl] at hi
      have hc : cs[i]? = some cs[i] := List.getElem?_eq_getElem hi
      obtain ⟨v, hv, hcv⟩ := hC.2 i _ hc
      rw [hx] at hv
      cases hv
      refine ⟨rfl, yesT ⟨_, rfl, cs[i], x, rfl, hcv.keep (Same.keepT ss), hok _ (List.getElem_mem hi), fun H2 s2 => ?_⟩⟩
      have hy2 : (cs.map Vaseda.showCmd)[i]? = some (Vaseda.showCmd cs[i]) := by rw [List.getElem?_map, hc] <;> rfl
      refine ⟨_, s2 _ _ hDl, ?_, Same.updD (ss.trans s2) hD, ?_⟩
      · rw [strs_len, List.length_take, List.length_map, sizeLine_eq]
        omega
      · rw [upd_same, take_snoc hy2, strs_app, strs_one]
    · rw [hyl, ← List.length_map (f := Vaseda.showCmd), List.take_length] at hDl
      have hb : ∀ x ∈ cs.map Vaseda.showCmd, x.length ≤ 120 := fun x m => by
        obtain ⟨c, hc, rfl⟩ := List.mem_map.mp m
        exact showCmd_len (hok c hc)
      have k4 := sum_le List.length 120 (cs.map Vaseda.showCmd) hb
      rw [List.length_map] at k4
      have k5 : 120 * cs.length ≤ 120 * 16 := Nat.mul_le_mul_left _ h16
      refine ⟨_, D, (cs.map Vaseda.showCmd).map sT, rfl, rfl, .inl (SqL.of (by rw [hDl, List.map_map] <;> rfl)), ?_, ?_⟩
      · rw [lens_sT, List.length_map, List.length_map, empty_word, sT_len]
        show _ + _ * 0 ≤ _
        omega
      · rw [empty_word, join_nil, ← show_script]
        exact q _ ss
end
end Lsd
/-! Texts of lines: the mathematics -/
namespace Lsd
open PySem PySem.Spec PyProof.Rows L2
open VasedBase hiding Tok
/-- bytes cut at 10: rows, and what stands behind the last 10 -/
def cutFrom : Bytes → Bytes → List Bytes × Bytes
  | [], x => ([], x)
  | b :: r, x => if b == 10 then (x :: (cutFrom r []).1, (cutFrom r []).2) else cutFrom r (x ++ [b])
def cutStep (s : List Bytes × Bytes) (b : UInt8) : List Bytes × Bytes := if b == 10 then (s.1 ++ [s.2], []) else (s.1, s.2 ++ [b])
theorem cut_fold : ∀ (l : Bytes) (rows : List Bytes) (x : Bytes), l.foldl cutStep (rows, x) = (rows ++ (cutFrom l x).1, (cutFrom l x).2)
  | [], rows, x => by
    show (rows, x) = (rows ++ [], x)
    rw [List.append_nil]
  | b :: r, rows, x => by
    rw [List.foldl_cons]
    cases e : (b == 10) with
    | true =>
      have e1 : cutStep (rows, x) b = (rows ++ [x], []) := by unfold cutStep; rw [e, if_pos rfl]
      have e2 : cutFrom (b :: r) x = (x :: (cutFrom r []).1, (cutFrom r []).2) := by
        show (if (b == 10) = true then _ else _) = _
        rw [e, if_pos rfl]
      rw [e1, e2, cut_fold r, List.append_assoc] <;> rfl
    | false =>
      have e1 : cutStep (rows, x) b = (rows, x ++ [b]) := by unfold cutStep; rw [e, if_neg (by decide)]
      have e2 : cutFrom (b :: r) x = cutFrom r (x ++ [b]) := by
        show (if (b == 10) = true then _ else _) = _
        rw [e, if_neg (by decide)]
      rw [e1, e2, cut_fold r]
def cutOk (s : List Bytes × Bytes) : Prop := s.2 = [] ∧ ∀ r ∈ s.1, r.all isLetter = true
theorem cut_bad : ∀ (l x : Bytes), x.all isLetter = false → ¬ cutOk (cutFrom l x)
  | [], x, h, ⟨e, _⟩ => by
    have e' : x = [] := e
    rw [e'] at h
    cases h
  | b :: r, x, h, ok => by
    unfold cutFrom at ok
    split at ok
    · have := ok.2 x (List.mem_cons_self ..)
      rw [h] at this
      cases this
    · exact cut_bad r (x ++ [b]) (by rw [List.all_append, h, Bool.false_and]) ok
theorem split_cut : ∀ (n : Nat) (l x : Bytes), l.length < n → x.all isLetter = true → (cutOk (cutFrom l x) → Vaseda.splitBy n l x = some (cutFrom l x).1) ∧ (¬ cutOk (cutFrom l x) → Vaseda.splitBy n l x = none)
  | 0, _, _, h, _ => absurd h (Nat.not_lt_zero _)
  | n + 1, [], x, _, hx => by
    have e1 : Vaseda.splitBy (n + 1) [] x = if x.isEmpty = true then some [] else none := rfl
    have e2 : cutFrom [] x = ([], x) := rfl
    rw [e1, e2]
    cases x with
    | nil => exact ⟨fun _ => rfl, fun h => absurd ⟨rfl, fun r m => absurd m (by simp)⟩ h⟩
    | cons a r => exact ⟨fun h => absurd h.1 (by simp), fun _ => rfl⟩
  | n + 1, b :: r, x, h, hx => by
    have h : r.length + 1 < n + 1 := h
    have e1 : Vaseda.splitBy (n + 1) (b :: r) x = if (b == 10) = true then (Vaseda.splitBy n r []).map (fun t => x :: t) else if isLetter b = true then Vaseda.splitBy n r (x ++ [b]) else none := rfl
    have e2 : cutFrom (b :: r) x = if (b == 10) = true then (x :: (cutFrom r []).1, (cutFrom r []).2) else cutFrom r (x ++ [b]) := rfl
    rw [e1, e2]
    cases e : (b == 10) with
    | true =>
      rw [if_pos rfl, if_pos rfl]
      obtain ⟨h1, h2⟩ := split_cut n r [] (by omega) rfl
      refine ⟨fun ok => ?_, fun no => ?_⟩
      · rw [h1 ⟨ok.1, fun q m => ok.2 q (List.mem_cons_of_mem _ m)⟩] <;> rfl
      · rw [h2 fun ok => no ⟨ok.1, fun q m => by
          rcases List.mem_cons.mp m with rfl | m
          · exact hx
          · exact ok.2 q m⟩] <;> rfl
    | false =>
      rw [if_neg (by decide), if_neg (by decide)]
      cases hl : isLetter b with
      | true =>
        rw [if_pos rfl]
        exact split_cut n r (x ++ [b]) (by omega) (by rw [List.all_append, hx]; simp [hl])
      | false =>
        rw [if_neg (by decide)]
        have bad := cut_bad r (x ++ [b]) (by rw [List.all_append, hx]; simp [hl])
        exact ⟨fun ok => absurd ok bad, fun _ => rfl⟩
/-- whether the rows are a text's -/
def rowsOk (s : List Bytes × Bytes) : Prop := s.2 = [] ∧ s.1.length ≤ 24 ∧ ∀ r ∈ s.1, r.length ≤ 16 ∧ r.all isLetter = true
theorem text_some {b : Bytes} (h : rowsOk (cutFrom b [])) : Vaseda.readText b = some (cutFrom b []).1 := by
  obtain ⟨h1, h2, h3⟩ := h
  have e : Vaseda.textOf b = some (cutFrom b []).1 := (split_cut _ b [] (Nat.lt_succ_self _) rfl).1 ⟨h1, fun r m => (h3 r m).2⟩
  unfold Vaseda.readText
  rw [e]
  show (if _ then _ else _) = _
  rw [if_neg]
  rintro (q | q)
  · have : Vaseda.LINES = 24 := rfl
    omega
  · rw [List.any_eq_true] at q
    obtain ⟨x, m, hx⟩ := q
    have := (h3 x m).1
    have e16 : Vaseda.LONG = 16 := rfl
    simp at hx
    omega
theorem text_none {b : Bytes} (h : ¬ rowsOk (cutFrom b [])) : Vaseda.readText b = none := by
  unfold Vaseda.readText
  obtain ⟨h1, h2⟩ := split_cut (b.length + 1) b [] (Nat.lt_succ_self _) rfl
  by_cases ok : cutOk (cutFrom b [])
  · have e : Vaseda.textOf b = some (cutFrom b []).1 := h1 ok
    rw [e]
    show (if _ then _ else _) = _
    rw [if_pos]
    by_cases hl : (cutFrom b []).1.length ≤ 24
    · right
      rw [List.any_eq_true]
      by_cases hx : ∃ x ∈ (cutFrom b []).1, 16 < x.length
      · obtain ⟨x, m, hx⟩ := hx
        exact ⟨x, m, decide_eq_true hx⟩
      · exact absurd ⟨ok.1, hl, fun r m => ⟨Nat.le_of_not_lt fun z => hx ⟨r, m, z⟩, ok.2 r m⟩⟩ h
    · left
      show 24 < _
      omega
  · have e : Vaseda.textOf b = none := h2 ok
    rw [e] <;> rfl
theorem text_ok {b : Bytes} {t : List Bytes} (h : Vaseda.readText b = some t) : t.length ≤ 24 ∧ ∀ x ∈ t, x.length ≤ 16 := by
  by_cases ok : rowsOk (cutFrom b [])
  · rw [text_some ok] at h
    cases h
    exact ⟨ok.2.1, fun x m => (ok.2.2 x m).1⟩
  · rw [text_none ok] at h
    cases h
theorem cut_len : ∀ (l x : Bytes), (cutFrom l x).1.length ≤ l.length ∧ (cutFrom l x).2.length ≤ l.length + x.length ∧ ∀ r ∈ (cutFrom l x).1, r.length ≤ l.length + x.length
  | [], x => ⟨Nat.le_refl _, by show x.length ≤ 0 + x.length; omega, fun r m => absurd m (by simp [cutFrom])⟩
  | b :: r, x => by
    unfold cutFrom
    split
    · obtain ⟨h1, h2, h3⟩ := cut_len r []
      have h2' : (cutFrom r []).2.length ≤ r.length + 0 := h2
      refine ⟨by show (cutFrom r []).1.length + 1 ≤ r.length + 1; omega, by show (cutFrom r []).2.length ≤ r.length + 1 + x.length; omega, fun q m => ?_⟩
      rcases List.mem_cons.mp m with rfl | m
      · show q.length ≤ r.length + 1 + q.length
        omega
      · have : q.length ≤ r.length + 0 := h3 q m
        show q.length ≤ r.length + 1 + x.length
        omega
    · obtain ⟨h1, h2, h3⟩ := cut_len r (x ++ [b])
      rw [List.length_append] at h2 h3
      refine ⟨by show _ ≤ r.length + 1; omega, by show _ ≤ r.length + 1 + x.length; simp at h2; omega, fun q m => ?_⟩
      have := h3 q m
      show q.length ≤ r.length + 1 + x.length
      simp at this
      omega
/-- ints as values -/
def intsV (l : List Int) : List V := l.map V.int
theorem ofB_ints (b : Bytes) : ofB b = intsV (b.map fun c => (c.toNat : Int)) := by simp [ofB, intsV]
end Lsd
/-! texts: cut, is_line, read_text, text_octets, told_text -/
namespace Lsd
open PySem PySem.Spec PyProof.Rows L2
open VasedBase hiding Tok
/-- or, and, where each part may lay new objects -/
theorem orG {ta tb : TT} {σ : L2.St} {H : Hp} {c d : Bool} {Q : Bool → Hp → Prop} (ha : ∀ R : Bool → Hp → Prop, (∀ H1, Same H H1 → R c H1) → ta σ H R) (hb : c = false → ∀ H1, Same H H1 → ∀ R : Bool → Hp → Prop, (∀ H2, Same H1 H2 → R d H2) → tb σ H1 R)
    (q : ∀ H1, Same H H1 → Q (c || d) H1) : tOr ta tb σ H Q := by
  refine ha _ fun H1 s1 => ?_
  cases c with
  | true => exact iteT (q H1 s1)
  | false => exact iteF (hb rfl H1 s1 _ fun H2 s2 => q H2 (s1.trans s2))
/-- the values are lists of the rows' bytes -/
def RowsL (H : Hp) (vs : List V) (rows : List Bytes) : Prop := vs.length = rows.length ∧ ∀ (i : Nat) (r : Bytes), rows[i]? = some r → ∃ p, vs[i]? = some (.ref p) ∧ H p = some (.lst (ofB r))
theorem RowsL.same {H H' : Hp} {vs : List V} {rows : List Bytes} (h : RowsL H vs rows) (s : Same H H') : RowsL H' vs rows := ⟨h.1, fun i r e => let ⟨p, a, b⟩ := h.2 i r e; ⟨p, a, s _ _ b⟩⟩
theorem RowsL.nil (H : Hp) : RowsL H [] [] := ⟨rfl, fun i r e => by simp at e⟩
theorem RowsL.snoc {H : Hp} {vs : List V} {rows : List Bytes} {p : PySem.Addr} {r : Bytes} (h : RowsL H vs rows) (hp : H p = some (.lst (ofB r))) : RowsL H (vs ++ [.ref p]) (rows ++ [r]) := by
  refine ⟨by rw [List.length_append, List.length_append, h.1] <;> rfl, fun i u q => ?_⟩
  rcases Nat.lt_or_ge i rows.length with hi | hi
  · rw [List.getElem?_append_left hi] at q
    obtain ⟨w, a, b⟩ := h.2 i u q
    exact ⟨w, by rw [List.getElem?_append_left (by rw [h.1]; exact hi)]; exact a, b⟩
  · rw [List.getElem?_append_right hi] at q
    have e : i = rows.length := by
      have := (List.getElem?_eq_some_iff.mp q).1
      simp at this
      omega
    subst e
    simp at q
    subst q
    exact ⟨p, by rw [← h.1]; simp, hp⟩
/-- a store beside the rows -/
theorem RowsL.upd {H : Hp} {vs : List V} {rows : List Bytes} {p : PySem.Addr} {o : HO} (h : RowsL H vs rows) (hp : V.ref p ∉ vs) : RowsL (L2.upd H p o) vs rows := by
  refine ⟨h.1, fun i r e => ?_⟩
  obtain ⟨q, a, b⟩ := h.2 i r e
  refine ⟨q, a, (upd_ne ?_).trans b⟩
  rintro rfl
  exact hp (List.mem_of_getElem? a)
abbrev sCut : Stmt := top 46
abbrev sIsLine : Stmt := top 47
abbrev sReadText : Stmt := top 48
abbrev sTextOctets : Stmt := top 49
abbrev sToldText : Stmt := top 50
theorem scCut : FnScope ["octets", "found", "here", "octet"] ["octets"] (defScope sCut) := ⟨rfl, rfl, rfl, by decide +kernel, rfl, by decide +kernel, by decide +kernel⟩
theorem scIsLine : FnScope ["octets", "octet"] ["octets"] (defScope sIsLine) := ⟨rfl, rfl, rfl, by decide +kernel, rfl, by decide +kernel, by decide +kernel⟩
theorem scReadText : FnScope ["octets", "rows", "rest", "row"] ["octets"] (defScope sReadText) := ⟨rfl, rfl, rfl, by decide +kernel, rfl, by decide +kernel, by decide +kernel⟩
theorem scTextOctets : FnScope ["lines", "found", "line"] ["lines"] (defScope sTextOctets) := ⟨rfl, rfl, rfl, by decide +kernel, rfl, by decide +kernel, by decide +kernel⟩
theorem scToldText : FnScope ["lines", "octets"] ["lines"] (defScope sToldText) := ⟨rfl, rfl, rfl, by decide +kernel, rfl, by decide +kernel, by decide +kernel⟩
def spCut (K : PySem.W.Frag) : Sp := fun vs H Q _ => ∃ a b, vs = [.ref a] ∧ SqL K H a (ofB b) ∧ b.length ≤ 10000 ∧ ∀ q pf ph vs' H', Same H H' → H' q = some (.tup [.ref pf, .ref ph]) → H' pf = some (.lst vs') → RowsL H' vs' (cutFrom b []).1 → H' ph = some (.lst (ofB (cutFrom b []).2)) → Q (.ref q) H'
def spIsLine (K : PySem.W.Frag) : Sp := fun vs H Q _ => ∃ a b, vs = [.ref a] ∧ SqL K H a (ofB b) ∧ b.length ≤ 10000 ∧ ∀ H', Same H H' → Q (.bl (decide (b.length ≤ 16) && b.all isLetter)) H'
def spReadText (K : PySem.W.Frag) : Sp := fun vs H Q _ => ∃ a b, vs = [.ref a] ∧ SqL K H a (ofB b) ∧ b.length ≤ 10000 ∧ (Vaseda.readText b = none → ∀ H', Same H H' → Q .non H') ∧
  ∀ t, Vaseda.readText b = some t → ∀ p H', Same H H' → H p = none → H' p = some (.lst (strsOf t)) → Q (.ref p) H'
def spTextOctets (K : PySem.W.Frag) : Sp := fun vs H Q _ => ∃ a t, vs = [.ref a] ∧ SqL K H a (strsOf t) ∧ t.length ≤ 1000 ∧ (∀ x ∈ t, x.length ≤ 1000) ∧ ∀ p H', Same H H' → H p = none → H' p = some (.lst (ofB (Vaseda.showText t))) → Q (.ref p) H'
def spToldText (K : PySem.W.Frag) : Sp := fun vs H Q _ => ∃ a t, vs = [.ref a] ∧ SqL K H a (strsOf t) ∧ t.length ≤ 1000 ∧ (∀ x ∈ t, x.length ≤ 1000) ∧ ∀ p H', Same H H' → H p = none → H' p = some (.lst (intsV ((t.length : Int) :: textRow (Vaseda.showText t)))) → Q (.ref p) H'
def CutS (a : PySem.Addr) (b : Bytes) (H : Hp) (i : Nat) (σ : L2.St) (H' : Hp) : Prop := ∃ pf ph vs v, σ = [some (.ref a), some (.ref pf), some (.ref ph), v] ∧ Same H H' ∧ pf ≠ ph ∧ H pf = none ∧ H ph = none ∧ H' pf = some (.lst vs) ∧
  H' ph = some (.lst (ofB ((b.take i).foldl cutStep ([], [])).2)) ∧ RowsL H' vs ((b.take i).foldl cutStep ([], [])).1 ∧ V.ref pf ∉ vs ∧ V.ref ph ∉ vs
theorem cut_sizes (b : Bytes) (i : Nat) (h : b.length ≤ 10000) : ((b.take i).foldl cutStep ([], [])).1.length ≤ 10000 ∧ ((b.take i).foldl cutStep ([], [])).2.length ≤ 10000 := by
  rw [cut_fold]
  obtain ⟨h1, h2, _⟩ := cut_len (b.take i) []
  have h3 : (b.take i).length ≤ b.length := by rw [List.length_take]; exact Nat.min_le_right _ _
  refine ⟨by show ([] ++ (cutFrom (b.take i) []).1).length ≤ _; rw [List.nil_append]; omega, ?_⟩
  have h4 : (cutFrom (b.take i) []).2.length ≤ (b.take i).length + 0 := h2
  show (cutFrom (b.take i) []).2.length ≤ _
  omega
theorem showText_len (k : Nat) : ∀ t : List Bytes, (∀ x ∈ t, x.length ≤ k) → (Vaseda.showText t).length ≤ (k + 1) * t.length
  | [], _ => Nat.zero_le _
  | x :: r, h => by
    have ih := showText_len k r fun y m => h y (List.mem_cons_of_mem _ m)
    have h0 := h x (List.mem_cons_self ..)
    show ((x ++ [10]) ++ Vaseda.showText r).length ≤ _
    have e : (k + 1) * (x :: r).length = (k + 1) * r.length + (k + 1) := Nat.mul_succ _ _
    rw [List.length_append, List.length_append, e]
    show x.length + 1 + _ ≤ _
    omega
theorem showText_snoc (t : List Bytes) (x : Bytes) : Vaseda.showText (t ++ [x]) = Vaseda.showText t ++ (x ++ [10]) := by
  unfold Vaseda.showText
  rw [List.flatMap_append]
  simp
theorem ofB_app (a b : Bytes) : ofB (a ++ b) = ofB a ++ ofB b := by simp [ofB]
theorem ofB_one (c : UInt8) : ofB [c] = [.int (c.toNat : Int)] := rfl
section
variable {P : Program} {w : World} {K : PySem.W.Frag} {mg : Str → Option Value} {base : Heap}
theorem ok_cut (F : GF K mg "cut" sCut) (cE : GC mg "LINE_END" (.int 10)) : GD P w K mg base CX0 1 "cut" ["octets"] (spCut K) := by
  obtain ⟨f, fd, F, hm⟩ := F
  refine ⟨f, fd, F.ok scCut (fun vs H Q E h => ?_) (fun cdv A outer s H vs Q E hr h => ⟨_, pss_cons (ps_set (i := 1) scCut.nd rfl (Or.inl rfl) (pe_lst pa_nil)) (pss_cons (ps_set (i := 2) scCut.nd rfl (Or.inl rfl) (pe_lst pa_nil))
      (pss_cons (ps_for PassesOwn.never rfl (pi_list (pv 0)) (pg_name (i := 3) scCut.nd rfl (Or.inl rfl))
        (pss_one (ps_if (pt_cmpR op_eq (pv 3) (pe_gc cE) (nomark _))
          (pss_cons (ps_expr (pe_bm PySem.F.plainAttrs_list PySem.F.slot_list_append PySem.F.type_list_append mt_append (pv 1) (pa_cons (pv 2) pa_nil))) (pss_one (ps_set (i := 2) scCut.nd rfl (Or.inl rfl) (pe_lst pa_nil))))
          (pss_one (ps_expr (pe_bm PySem.F.plainAttrs_list PySem.F.slot_list_append PySem.F.type_list_append mt_append (pv 2) (pa_cons (pv 3) pa_nil)))))))
      (pss_one (ps_ret (pe_tup (pa_cons (pv 1) (pa_cons (pv 2) pa_nil))))))), ?_⟩), hm, F.kp, F.binds fun _ _ _ _ _ _ us hl => match us, hl with | [_], _ => rfl⟩
  · obtain ⟨a, b, rfl, _⟩ := h
    rfl
  · obtain ⟨a, b, rfl, hS, hz, q⟩ := h
    refine ⟨by show 0 ≤ sizeLine; decide, fun pf hpf => ⟨by show 0 ≤ sizeLine; decide, fun ph hph => ?_⟩⟩
    have hne : pf ≠ ph := ne_of_none upd_same hph
    refine ⟨_, rfl, a, rfl, ⟨_, ((Same.upd hpf).trans (Same.upd hph)).seq hS⟩, for_list (K := K) (a := a) (xs := ofB b) (CutS a b H) ⟨pf, ph, [], none, rfl, (Same.upd hpf).trans (Same.upd hph), hne, hpf, none_of (Same.upd hpf) hph, (upd_ne hne).trans upd_same, upd_same, RowsL.nil _, by simp, by simp⟩
      (fun i σ H' _ ⟨_, _, _, _, _, s1, _⟩ => s1.seq hS) ?_ ?_⟩
    · rintro i y σ H' hi ⟨pf, ph, vs, v, rfl, s1, hne, nf, nh, hf, hh, hr, m1, m2⟩
      have hil : i < b.length := by
        have := (List.getElem?_eq_some_iff.mp hi).1
        rwa [ofB_len] at this
      have hg : b[i]? = some b[i] := List.getElem?_eq_getElem hil
      rw [ofB_get hg] at hi
      cases hi
      obtain ⟨z1, z2⟩ := cut_sizes b i hz
      have et : (b.take (i + 1)).foldl cutStep ([], []) = cutStep ((b.take i).foldl cutStep ([], [])) b[i] := by rw [take_snoc hg, List.foldl_append] <;> rfl
      have hvl := hr.1
      unfold CutS
      rw [et]
      generalize (b.take i).foldl cutStep ([], []) = st at *
      refine ⟨_, rfl, rfl, _, rfl, ?_⟩
      rw [show decide (V.int (b[i].toNat : Int) = V.int 10) = (b[i] == 10) from int_dec b[i] 10 (by decide)]
      cases e : (b[i] == 10) with
      | true =>
        have es : cutStep st b[i] = (st.1 ++ [st.2], []) := by unfold cutStep; rw [e, if_pos rfl]
        rw [es]
        refine iteT ⟨_, rfl, .inl ⟨rfl, _, SqL.of hf⟩, _, rfl, pf, vs, _, rfl, rfl, hf, by rw [sizeLine_eq]; omega, by show 0 ≤ sizeLine; decide, fun p2 hp2 => ?_⟩
        have nfp : p2 ≠ pf := fun z => by rw [z, upd_same] at hp2; cases hp2
        have hp2' : H' p2 = none := (upd_ne nfp).symm.trans hp2
        have nh2 : p2 ≠ ph := fun z => by rw [z, hh] at hp2'; cases hp2'
        have hr2 : RowsL (upd H' pf (.lst (vs ++ [.ref ph]))) (vs ++ [.ref ph]) (st.1 ++ [st.2]) := (hr.upd m1).snoc ((upd_ne (Ne.symm hne)).trans hh)
        have hnew : ∀ p, V.ref p ∈ vs ++ [.ref ph] → H' p ≠ none := fun p m z => by
          rcases List.mem_append.mp m with m | m
          · obtain ⟨j, hj⟩ := List.getElem?_of_mem m
            have hjl := (List.getElem?_eq_some_iff.mp hj).1
            rw [hvl] at hjl
            obtain ⟨p', g1, g2⟩ := hr.2 j _ (List.getElem?_eq_getElem hjl)
            rw [hj] at g1
            cases g1
            rw [g2] at z
            cases z
          · have : p = ph := by simpa using m
            rw [this, hh] at z
            cases z
        refine ⟨pf, p2, vs ++ [.ref ph], _, rfl, (Same.updD s1 nf).trans (Same.upd hp2), Ne.symm nfp, nf, none_of s1 hp2', (upd_ne (Ne.symm nfp)).trans upd_same, upd_same, hr2.same (Same.upd hp2), fun m => ?_, fun m => hnew _ m hp2'⟩
        rcases List.mem_append.mp m with m | m
        · exact m1 m
        · have : pf = ph := by simpa using m
          exact hne this
      | false =>
        have es : cutStep st b[i] = (st.1, st.2 ++ [b[i]]) := by unfold cutStep; rw [e, if_neg (by decide)]
        rw [es]
        refine iteF ⟨_, rfl, .inl ⟨rfl, _, SqL.of hh⟩, _, rfl, ph, _, _, rfl, rfl, hh, by rw [ofB_len, sizeLine_eq]; omega, ?_⟩
        refine ⟨pf, ph, vs, _, rfl, Same.updD s1 nh, hne, nf, nh, (upd_ne hne).trans hf, ?_, hr.upd m2, m1, m2⟩
        rw [upd_same, ofB_app, ofB_one]
    · rintro σ H' ⟨pf, ph, vs, v, rfl, s1, hne, nf, nh, hf, hh, hr, m1, m2⟩
      rw [ofB_len, List.take_length, cut_fold] at hh hr
      refine ⟨_, rfl, _, rfl, by show 2 ≤ sizeLine; decide, fun p hp => ?_⟩
      exact q p pf ph vs _ (s1.trans (Same.upd hp)) upd_same (Same.upd hp _ _ hf) (hr.same (Same.upd hp)) (Same.upd hp _ _ hh)
theorem ok_is_line (F : GF K mg "is_line" sIsLine) (ml : mg "len" = none) (ma : mg "all" = none) (cL : GC mg "LONGEST_LINE" (.int 16)) (D : GD P w K mg base CX0 1 "is_small" ["octet"] (spByte isLetter)) : GD P w K mg base CX0 2 "is_line" ["octets"] (spIsLine K) := by
  obtain ⟨f, fd, F, hm⟩ := F
  refine ⟨f, fd, F.ok scIsLine (fun vs H Q E h => ?_) (fun cdv A outer s H vs Q E hr h => ⟨_, pss_one (ps_ret (pe_and (pe_cmpR op_le (pe_callB call_len_seq (by rfl) ml boot_len (pa_cons (pv 0) pa_nil)) (pe_gc cL) (nomark _))
      (pe_one (pe_callB (cr_all (by rfl)) (by rfl) ma (by decide +kernel) (pa_cons (pe_lc (own := [("octet", 1)]) (g := gName 1) (tt := tYes) (by rfl) scIsLine.nd (pi_list (pv 0)) (blkOk_by (N := ["octets", "octet"]) (sc := defScope sIsLine) (by decide +kernel))
          (fun _ _ _ _ _ => pg_name (i := 1) scIsLine.nd rfl (Or.inl rfl)) (fun _ _ _ _ _ => pts_nil) (fun _ _ _ _ _ => pe_g D hr pass0 (pa_cons (pv 1) pa_nil))) pa_nil))))), ?_⟩), hm, F.kp, F.binds fun _ _ _ _ _ _ us hl => match us, hl with | [_], _ => rfl⟩
  · obtain ⟨a, b, rfl, _⟩ := h
    rfl
  · obtain ⟨a, b, rfl, hS, hz, q⟩ := h
    refine ⟨_, rfl, a, _, rfl, Or.inl hS, _, _, rfl, rfl, _, rfl, ?_⟩
    rw [ofB_len]
    have ed : decide ((b.length : Int) ≤ 16) = decide (b.length ≤ 16) := by
      rw [Bool.eq_iff_iff, decide_eq_true_eq, decide_eq_true_eq]
      omega
    rw [ed]
    cases c : decide (b.length ≤ 16) with
    | false =>
      rw [c] at q
      exact iteF (q H (Same.refl H))
    | true =>
      rw [c] at q
      refine iteT ⟨_, rfl, a, rfl, ⟨_, hS⟩, fun D2 hD2 => lc_list (K := K) (a := a) (xs := ofB b) (fun i H' => Same H H' ∧ H' D2 = some (.lst (((b.take i).map isLetter).map V.bl))) ⟨Same.upd hD2, upd_same⟩
        (fun i H' _ ⟨ss, _⟩ => ss.seq hS) (fun i x H' hx ⟨ss, hDl⟩ => ?_) fun H' ⟨ss, hDl⟩ => ?_⟩
      · have hil : i < b.length := by
          have := (List.getElem?_eq_some_iff.mp hx).1
          rwa [ofB_len] at this
        have hg : b[i]? = some b[i] := List.getElem?_eq_getElem hil
        rw [ofB_get hg] at hx
        cases hx
        refine ⟨rfl, yesT ⟨_, rfl, b[i], rfl, _, hDl, ?_, Same.updD ss hD2, ?_⟩⟩
        · rw [List.length_map, List.length_map, List.length_take, sizeLine_eq]
          omega
        · rw [upd_same, take_snoc hg, List.map_append, List.map_append] <;> rfl
      · rw [ofB_len, List.take_length] at hDl
        refine ⟨D2, b.map isLetter, rfl, SqL.of hDl, ?_⟩
        have e2 : (b.map isLetter).all id = b.all isLetter := by rw [List.all_map] <;> rfl
        rw [e2]
        exact q _ ss
end
end Lsd
/-! texts: read_text, text_octets, told_text -/
namespace Lsd
open PySem PySem.Spec PyProof.Rows L2
open VasedBase hiding Tok
theorem dp_ints {K : PySem.W.Frag} {H : Hp} : ∀ b : Bytes, DpAll K H (ofB b) (b.map fun c => PyData.int (c.toNat : Int))
  | [] => .nil
  | c :: r => .cons (.int _) (dp_ints r)
theorem ints_can : ∀ b : Bytes, PyData.canLayAll0 (b.map fun c => PyData.int (c.toNat : Int)) = true
  | [] => rfl
  | c :: r => by
    show (true && PyData.canLayAll0 (r.map fun c => PyData.int (c.toNat : Int))) = true
    rw [ints_can r] <;> rfl
theorem ints_depth : ∀ b : Bytes, PyData.depthAll (b.map fun c => PyData.int (c.toNat : Int)) = 0
  | [] => rfl
  | c :: r => by
    show max 0 (PyData.depthAll (r.map fun c => PyData.int (c.toNat : Int))) = 0
    rw [ints_depth r] <;> rfl
theorem ints_shaped (b : Bytes) : SeqAt.shaped (.list (b.map fun c => PyData.int (c.toNat : Int))) = true := by
  unfold SeqAt.shaped
  rw [Bool.and_eq_true, decide_eq_true_eq]
  refine ⟨ints_can b, ?_⟩
  show PyData.depthAll _ + 1 ≤ 64
  rw [ints_depth]
  decide
theorem ints_eqv (b : Bytes) : PyData.eqv (.list (b.map fun c => PyData.int (c.toNat : Int))) (.list []) = b.isEmpty := by cases b <;> rfl
def rowB (r : Bytes) : Bool := decide (r.length ≤ 16) && r.all isLetter
section
variable {P : Program} {w : World} {K : PySem.W.Frag} {mg : Str → Option Value} {base : Heap}
theorem ok_read_text (F : GF K mg "read_text" sReadText) (ml : mg "len" = none) (ma : mg "all" = none) (cL : GC mg "MOST_LINES" (.int 24)) (D1 : GD P w K mg base CX0 1 "cut" ["octets"] (spCut K)) (D2 : GD P w K mg base CX0 2 "is_line" ["octets"] (spIsLine K)) (D3 : GN P w K mg base CX0 1 "letters_of" ["octets"] (spLetters K)) :
    GD P w K mg base CX0 3 "read_text" ["octets"] (spReadText K) := by
  obtain ⟨f, fd, F, hm⟩ := F
  refine ⟨f, fd, F.ok scReadText (fun vs H Q E h => ?_) (fun cdv A outer s H vs Q E hr h => ⟨_, pss_cons (ps_asg (pe_g D1 (hr.mono (by decide)) pass0 (pa_cons (pv 0) pa_nil)) (pg_tup (n := 2) rfl (pgs_cons (pg_name (i := 1) scReadText.nd rfl (Or.inl rfl)) (pgs_cons (pg_name (i := 2) scReadText.nd rfl (Or.inl rfl)) pgs_nil))))
      (pss_cons (ps_if (PW.pt (pw_or (pt_cmpR (op_neD hr.units) (pv 2) (pe_lst pa_nil) (nomark _)) (pw_or (pt_cmpR op_gt (pe_callB call_len_seq (by rfl) ml boot_len (pa_cons (pv 1) pa_nil)) (pe_gc cL) (nomark _))
          (pw_or1 (pt_not (pt_val (pe_callB (cr_all (by rfl)) (by rfl) ma (by decide +kernel) (pa_cons (pe_lc (own := [("row", 3)]) (g := gName 3) (tt := tYes) (by rfl) scReadText.nd (pi_list (pv 1)) (blkOk_by (N := ["octets", "rows", "rest", "row"]) (sc := defScope sReadText) (by decide +kernel))
            (fun _ _ _ _ _ => pg_name (i := 3) scReadText.nd rfl (Or.inl rfl)) (fun _ _ _ _ _ => pts_nil) (fun _ _ _ _ _ => pe_g D2 hr pass0 (pa_cons (pv 3) pa_nil))) pa_nil))))))))
          (pss_one (ps_ret pe_non)) pss_nil)
      (pss_one (ps_ret (pe_lc (own := [("row", 3)]) (g := gName 3) (tt := tYes) (by rfl) scReadText.nd (pi_list (pv 1)) (blkOk_by (N := ["octets", "rows", "rest", "row"]) (sc := defScope sReadText) (by decide +kernel))
            (fun _ _ _ _ _ => pg_name (i := 3) scReadText.nd rfl (Or.inl rfl)) (fun _ _ _ _ _ => pts_nil) (fun _ _ _ _ _ => pe_g D3.gd (hr.mono (by decide)) pass0 (pa_cons (pv 3) pa_nil)))))), ?_⟩), hm, F.kp, F.binds fun _ _ _ _ _ _ us hl => match us, hl with | [_], _ => rfl⟩
  · obtain ⟨a, b, rfl, _⟩ := h
    rfl
  · obtain ⟨a, b, rfl, hS, hz, q0, q1⟩ := h
    obtain ⟨z1, z2, z3⟩ := cut_len b []
    have z2' : (cutFrom b []).2.length ≤ b.length + 0 := z2
    have z3' : ∀ r ∈ (cutFrom b []).1, r.length ≤ b.length := z3
    refine ⟨_, rfl, a, b, rfl, hS, hz, fun qp pf ph vs H1 s1 hq hf hr hh => ?_⟩
    have hvl := hr.1
    refine ⟨qp, _, rfl, SqT.of hq, rfl, _, _, rfl, _, _, rfl, rfl, ?_⟩
    dsimp only [gName, tSeq, tIfS]
    show tOr _ _ _ _ _
    refine orG (c := !(cutFrom b []).2.isEmpty) (d := decide (24 < (cutFrom b []).1.length) || !(cutFrom b []).1.all rowB) (fun R r => ?_) (fun _ H2 s2 R r => ?_) fun H2 s2 => ?_
    · refine ⟨_, rfl, by show 0 ≤ sizeLine; decide, fun p2 hp2 => ⟨.list ((cutFrom b []).2.map fun c => PyData.int (c.toNat : Int)), .list [], .lst (SqL.of (Same.upd hp2 _ _ hh)) (dp_ints _), .lst (SqL.of upd_same) .nil, ints_shaped _, by decide +kernel, _, rfl, ?_⟩⟩
      rw [ints_eqv]
      exact r _ (Same.upd hp2)
    · show tOr _ _ _ _ _
      refine orG (c := decide (24 < (cutFrom b []).1.length)) (d := !(cutFrom b []).1.all rowB) (fun R r => ?_) (fun _ H3 s3 R r => ?_) r
      · refine ⟨_, rfl, pf, _, rfl, Or.inl (SqL.of (s2 _ _ hf)), _, _, rfl, rfl, _, rfl, ?_⟩
        have ed : decide ((24 : Int) < ((vs.length : Nat) : Int)) = decide (24 < (cutFrom b []).1.length) := by
          rw [hvl, Bool.eq_iff_iff, decide_eq_true_eq, decide_eq_true_eq]
          omega
        rw [ed]
        exact r _ (Same.refl _)
      · have hf3 := s3 _ _ (s2 _ _ hf)
        refine ⟨_, rfl, pf, rfl, ⟨_, SqL.of hf3⟩, fun D hD => lc_list (K := K) (a := pf) (xs := vs) (fun i H' => Same H3 H' ∧ H' D = some (.lst ((((cutFrom b []).1.take i).map rowB).map V.bl))) ⟨Same.upd hD, upd_same⟩
          (fun i H' _ ⟨ss, _⟩ => SqL.of (ss _ _ hf3)) (fun i x H' hx ⟨ss, hDl⟩ => ?_) fun H' ⟨ss, hDl⟩ => ?_⟩
        · have hil := (List.getElem?_eq_some_iff.mp hx).1
          rw [hvl] at hil
          have hg : (cutFrom b []).1[i]? = some (cutFrom b []).1[i] := List.getElem?_eq_getElem hil
          obtain ⟨pr, g1, g2⟩ := hr.2 i _ hg
          rw [hx] at g1
          cases g1
          refine ⟨rfl, yesT ⟨_, rfl, pr, _, rfl, SqL.of (ss _ _ (s3 _ _ (s2 _ _ g2))), Nat.le_trans (z3' _ (List.getElem_mem hil)) hz, fun H4 s4 => ⟨_, s4 _ _ hDl, ?_, Same.updD (ss.trans s4) hD, ?_⟩⟩⟩
          · rw [List.length_map, List.length_map, List.length_take, sizeLine_eq]
            omega
          · rw [upd_same, take_snoc hg, List.map_append, List.map_append] <;> rfl
        · rw [hvl, List.take_length] at hDl
          refine ⟨D, (cutFrom b []).1.map rowB, rfl, SqL.of hDl, _, rfl, ?_⟩
          have e2 : ((cutFrom b []).1.map rowB).all id = (cutFrom b []).1.all rowB := by rw [List.all_map] <;> rfl
          rw [e2]
          exact r _ ss
    · have en : (!(cutFrom b []).2.isEmpty || (decide (24 < (cutFrom b []).1.length) || !(cutFrom b []).1.all rowB)) = false ↔ rowsOk (cutFrom b []) := by
        unfold rowsOk
        rw [Bool.or_eq_false_iff, Bool.or_eq_false_iff, Bool.not_eq_false', Bool.not_eq_false', List.isEmpty_iff, decide_eq_false_iff_not, List.all_eq_true, Nat.not_lt]
        refine and_congr Iff.rfl (and_congr Iff.rfl (forall_congr' fun r => forall_congr' fun _ => ?_))
        unfold rowB
        rw [Bool.and_eq_true, decide_eq_true_eq]
      cases hc : (!(cutFrom b []).2.isEmpty || (decide (24 < (cutFrom b []).1.length) || !(cutFrom b []).1.all rowB)) with
      | true =>
        have hn : ¬ rowsOk (cutFrom b []) := fun z => by
          rw [en.mpr z] at hc
          cases hc
        exact iteT (q0 (text_none hn) _ (s1.trans s2))
      | false =>
        have hok := en.mp hc
        have et := text_some hok
        have hf2 := s2 _ _ hf
        refine iteF ⟨_, rfl, pf, rfl, ⟨_, SqL.of hf2⟩, fun D hD => lc_list (K := K) (a := pf) (xs := vs) (fun i H' => Same H2 H' ∧ H' D = some (.lst (strsOf ((cutFrom b []).1.take i)))) ⟨Same.upd hD, upd_same⟩
          (fun i H' _ ⟨ss, _⟩ => SqL.of (ss _ _ hf2)) (fun i x H' hx ⟨ss, hDl⟩ => ?_) fun H' ⟨ss, hDl⟩ => ?_⟩
        · have hil := (List.getElem?_eq_some_iff.mp hx).1
          rw [hvl] at hil
          have hg : (cutFrom b []).1[i]? = some (cutFrom b []).1[i] := List.getElem?_eq_getElem hil
          obtain ⟨pr, g1, g2⟩ := hr.2 i _ hg
          rw [hx] at g1
          cases g1
          have hrow := hok.2.2 _ (List.getElem_mem hil)
          refine ⟨rfl, yesT ⟨_, rfl, pr, _, rfl, SqL.of (ss _ _ (s2 _ _ g2)), List.all_eq_true.mp hrow.2, Nat.le_trans hrow.1 (by decide), fun t _ => ⟨_, hDl, ?_, Same.updD ss hD, ?_⟩⟩⟩
          · rw [strs_len, List.length_take, sizeLine_eq]
            omega
          · rw [upd_same, take_snoc hg, strs_app, strs_one]
        · rw [hvl, List.take_length] at hDl
          exact q1 _ et D _ ((s1.trans s2).trans ss) (none_of (s1.trans s2) hD) hDl
theorem ok_text_octets (F : GF K mg "text_octets" sTextOctets) (cE : GC mg "LINE_END" (.int 10)) (D1 : GD P w K mg base CX0 1 "octets_of" ["text"] spOctets) : GD P w K mg base CX0 2 "text_octets" ["lines"] (spTextOctets K) := by
  obtain ⟨f, fd, F, hm⟩ := F
  refine ⟨f, fd, F.ok scTextOctets (fun vs H Q E h => ?_) (fun cdv A outer s H vs Q E hr h => ⟨_, pss_cons (ps_set (i := 1) scTextOctets.nd rfl (Or.inl rfl) (pe_lst pa_nil))
      (pss_cons (ps_for PassesOwn.never rfl (pi_list (pv 0)) (pg_name (i := 2) scTextOctets.nd rfl (Or.inl rfl))
        (pss_one (ps_expr (pe_bm PySem.F.plainAttrs_list PySem.F.slot_list_extend PySem.F.type_list_extend mt_extend (pv 1) (pa_cons (pe_op op_cat (pe_g D1 hr pass0 (pa_cons (pv 2) pa_nil)) (pe_lst (pa_cons (pe_gc cE) pa_nil))) pa_nil)))))
      (pss_one (ps_ret (pv 1)))), ?_⟩), hm, F.kp, F.binds fun _ _ _ _ _ _ us hl => match us, hl with | [_], _ => rfl⟩
  · obtain ⟨a, t, rfl, _⟩ := h
    rfl
  · obtain ⟨a, t, rfl, hS, hz, hx, q⟩ := h
    refine ⟨by show 0 ≤ sizeLine; decide, fun pf hpf => ?_⟩
    refine ⟨_, rfl, a, rfl, ⟨_, (Same.upd hpf).seq hS⟩, for_list (K := K) (a := a) (xs := strsOf t) (fun i σ H' => ∃ v, σ = [some (.ref a), some (.ref pf), v] ∧ Same H H' ∧ H' pf = some (.lst (ofB (Vaseda.showText (t.take i))))) ⟨none, rfl, Same.upd hpf, upd_same⟩
      (fun i σ H' _ ⟨_, _, s1, _⟩ => s1.seq hS) ?_ ?_⟩
    · rintro i y σ H' hi ⟨v, rfl, s1, hl⟩
      obtain ⟨x, hxi, rfl⟩ := strs_get hi
      have hxm := hx x (List.mem_of_getElem? hxi)
      have hlen := showText_len 1000 (t.take i) fun y m => hx y (List.mem_of_mem_take m)
      have htl : (t.take i).length ≤ 1000 := by rw [List.length_take]; omega
      have hmul : (1000 + 1) * (t.take i).length ≤ (1000 + 1) * 1000 := Nat.mul_le_mul_left _ htl
      refine ⟨_, rfl, .inl ⟨rfl, _, SqL.of hl⟩, _, rfl, x, rfl, Nat.le_trans hxm (by decide), fun D H2 hD s2 hDl => ⟨by show 1 ≤ sizeLine; decide, fun p3 hp3 => ?_⟩⟩
      have s3 := Same.upd (o := .lst [.int 10]) hp3
      refine ⟨D, p3, _, _, rfl, rfl, s3 _ _ hDl, upd_same, by rw [ofB_len, sizeLine_eq]; show _ + 1 ≤ _; omega, fun p4 hp4 => ?_⟩
      have s4 := s2.trans (s3.trans (Same.upd (o := .lst (ofB x ++ [.int 10])) hp4))
      refine ⟨pf, p4, _, _, rfl, rfl, s4 _ _ hl, upd_same, by rw [ofB_len, List.length_append, ofB_len, sizeLine_eq]; show _ + (_ + 1) ≤ _; omega, ?_⟩
      refine ⟨_, rfl, Same.updD (s1.trans s4) hpf, ?_⟩
      rw [upd_same, take_snoc hxi, showText_snoc, ofB_app, ofB_app] <;> rfl
    · rintro σ H' ⟨v, rfl, s1, hl⟩
      rw [strs_len, List.take_length] at hl
      exact ⟨_, rfl, q pf H' s1 hpf hl⟩
theorem ok_told_text (F : GF K mg "told_text" sToldText) (ml : mg "len" = none) (D1 : GD P w K mg base CX0 2 "text_octets" ["lines"] (spTextOctets K)) : GD P w K mg base CX0 3 "told_text" ["lines"] (spToldText K) := by
  obtain ⟨f, fd, F, hm⟩ := F
  refine ⟨f, fd, F.ok scToldText (fun vs H Q E h => ?_) (fun cdv A outer s H vs Q E hr h => ⟨_, pss_cons (ps_set (i := 1) scToldText.nd rfl (Or.inl rfl) (pe_g D1 hr pass0 (pa_cons (pv 0) pa_nil)))
      (pss_one (ps_ret (pe_op op_cat (pe_lst (pa_cons (pe_callB call_len_seq (by rfl) ml boot_len (pa_cons (pv 0) pa_nil)) (pa_cons (pe_callB call_len_seq (by rfl) ml boot_len (pa_cons (pv 1) pa_nil)) pa_nil))) (pv 1)))), ?_⟩), hm, F.kp, F.binds fun _ _ _ _ _ _ us hl => match us, hl with | [_], _ => rfl⟩
  · obtain ⟨a, t, rfl, _⟩ := h
    rfl
  · obtain ⟨a, t, rfl, hS, hz, hx, q⟩ := h
    have hlen := showText_len 1000 t hx
    have hmul : (1000 + 1) * t.length ≤ (1000 + 1) * 1000 := Nat.mul_le_mul_left _ hz
    refine ⟨_, rfl, a, t, rfl, hS, hz, hx, fun p H1 s1 hp hl => ?_⟩
    refine ⟨_, rfl, a, _, rfl, Or.inl (s1.seq hS), _, rfl, p, _, rfl, Or.inl (SqL.of hl), by show 2 ≤ sizeLine; decide, fun p2 hp2 => ?_⟩
    refine ⟨_, rfl, p2, p, _, _, rfl, rfl, upd_same, Same.upd hp2 _ _ hl, by rw [ofB_len, sizeLine_eq]; show 2 + _ ≤ _; omega, fun p3 hp3 => ?_⟩
    refine q p3 _ (s1.trans ((Same.upd hp2).trans (Same.upd hp3))) (none_of (s1.trans (Same.upd hp2)) hp3) ?_
    rw [upd_same, strs_len, ofB_len, ofB_ints] <;> rfl
end
end Lsd
/-! Letters in lines: has, swap, first -/
namespace Lsd
open PySem PySem.Spec PyProof.Rows L2
open VasedBase hiding Tok
open Builtin Builtin.Str StrLaws
theorem map_take_eq {l w : Bytes} {n : Nat} : (l.map UInt8.toNat).take n = w.map UInt8.toNat ↔ l.take n = w := by
  rw [← List.map_take]
  exact List.map_inj_right fun x y z => UInt8.toNat_inj.mp z
theorem at_iff (x w : Bytes) (i : Nat) : At (sT x) (sT w) (sT x).length i ↔ i + w.length ≤ x.length ∧ (x.drop i).take w.length = w := by
  unfold At
  rw [subAt_eq, beq_iff_eq, sT_cps, sT_cps, sT_len, sT_len, ← List.map_drop, map_take_eq]
theorem has_eq (w x : Bytes) : Vaseda.hasIn w x = !(occurrences (sT x) (sT w) 0 (sT x).length 1).isEmpty := by
  rw [Bool.eq_iff_iff, found_iff]
  unfold Vaseda.hasIn Vaseda.begins
  rw [List.any_eq_true]
  constructor
  · rintro ⟨o, _, h⟩
    rw [Bool.and_eq_true, beq_iff_eq, decide_eq_true_eq] at h
    exact ⟨o, (at_iff x w o).mpr ⟨h.2, h.1⟩⟩
  · rintro ⟨i, h⟩
    obtain ⟨h1, h2⟩ := (at_iff x w i).mp h
    refine ⟨i, List.mem_range.mpr (by omega), ?_⟩
    rw [Bool.and_eq_true, beq_iff_eq, decide_eq_true_eq]
    exact ⟨h2, h1⟩
theorem swap_replL {a b : Bytes} (ha : a ≠ []) : ∀ (n : Nat) (x : Bytes), x.length < n → replL (a.map UInt8.toNat) (b.map UInt8.toNat) (x.map UInt8.toNat) = (Vaseda.swapBy a b false n x).map UInt8.toNat
  | 0, _, h => absurd h (Nat.not_lt_zero _)
  | n + 1, [], _ => replL_nil
  | n + 1, c :: r, h => by
    have h : r.length + 1 < n + 1 := h
    have e : Vaseda.swapBy a b false (n + 1) (c :: r) = if Vaseda.begins a (c :: r) = true then b ++ Vaseda.swapBy a b false n ((c :: r).drop a.length) else c :: Vaseda.swapBy a b false n r := rfl
    have hne : a.map UInt8.toNat ≠ [] := by
      intro z
      exact ha (List.map_eq_nil_iff.mp z)
    have hal : 1 ≤ a.length := by
      cases a with
      | nil => exact absurd rfl ha
      | cons d t => simp
    rw [e]
    by_cases hb : (c :: r).take a.length = a
    · have hb2 : Vaseda.begins a (c :: r) = true := beq_iff_eq.mpr hb
      rw [if_pos hb2, List.map_append, ← swap_replL ha n _ (by rw [List.length_drop, List.length_cons]; omega), List.map_drop, List.map_cons, replL_hit hne ?_, List.length_map]
      rw [List.length_map, ← List.map_cons (f := UInt8.toNat)]
      exact map_take_eq.mpr hb
    · have hb2 : ¬ Vaseda.begins a (c :: r) = true := fun z => hb (beq_iff_eq.mp z)
      rw [if_neg hb2, List.map_cons, List.map_cons, ← swap_replL ha n r (by omega), replL_miss]
      rw [List.length_map, ← List.map_cons (f := UInt8.toNat)]
      exact fun z => hb (map_take_eq.mp z)
theorem swap_text {a b x : Bytes} (ha : 1 ≤ a.length) : Txt.replace (sT x) (sT a) (sT b) = sT (Vaseda.swapIn a b false x) := by
  refine sT_ext ?_
  rw [replace_list (by rw [sT_len]; exact ha), sT_cps, sT_cps, sT_cps]
  refine swap_replL ?_ _ x (Nat.lt_succ_self _)
  rintro rfl
  simp at ha
/-- the first alone -/
def rep1 (x y z : Str) : Str := if ((occurrences x y 0 x.length 1).isEmpty || (y.length == 0 && z.length == 0)) = true then x else glued z (partsBetween x (occurrences x y 0 x.length 1) y.length)
theorem first_none {a b : Bytes} : ∀ (n : Nat) (x : Bytes), x.length < n → (∀ i, ¬ (i + a.length ≤ x.length ∧ (x.drop i).take a.length = a)) → Vaseda.swapBy a b true n x = x
  | 0, _, h, _ => absurd h (Nat.not_lt_zero _)
  | n + 1, [], _, _ => rfl
  | n + 1, c :: r, h, hn => by
    have h : r.length + 1 < n + 1 := h
    have e : Vaseda.swapBy a b true (n + 1) (c :: r) = if Vaseda.begins a (c :: r) = true then b ++ (c :: r).drop a.length else c :: Vaseda.swapBy a b true n r := rfl
    have hb2 : ¬ Vaseda.begins a (c :: r) = true := fun z => by
      have z' := beq_iff_eq.mp z
      have hl := congrArg List.length z'
      rw [List.length_take] at hl
      exact hn 0 ⟨by omega, by rw [List.drop_zero]; exact z'⟩
    rw [e, if_neg hb2, first_none n r (by omega) fun i q => hn (i + 1) ⟨by have := q.1; rw [List.length_cons]; omega, by rw [List.drop_succ_cons]; exact q.2⟩]
theorem first_hit {a b : Bytes} : ∀ (n : Nat) (x : Bytes) (i : Nat), x.length < n → 1 ≤ a.length → i + a.length ≤ x.length → (x.drop i).take a.length = a → (∀ k, k < i → ¬ (k + a.length ≤ x.length ∧ (x.drop k).take a.length = a)) → Vaseda.swapBy a b true n x = x.take i ++ (b ++ x.drop (i + a.length))
  | 0, _, _, h, _, _, _, _ => absurd h (Nat.not_lt_zero _)
  | n + 1, [], i, _, h1, h2, _, _ => by
    have h2 : i + a.length ≤ 0 := h2
    omega
  | n + 1, c :: r, 0, _, h1, h2, h3, _ => by
    have e : Vaseda.swapBy a b true (n + 1) (c :: r) = if Vaseda.begins a (c :: r) = true then b ++ (c :: r).drop a.length else c :: Vaseda.swapBy a b true n r := rfl
    rw [e, if_pos (show Vaseda.begins a (c :: r) = true from beq_iff_eq.mpr h3), List.take_zero, List.nil_append, Nat.zero_add]
  | n + 1, c :: r, i + 1, h, h1, h2, h3, hn => by
    have h : r.length + 1 < n + 1 := h
    have h2 : i + 1 + a.length ≤ r.length + 1 := h2
    have e : Vaseda.swapBy a b true (n + 1) (c :: r) = if Vaseda.begins a (c :: r) = true then b ++ (c :: r).drop a.length else c :: Vaseda.swapBy a b true n r := rfl
    have hb2 : ¬ Vaseda.begins a (c :: r) = true := fun z => hn 0 (Nat.succ_pos i) ⟨by show 0 + a.length ≤ r.length + 1; omega, beq_iff_eq.mp z⟩
    rw [e, if_neg hb2, first_hit n r i (by omega) h1 (by omega) h3 fun k hk q => hn (k + 1) (by omega) ⟨by have := q.1; rw [List.length_cons]; omega, q.2⟩, List.take_succ_cons, show i + 1 + a.length = (i + a.length) + 1 by omega, List.drop_succ_cons] <;> rfl
theorem first_text {a b x : Bytes} (ha : 1 ≤ a.length) : rep1 (sT x) (sT a) (sT b) = sT (Vaseda.swapIn a b true x) := by
  have hl := occ_length_le (sT x) (sT a) 0 (sT x).length 1
  have hy0 : ((sT a).length == 0) = false := by
    rw [sT_len]
    exact beq_eq_false_iff_ne.mpr (by omega)
  unfold rep1
  rcases occ_head (sT x) (sT a) 1 (Nat.le_refl 1) with ⟨e, hn⟩ | ⟨i, r, e, hA, hn⟩
  · rw [e, if_pos (show (([] : List Nat).isEmpty || (sT a).length == 0 && (sT b).length == 0) = true from rfl)]
    unfold Vaseda.swapIn
    rw [first_none _ x (Nat.lt_succ_self _) fun i q => hn i ((at_iff x a i).mpr q)]
  · rw [e] at hl ⊢
    have er : r = [] := by
      cases r with
      | nil => rfl
      | cons c t => simp at hl
    subst er
    obtain ⟨h1, h2⟩ := (at_iff x a i).mp hA
    rw [if_neg (by rw [hy0]; exact Bool.false_ne_true), partsBetween_eq]
    refine sT_ext ?_
    have eg := glued_list (sT b) (strSub (sT x) 0 i) [strSub (sT x) (i + (sT a).length) (sT x).length]
    show (glued (sT b) [strSub (sT x) 0 i, strSub (sT x) (i + (sT a).length) (sT x).length]).cps.toList = _
    rw [eg]
    show (strSub (sT x) 0 i).cps.toList ++ ((sT b).cps.toList ++ ((strSub (sT x) (i + (sT a).length) (sT x).length).cps.toList ++ [])) = _
    unfold Vaseda.swapIn
    rw [first_hit _ x i (Nat.lt_succ_self _) ha h1 h2 fun k hk q => hn k hk ((at_iff x a k).mpr q), strSub_toList, strSub_toList, sT_cps, sT_cps, sT_len, sT_len, List.append_nil, List.drop_zero, Nat.sub_zero, List.map_append, List.map_append, ← List.map_drop, ← List.map_take]
    congr 2
    rw [List.take_of_length_le (by rw [List.length_map, List.length_drop] <;> exact Nat.le_refl _)]
/-! ### the call with a count -/
theorem gives_repl1 (x y z : Str) (t u v k : PySem.Tok)
    (hf : ((occurrences x y 0 x.length 1).isEmpty || (y.length == 0 && z.length == 0)) = false →
      (u == 0 || v == 0) = false ∧ (u == v) = false ∧ tooLong (x.length + (occurrences x y 0 x.length 1).length * z.length) = false) :
    GivesAt (fun s => NoneBooked s.heap) («str.replace» ⟨[.str x t, .str y u, .str z v, .int 1 k], []⟩)
      (if ((occurrences x y 0 x.length 1).isEmpty || (y.length == 0 && z.length == 0)) = true then .val (.str x t)
       else if (y == z) = true then .either (.val (.str x t)) (.str (glued z (partsBetween x (occurrences x y 0 x.length 1) y.length)))
       else .str (glued z (partsBetween x (occurrences x y 0 x.length 1) y.length))) := by
  show GivesAt _ (if ((occurrences x y 0 x.length 1).isEmpty || (y.length == 0 && z.length == 0)) = true then (do rule "str.replace.nothing"; ret (.str x t)) else
          (do let same ← isSame (.str y u) (.str z v)
              if same = true then (do rule "str.replace.old-is-new"; ret (.str x t)) else
              if tooLong (x.length + (occurrences x y 0 x.length 1).length * z.length) = true then unsupported "str.replace:memory" else
              retStr (glued z (partsBetween x (occurrences x y 0 x.length 1) y.length)))) _
  cases hc : ((occurrences x y 0 x.length 1).isEmpty || (y.length == 0 && z.length == 0))
  · obtain ⟨h0, huv, hl⟩ := hf hc
    cases hyz : (y == z)
    · rw [isSame_str_other y z u v h0 huv hyz, hl]
      exact Gives.at (.of_eq rfl)
    · intro prog w A R s hb hq
      show wpAny _ _ (isSame (.str y u) (.str z v) >>= _) _ _ _
      refine wpAny_bind (wpAny_isSame_str h0 hb fun b => ?_)
      cases b
      · show wpAny _ _ (if tooLong (x.length + (occurrences x y 0 x.length 1).length * z.length) = true then _
                         else retStr (glued z (partsBetween x (occurrences x y 0 x.length 1) y.length))) _ _ _
        rw [hl]
        exact wpAny_bind (wpAny_mkStr (wpAny_pure hq.2.2) hq.2.1)
      · exact wpAny_bind (wpAny_rule (wpAny_pure hq.1))
  · exact Gives.at (.rule (.of_eq rfl))
theorem call_first {prog : Program} {w : World} {A : Around} {E : Value → Shared → Prop} {s : Shared} {x a b : Bytes} {t u v k : PySem.Tok} {Q : Value → Shared → Prop} (hu : u ≠ 0) (hv : v ≠ 0) (huv : u ≠ v) (ha : 1 ≤ a.length) (hx : x.length ≤ 1000) (hb : b.length ≤ 1000)
    (hnb : NoneBooked s.heap) (hq : ∀ t' k', Q (.str (sT (Vaseda.swapIn a b true x)) t') { s with toks := k' }) : wpAny (model prog w) A (call (.builtin "str.replace") [.str (sT x) t, .str (sT a) u, .str (sT b) v, .int 1 k]) Q E s := by
  have h1 := occ_length_le (sT x) (sT a) 0 (sT x).length 1
  have h2 : (occurrences (sT x) (sT a) 0 (sT x).length 1).length * (sT b).length ≤ 1 * (sT b).length := Nat.mul_le_mul_right _ h1
  have hl : tooLong ((sT x).length + (occurrences (sT x) (sT a) 0 (sT x).length 1).length * (sT b).length) = false := by
    unfold tooLong sizeLine
    rw [sT_len] at *
    rw [sT_len] at *
    exact decide_eq_false (by omega)
  refine call_givesAt F.slot_str_replace (typeIs_str _ _ _) F.entry_str_replace (F.args_str_replace_4 _ _ _ _) (gives_repl1 (sT x) (sT a) (sT b) t u v k fun _ => ⟨by simp [hu, hv], by simp [huv], hl⟩) hnb ?_
  have ef := first_text (b := b) (x := x) ha
  unfold rep1 at ef
  have hlen : (Vaseda.swapIn a b true x).length ≤ 16777216 := by
    unfold Vaseda.swapIn
    rcases occ_head (sT x) (sT a) 1 (Nat.le_refl 1) with ⟨e, hn⟩ | ⟨i, r, e, hA, hn⟩
    · rw [first_none _ x (Nat.lt_succ_self _) fun i q => hn i ((at_iff x a i).mpr q)]
      omega
    · obtain ⟨g1, g2⟩ := (at_iff x a i).mp hA
      rw [first_hit _ x i (Nat.lt_succ_self _) ha g1 g2 fun k hk q => hn k hk ((at_iff x a k).mpr q), List.length_append, List.length_append, List.length_take, List.length_drop]
      omega
  cases hc : ((occurrences (sT x) (sT a) 0 (sT x).length 1).isEmpty || ((sT a).length == 0 && (sT b).length == 0))
  · rw [hc, if_neg (by decide)] at ef
    rw [if_neg (by decide)]
    cases hyz : (sT a == sT b)
    · rw [if_neg (by decide), ef]
      exact ⟨by rw [sT_len, sizeLine_eq]; exact hlen, hq _ _⟩
    · rw [if_pos rfl]
      have e : sT a = sT b := eq_of_beq hyz
      rw [ef]
      have ex : sT (Vaseda.swapIn a b true x) = sT x := by
        rw [← ef, e]
        exact StrLaws.glued_between_self _ _ _
      rw [ex] at hq ⊢
      exact ⟨hq t s.toks, by rw [sT_len, sizeLine_eq]; omega, hq _ _⟩
  · rw [hc, if_pos rfl] at ef
    rw [if_pos rfl]
    rw [← ef] at hq
    exact hq t s.toks
theorem call_swap {prog : Program} {w : World} {A : Around} {E : Value → Shared → Prop} {s : Shared} {x a b : Bytes} {t u v : PySem.Tok} {Q : Value → Shared → Prop} (hu : u ≠ 0) (hv : v ≠ 0) (huv : u ≠ v) (ha : 1 ≤ a.length) (hx : x.length ≤ 1000) (hb : b.length ≤ 1000)
    (hnb : NoneBooked s.heap) (hq : ∀ t' k', Q (.str (sT (Vaseda.swapIn a b false x)) t') { s with toks := k' }) : wpAny (model prog w) A (call (.builtin "str.replace") [.str (sT x) t, .str (sT a) u, .str (sT b) v]) Q E s := by
  refine SC.replaceW2 1000 1000 (by decide) hu hv huv (by rw [sT_len]; exact hx) (by rw [sT_len]; exact hb) ?_ hnb
  rw [swap_text ha]
  exact hq
end Lsd
/-! Runs: the mathematics -/
namespace Lsd
open PySem PySem.Spec PyProof.Rows L2
open VasedBase hiding Tok
open Vaseda (Deed Cmd Work Out)
/-- a line on its way, in bounds -/
structure WOk (k n : Nat) (w : Work) : Prop where
  x : w.x.length ≤ 16
  held : w.held.length ≤ 16
  pre : w.pre.length ≤ n ∧ ∀ o ∈ w.pre, o.k = k ∧ o.x.length ≤ 16
  post : w.post.length ≤ n ∧ ∀ o ∈ w.post, o.k = k ∧ o.x.length ≤ 16
  did : w.did.length ≤ n
  left : w.halt = true → w.left = 0
  gone : w.gone = true → w.halt = true
  bad : w.bad = false
theorem outs_snoc {l : List Out} {o : Out} {k n : Nat} (h : l.length ≤ n ∧ ∀ o ∈ l, o.k = k ∧ o.x.length ≤ 16) (h1 : o.k = k) (h2 : o.x.length ≤ 16) : (l ++ [o]).length ≤ n + 1 ∧ ∀ u ∈ l ++ [o], u.k = k ∧ u.x.length ≤ 16 := by
  refine ⟨by rw [List.length_append]; show l.length + 1 ≤ n + 1; omega, fun u m => ?_⟩
  rcases List.mem_append.mp m with m | m
  · exact h.2 u m
  · have : u = o := by simpa using m
    rw [this]
    exact ⟨h1, h2⟩
theorem outs_up {l : List Out} {k n : Nat} (h : l.length ≤ n ∧ ∀ o ∈ l, o.k = k ∧ o.x.length ≤ 16) : l.length ≤ n + 1 ∧ ∀ u ∈ l, u.k = k ∧ u.x.length ≤ 16 := ⟨Nat.le_succ_of_le h.1, h.2⟩
theorem WOk.up {k n : Nat} {w : Work} (h : WOk k n w) : WOk k (n + 1) w := ⟨h.x, h.held, outs_up h.pre, outs_up h.post, Nat.le_succ_of_le h.did, h.left, h.gone, h.bad⟩
theorem work_bad {k : Nat} {last : Bool} {w : Work} {c : Cmd × Nat} (h : w.bad = true) : Vaseda.work k last w c = w := by
  unfold Vaseda.work
  rw [h, Bool.or_true, if_pos rfl]
theorem fold_bad {k : Nat} {last : Bool} : ∀ (l : List (Cmd × Nat)) (w : Work), w.bad = true → l.foldl (Vaseda.work k last) w = w
  | [], _, _ => rfl
  | c :: r, w, h => by rw [List.foldl_cons, work_bad h, fold_bad r w h]
/-- the line when its commands are still done, and no more is left out -/
theorem work_eq {k : Nat} {last : Bool} {w : Work} {c : Cmd × Nat} (h : w.bad = false) : Vaseda.work k last w c = if w.halt = true then w else if 0 < w.left then { w with left := w.left - 1 } else if Vaseda.holds k last w.x c.1.a = true then Vaseda.deed k c.2 { w with did := w.did ++ [c.2] } c.1.d else w := by
  unfold Vaseda.work
  rw [h, Bool.or_false]
theorem deed_ok {k n i : Nat} {w : Work} {d : Deed} (h : WOk k n w) (hl : w.halt = false) (h0 : w.left = 0) (hd : dOk d) (hb : (Vaseda.deed k i { w with did := w.did ++ [i] } d).bad = false) : WOk k (n + 1) (Vaseda.deed k i { w with did := w.did ++ [i] } d) := by
  have hdid : (w.did ++ [i]).length ≤ n + 1 := by rw [List.length_append]; show w.did.length + 1 ≤ n + 1; have := h.did; omega
  cases d with
  | delete => exact ⟨h.x, h.held, outs_up h.pre, outs_up h.post, hdid, fun _ => h0, fun _ => rfl, h.bad⟩
  | before y => exact ⟨h.x, h.held, outs_snoc h.pre rfl (Nat.le_trans hd.2 (by decide)), outs_up h.post, hdid, h.left, h.gone, h.bad⟩
  | after y => exact ⟨h.x, h.held, outs_up h.pre, outs_snoc h.post rfl (Nat.le_trans hd.2 (by decide)), hdid, h.left, h.gone, h.bad⟩
  | change y => exact ⟨Nat.le_trans hd.2 (by decide), h.held, outs_up h.pre, outs_up h.post, hdid, h.left, h.gone, h.bad⟩
  | swap a b =>
    have hb' : (w.bad || decide (16 < (Vaseda.swapIn a b false w.x).length)) = false := hb
    rw [h.bad, Bool.false_or, decide_eq_false_iff_not] at hb'
    exact ⟨Nat.le_of_not_lt hb', h.held, outs_up h.pre, outs_up h.post, hdid, h.left, h.gone, hb⟩
  | first a b =>
    have hb' : (w.bad || decide (16 < (Vaseda.swapIn a b true w.x).length)) = false := hb
    rw [h.bad, Bool.false_or, decide_eq_false_iff_not] at hb'
    exact ⟨Nat.le_of_not_lt hb', h.held, outs_up h.pre, outs_up h.post, hdid, h.left, h.gone, hb⟩
  | keep => exact ⟨h.x, h.x, outs_up h.pre, outs_up h.post, hdid, h.left, h.gone, h.bad⟩
  | bring => exact ⟨h.x, h.held, outs_up h.pre, outs_snoc h.post rfl h.held, hdid, h.left, h.gone, h.bad⟩
  | trade => exact ⟨h.held, h.x, outs_up h.pre, outs_up h.post, hdid, h.left, h.gone, h.bad⟩
  | skip m => exact ⟨h.x, h.held, outs_up h.pre, outs_up h.post, hdid, fun z => (by rw [show w.halt = true from z] at hl; cases hl), h.gone, h.bad⟩
  | halt_ => exact ⟨h.x, h.held, outs_up h.pre, outs_up h.post, hdid, fun _ => h0, fun _ => rfl, h.bad⟩
theorem work_ok {k n : Nat} {last : Bool} {w : Work} {c : Cmd × Nat} (h : WOk k n w) (hc : cmdOk c.1) (hb : (Vaseda.work k last w c).bad = false) : WOk k (n + 1) (Vaseda.work k last w c) := by
  rw [work_eq h.bad] at hb ⊢
  by_cases hh : w.halt = true
  · rw [if_pos hh] at hb ⊢
    exact h.up
  · rw [if_neg hh] at hb ⊢
    by_cases hl : 0 < w.left
    · rw [if_pos hl] at hb ⊢
      exact ⟨h.x, h.held, outs_up h.pre, outs_up h.post, Nat.le_succ_of_le h.did, fun z => absurd z hh, h.gone, h.bad⟩
    · rw [if_neg hl] at hb ⊢
      by_cases ha : Vaseda.holds k last w.x c.1.a = true
      · rw [if_pos ha] at hb ⊢
        exact deed_ok h (Bool.eq_false_iff.mpr hh) (by omega) hc.2 hb
      · rw [if_neg ha] at hb ⊢
        exact h.up
def w0 (x held : Bytes) : Work := ⟨x, held, [], [], false, false, 0, [], false⟩
theorem w0_ok {k : Nat} {x held : Bytes} (hx : x.length ≤ 16) (hh : held.length ≤ 16) : WOk k 0 (w0 x held) := ⟨hx, hh, ⟨Nat.le_refl 0, fun o m => absurd m (by simp [w0])⟩, ⟨Nat.le_refl 0, fun o m => absurd m (by simp [w0])⟩, Nat.le_refl 0, fun _ => rfl, fun z => (by cases z), rfl⟩
/-- a line behind i commands -/
def workAt (s : List Cmd) (k : Nat) (last : Bool) (x held : Bytes) (i : Nat) : Work := (s.zipIdx.take i).foldl (Vaseda.work k last) (w0 x held)
theorem zip_get {s : List Cmd} {i : Nat} {c : Cmd} (h : s[i]? = some c) : s.zipIdx[i]? = some (c, i) := by
  rw [List.getElem?_zipIdx, h]
  simp
theorem workAt_succ {s : List Cmd} {k : Nat} {last : Bool} {x held : Bytes} {i : Nat} {c : Cmd} (h : s[i]? = some c) : workAt s k last x held (i + 1) = Vaseda.work k last (workAt s k last x held i) (c, i) := by
  unfold workAt
  rw [take_snoc (zip_get h), List.foldl_append] <;> rfl
theorem zip_all (s : List Cmd) : s.zipIdx.take s.length = s.zipIdx := List.take_of_length_le (by rw [List.length_zipIdx] <;> exact Nat.le_refl _)
theorem workAt_all (s : List Cmd) (k : Nat) (last : Bool) (x held : Bytes) : workAt s k last x held s.length = Vaseda.lineRun s k last x held := by
  unfold workAt Vaseda.lineRun
  rw [zip_all] <;> rfl
theorem workAt_badUp {s : List Cmd} {k : Nat} {last : Bool} {x held : Bytes} {i : Nat} (h : (workAt s k last x held i).bad = true) : (Vaseda.lineRun s k last x held).bad = true := by
  rw [← workAt_all]
  have e : s.zipIdx.take s.length = s.zipIdx := zip_all s
  have e2 : s.zipIdx = s.zipIdx.take i ++ s.zipIdx.drop i := (List.take_append_drop i _).symm
  unfold workAt at *
  rw [e, e2, List.foldl_append, fold_bad _ _ h]
  exact h
theorem workAt_ok {s : List Cmd} {k : Nat} {last : Bool} {x held : Bytes} (hs : ∀ c ∈ s, cmdOk c) (hx : x.length ≤ 16) (hh : held.length ≤ 16) (hb : (Vaseda.lineRun s k last x held).bad = false) : ∀ i, i ≤ s.length → WOk k i (workAt s k last x held i)
  | 0, _ => w0_ok hx hh
  | i + 1, h => by
    have ih := workAt_ok hs hx hh hb i (by omega)
    have hc : s[i]? = some s[i] := List.getElem?_eq_getElem (by omega)
    rw [workAt_succ hc]
    refine work_ok ih (hs _ (List.getElem_mem (by omega))) ?_
    cases e : (Vaseda.work k last (workAt s k last x held i) (s[i], i)).bad with
    | false => rfl
    | true =>
      rw [← workAt_succ hc] at e
      rw [workAt_badUp e] at hb
      cases hb
theorem line_ok {s : List Cmd} {k : Nat} {last : Bool} {x held : Bytes} (hs : ∀ c ∈ s, cmdOk c) (hx : x.length ≤ 16) (hh : held.length ≤ 16) (hb : (Vaseda.lineRun s k last x held).bad = false) : WOk k s.length (Vaseda.lineRun s k last x held) := by
  rw [← workAt_all]
  exact workAt_ok hs hx hh hb _ (Nat.le_refl _)
/-! ### all lines -/
def heldOf (h : Bytes) (ws : List Work) : Bytes := ((ws.getLast?).map fun w => w.held).getD h
theorem heldOf_cons (h : Bytes) (w : Work) (l : List Work) : heldOf h (w :: l) = heldOf w.held l := by
  unfold heldOf
  cases l with
  | nil => rfl
  | cons b r =>
    rw [List.getLast?_cons_cons]
    cases e : (b :: r).getLast? with
    | none => simp at e
    | some z => rfl
theorem heldOf_snoc (h : Bytes) (w : Work) (l : List Work) : heldOf h (l ++ [w]) = w.held := by
  unfold heldOf
  rw [List.getLast?_append]
  rfl
theorem works_len : ∀ (s : List Cmd) (t : List Bytes) (k : Nat) (h : Bytes), (Vaseda.worksBy s k h t).length = t.length
  | _, [], _, _ => rfl
  | s, x :: r, k, h => by
    show (Vaseda.worksBy s (k + 1) _ r).length + 1 = r.length + 1
    rw [works_len s r]
theorem works_at : ∀ (s : List Cmd) (t : List Bytes) (k : Nat) (h : Bytes) (i : Nat) (x : Bytes), t[i]? = some x → (Vaseda.worksBy s k h t)[i]? = some (Vaseda.lineRun s (k + i) (decide (i + 1 = t.length)) x (heldOf h ((Vaseda.worksBy s k h t).take i)))
  | _, [], _, _, _, _, e => by simp at e
  | s, y :: r, k, h, 0, x, e => by
    have ex : y = x := by simpa using e
    subst ex
    show some (Vaseda.lineRun s k r.isEmpty y h) = some (Vaseda.lineRun s (k + 0) (decide (0 + 1 = r.length + 1)) y h)
    have e2 : r.isEmpty = decide (0 + 1 = r.length + 1) := by
      cases r with
      | nil => rfl
      | cons a b => simp
    rw [e2] <;> rfl
  | s, y :: r, k, h, i + 1, x, e => by
    have e' : r[i]? = some x := by simpa using e
    have ih := works_at s r (k + 1) (Vaseda.lineRun s k r.isEmpty y h).held i x e'
    show (Vaseda.worksBy s (k + 1) (Vaseda.lineRun s k r.isEmpty y h).held r)[i]? = some (Vaseda.lineRun s (k + (i + 1)) (decide (i + 1 + 1 = r.length + 1)) x (heldOf h (Vaseda.lineRun s k r.isEmpty y h :: (Vaseda.worksBy s (k + 1) (Vaseda.lineRun s k r.isEmpty y h).held r).take i)))
    rw [ih, heldOf_cons]
    have e3 : decide (i + 1 + 1 = r.length + 1) = decide (i + 1 = r.length) := by
      rw [Bool.eq_iff_iff, decide_eq_true_eq, decide_eq_true_eq]
      omega
    rw [e3, show k + (i + 1) = k + 1 + i by omega]
def outsOf (ws : List Work) : List Out := ws.zipIdx.flatMap fun w => Vaseda.outOf (w.2 + 1) w.1
theorem outsOf_snoc (ws : List Work) (w : Work) : outsOf (ws ++ [w]) = outsOf ws ++ Vaseda.outOf (ws.length + 1) w := by
  unfold outsOf
  rw [List.zipIdx_append, List.flatMap_append]
  simp
theorem run_eq (s : List Cmd) (t : List Bytes) : Vaseda.run s t = if (Vaseda.works s t).any (fun w => w.bad) = true ∨ 60 < (outsOf (Vaseda.works s t)).length then none else some ⟨outsOf (Vaseda.works s t), heldOf [] (Vaseda.works s t)⟩ := rfl
/-- what a run may be handed -/
structure Asked (s : List Cmd) (t : List Bytes) : Prop where
  cmd : ∀ c ∈ s, cmdOk c
  few : s.length ≤ 16
  line : ∀ x ∈ t, x.length ≤ 16
theorem works_ok {s : List Cmd} {t : List Bytes} (h : Asked s t) (hb : ∀ w ∈ Vaseda.works s t, w.bad = false) : ∀ (i : Nat) (w : Work), (Vaseda.works s t)[i]? = some w → WOk (i + 1) s.length w
  | i, w, e => by
    have hi : i < t.length := by
      have := (List.getElem?_eq_some_iff.mp e).1
      have e2 : (Vaseda.works s t).length = t.length := works_len s t 1 []
      omega
    have hx : t[i]? = some t[i] := List.getElem?_eq_getElem hi
    have ew := works_at s t 1 [] i _ hx
    have e' : (Vaseda.worksBy s 1 [] t)[i]? = some w := e
    rw [ew] at e'
    have ew2 := Option.some.inj e'
    have hheld : (heldOf [] ((Vaseda.worksBy s 1 [] t).take i)).length ≤ 16 := by
      cases i with
      | zero => exact Nat.zero_le _
      | succ j =>
        have hj : j < (Vaseda.works s t).length := by
          have := (List.getElem?_eq_some_iff.mp e).1
          omega
        have hg : (Vaseda.works s t)[j]? = some (Vaseda.works s t)[j] := List.getElem?_eq_getElem hj
        have hg' : (Vaseda.worksBy s 1 [] t)[j]? = some (Vaseda.works s t)[j] := hg
        rw [take_snoc hg', heldOf_snoc]
        exact (works_ok h hb j _ hg).held
    have hbw := hb w (List.mem_of_getElem? e)
    rw [← ew2] at hbw ⊢
    rw [Nat.add_comm 1 i] at hbw ⊢
    exact line_ok h.cmd (h.line _ (List.getElem_mem hi)) hheld hbw
theorem outOf_ok {k n : Nat} {w : Work} (h : WOk k n w) : (Vaseda.outOf k w).length ≤ 2 * n + 1 ∧ ∀ o ∈ Vaseda.outOf k w, o.k = k ∧ o.x.length ≤ 16 := by
  unfold Vaseda.outOf
  have h1 := h.pre
  have h2 := h.post
  refine ⟨?_, fun o m => ?_⟩
  · rw [List.length_append, List.length_append]
    split
    · show _ + (0 + _) ≤ _
      omega
    · show _ + (1 + _) ≤ _
      omega
  · rcases List.mem_append.mp m with m | m
    · exact h1.2 o m
    · rcases List.mem_append.mp m with m | m
      · split at m
        · exact absurd m (by simp)
        · have : o = ⟨w.x, k, none⟩ := by simpa using m
          rw [this]
          exact ⟨rfl, h.x⟩
      · exact h2.2 o m
theorem outs_ok {n : Nat} {ws : List Work} (h : ∀ (i : Nat) (w : Work), ws[i]? = some w → WOk (i + 1) n w) : ∀ o ∈ outsOf ws, o.x.length ≤ 16 := by
  intro o m
  unfold outsOf at m
  rw [List.mem_flatMap] at m
  obtain ⟨p, hp, ho⟩ := m
  obtain ⟨i, hi⟩ := List.getElem?_of_mem hp
  rw [List.getElem?_zipIdx] at hi
  cases e : ws[i]? with
  | none => rw [e] at hi; cases hi
  | some w =>
    rw [e] at hi
    simp at hi
    subst hi
    exact ((outOf_ok (h i w e)).2 o ho).2
theorem run_some {s : List Cmd} {t : List Bytes} {r : Vaseda.Result} (h : Vaseda.run s t = some r) : (∀ w ∈ Vaseda.works s t, w.bad = false) ∧ (outsOf (Vaseda.works s t)).length ≤ 60 ∧ r = ⟨outsOf (Vaseda.works s t), heldOf [] (Vaseda.works s t)⟩ := by
  rw [run_eq] at h
  split at h
  · cases h
  · rename_i q
    refine ⟨fun w m => ?_, Nat.le_of_not_lt fun z => q (.inr z), (Option.some.inj h).symm⟩
    cases e : w.bad with
    | false => rfl
    | true => exact absurd (.inl (List.any_eq_true.mpr ⟨w, m, e⟩)) q
theorem run_ok {s : List Cmd} {t : List Bytes} {r : Vaseda.Result} (a : Asked s t) (h : Vaseda.run s t = some r) : (Vaseda.outText r).length ≤ 60 ∧ (∀ x ∈ Vaseda.outText r, x.length ≤ 16) ∧ r.held.length ≤ 16 := by
  obtain ⟨h1, h2, rfl⟩ := run_some h
  have hw := works_ok a h1
  refine ⟨by show ((outsOf (Vaseda.works s t)).map _).length ≤ 60; rw [List.length_map]; exact h2, fun x m => ?_, ?_⟩
  · obtain ⟨o, ho, rfl⟩ := List.mem_map.mp m
    exact outs_ok hw o ho
  · show (heldOf [] (Vaseda.works s t)).length ≤ 16
    unfold heldOf
    cases e : (Vaseda.works s t).getLast? with
    | none => exact Nat.zero_le _
    | some w =>
      obtain ⟨i, hi⟩ := List.getElem?_of_mem (List.mem_of_getLast? e)
      exact (hw i w hi).held
end Lsd
/-! Passing: how it lies in the heap -/
namespace Lsd
open PySem PySem.Spec PyProof.Rows L2
open VasedBase hiding Tok
open Vaseda (Deed Cmd Work Out)
/-- its attributes: number, last or not, as it was, as it is worked, its three lists -/
def pF (k : Nat) (last : Bool) (x0 : Bytes) (w : Work) (A B D : PySem.Addr) : List (Str × V) := [("number", .int (k : Int)), ("is_last", .bl last), ("first", .str (sT x0)), ("line", .str (sT w.x)), ("put_ahead", .ref A), ("put_behind", .ref B), ("done", .ref D), ("is_deleted", .bl w.gone), ("is_over", .bl w.halt), ("left_out", .int (w.left : Int))
  ]
theorem pF_number (k : Nat) (last : Bool) (x0 : Bytes) (w : Work) (A B D : PySem.Addr) : (pF k last x0 w A B D).lookup ("number" : Str) = some (.int (k : Int)) := lkp_here
theorem pF_is_last (k : Nat) (last : Bool) (x0 : Bytes) (w : Work) (A B D : PySem.Addr) : (pF k last x0 w A B D).lookup ("is_last" : Str) = some (.bl last) := (lkp_past (by decide +kernel)).trans (lkp_here)
theorem pF_first (k : Nat) (last : Bool) (x0 : Bytes) (w : Work) (A B D : PySem.Addr) : (pF k last x0 w A B D).lookup ("first" : Str) = some (.str (sT x0)) := (lkp_past (by decide +kernel)).trans ((lkp_past (by decide +kernel)).trans (lkp_here))
theorem pF_line (k : Nat) (last : Bool) (x0 : Bytes) (w : Work) (A B D : PySem.Addr) : (pF k last x0 w A B D).lookup ("line" : Str) = some (.str (sT w.x)) := (lkp_past (by decide +kernel)).trans ((lkp_past (by decide +kernel)).trans ((lkp_past (by decide +kernel)).trans (lkp_here)))
theorem pF_put_ahead (k : Nat) (last : Bool) (x0 : Bytes) (w : Work) (A B D : PySem.Addr) : (pF k last x0 w A B D).lookup ("put_ahead" : Str) = some (.ref A) := (lkp_past (by decide +kernel)).trans ((lkp_past (by decide +kernel)).trans ((lkp_past (by decide +kernel)).trans ((lkp_past (by decide +kernel)).trans (lkp_here))))
theorem pF_put_behind (k : Nat) (last : Bool) (x0 : Bytes) (w : Work) (A B D : PySem.Addr) : (pF k last x0 w A B D).lookup ("put_behind" : Str) = some (.ref B) := (lkp_past (by decide +kernel)).trans ((lkp_past (by decide +kernel)).trans ((lkp_past (by decide +kernel)).trans ((lkp_past (by decide +kernel)).trans ((lkp_past (by decide +kernel)).trans (lkp_here)))))
theorem pF_done (k : Nat) (last : Bool) (x0 : Bytes) (w : Work) (A B D : PySem.Addr) : (pF k last x0 w A B D).lookup ("done" : Str) = some (.ref D) := (lkp_past (by decide +kernel)).trans ((lkp_past (by decide +kernel)).trans ((lkp_past (by decide +kernel)).trans ((lkp_past (by decide +kernel)).trans ((lkp_past (by decide +kernel)).trans ((lkp_past (by decide +kernel)).trans (lkp_here))))))
theorem pF_is_deleted (k : Nat) (last : Bool) (x0 : Bytes) (w : Work) (A B D : PySem.Addr) : (pF k last x0 w A B D).lookup ("is_deleted" : Str) = some (.bl w.gone) := (lkp_past (by decide +kernel)).trans ((lkp_past (by decide +kernel)).trans ((lkp_past (by decide +kernel)).trans ((lkp_past (by decide +kernel)).trans ((lkp_past (by decide +kernel)).trans ((lkp_past (by decide +kernel)).trans ((lkp_past (by decide +kernel)).trans (lkp_here)))))))
theorem pF_is_over (k : Nat) (last : Bool) (x0 : Bytes) (w : Work) (A B D : PySem.Addr) : (pF k last x0 w A B D).lookup ("is_over" : Str) = some (.bl w.halt) := (lkp_past (by decide +kernel)).trans ((lkp_past (by decide +kernel)).trans ((lkp_past (by decide +kernel)).trans ((lkp_past (by decide +kernel)).trans ((lkp_past (by decide +kernel)).trans ((lkp_past (by decide +kernel)).trans ((lkp_past (by decide +kernel)).trans ((lkp_past (by decide +kernel)).trans (lkp_here))))))))
theorem pF_left_out (k : Nat) (last : Bool) (x0 : Bytes) (w : Work) (A B D : PySem.Addr) : (pF k last x0 w A B D).lookup ("left_out" : Str) = some (.int (w.left : Int)) := (lkp_past (by decide +kernel)).trans ((lkp_past (by decide +kernel)).trans ((lkp_past (by decide +kernel)).trans ((lkp_past (by decide +kernel)).trans ((lkp_past (by decide +kernel)).trans ((lkp_past (by decide +kernel)).trans ((lkp_past (by decide +kernel)).trans ((lkp_past (by decide +kernel)).trans ((lkp_past (by decide +kernel)).trans (lkp_here)))))))))
def pNames : List Str := ["number", "is_last", "first", "line", "put_ahead", "put_behind", "done", "is_deleted", "is_over", "left_out"]
theorem lkp_no {m : Str} : ∀ fs : List (Str × V), (fs.map Prod.fst).all (fun g => !(m == g)) = true → fs.lookup m = none
  | [], _ => rfl
  | (g, v) :: r, h => by
    rw [List.map_cons, List.all_cons, Bool.and_eq_true, Bool.not_eq_true'] at h
    rw [lkp_past h.1]
    exact lkp_no r h.2
theorem pF_no {m : Str} (k : Nat) (last : Bool) (x0 : Bytes) (w : Work) (A B D : PySem.Addr) (h : pNames.all (fun g => !(m == g)) = true) : (pF k last x0 w A B D).lookup m = none := lkp_no _ h
theorem pF_put_line (k : Nat) (last : Bool) (x0 : Bytes) (w : Work) (A B D : PySem.Addr) (y : Bytes) : putF "line" (.str (sT y)) (pF k last x0 w A B D) = pF k last x0 { w with x := y } A B D := (putF_past (by decide +kernel)).trans (congrArg _ ((putF_past (by decide +kernel)).trans (congrArg _ ((putF_past (by decide +kernel)).trans (congrArg _ (putF_here))))))
theorem pF_put_is_deleted (k : Nat) (last : Bool) (x0 : Bytes) (w : Work) (A B D : PySem.Addr) (y : Bool) : putF "is_deleted" (.bl y) (pF k last x0 w A B D) = pF k last x0 { w with gone := y } A B D := (putF_past (by decide +kernel)).trans (congrArg _ ((putF_past (by decide +kernel)).trans (congrArg _ ((putF_past (by decide +kernel)).trans (congrArg _ ((putF_past (by decide +kernel)).trans (congrArg _ ((putF_past (by decide +kernel)).trans (congrArg _ ((putF_past (by decide +kernel)).trans (congrArg _ ((putF_past (by decide +kernel)).trans (congrArg _ (putF_here))))))))))))))
theorem pF_put_is_over (k : Nat) (last : Bool) (x0 : Bytes) (w : Work) (A B D : PySem.Addr) (y : Bool) : putF "is_over" (.bl y) (pF k last x0 w A B D) = pF k last x0 { w with halt := y } A B D := (putF_past (by decide +kernel)).trans (congrArg _ ((putF_past (by decide +kernel)).trans (congrArg _ ((putF_past (by decide +kernel)).trans (congrArg _ ((putF_past (by decide +kernel)).trans (congrArg _ ((putF_past (by decide +kernel)).trans (congrArg _ ((putF_past (by decide +kernel)).trans (congrArg _ ((putF_past (by decide +kernel)).trans (congrArg _ ((putF_past (by decide +kernel)).trans (congrArg _ (putF_here))))))))))))))))
theorem pF_put_left_out (k : Nat) (last : Bool) (x0 : Bytes) (w : Work) (A B D : PySem.Addr) (y : Nat) : putF "left_out" (.int (y : Int)) (pF k last x0 w A B D) = pF k last x0 { w with left := y } A B D := (putF_past (by decide +kernel)).trans (congrArg _ ((putF_past (by decide +kernel)).trans (congrArg _ ((putF_past (by decide +kernel)).trans (congrArg _ ((putF_past (by decide +kernel)).trans (congrArg _ ((putF_past (by decide +kernel)).trans (congrArg _ ((putF_past (by decide +kernel)).trans (congrArg _ ((putF_past (by decide +kernel)).trans (congrArg _ ((putF_past (by decide +kernel)).trans (congrArg _ ((putF_past (by decide +kernel)).trans (congrArg _ (putF_here))))))))))))))))))
/-- what the top has written of the class -/
structure PassT (K : PySem.W.Frag) (mg : Str → Option Value) (CP : PySem.Addr) : Prop where
  cl : Cls K CP
  gl : mg "Passing" = some (.ref CP)
  n_number : NoAttr K CP "number"
  n_is_last : NoAttr K CP "is_last"
  n_first : NoAttr K CP "first"
  n_line : NoAttr K CP "line"
  n_put_ahead : NoAttr K CP "put_ahead"
  n_put_behind : NoAttr K CP "put_behind"
  n_done : NoAttr K CP "done"
  n_is_deleted : NoAttr K CP "is_deleted"
  n_is_over : NoAttr K CP "is_over"
  n_left_out : NoAttr K CP "left_out"
theorem PassT.na {K : PySem.W.Frag} {mg : Str → Option Value} {CP : PySem.Addr} (T : PassT K mg CP) : True := trivial
def outC (o : Out) : Int := match o.c with
  | some c => (c : Int)
  | none => -1
/-- a line put, with its command -/
def OutV (K : PySem.W.Frag) (H : Hp) (o : Out) (v : V) : Prop := ∃ q, v = .ref q ∧ SqT K H q [.str (sT o.x), .int (outC o)]
theorem OutV.keep {K : PySem.W.Frag} {H H' : Hp} {o : Out} {v : V} (k : KeepT H H') (h : OutV K H o v) : OutV K H' o v := by
  obtain ⟨q, e, s⟩ := h
  exact ⟨q, e, k.sq s⟩
def OutsV (K : PySem.W.Frag) (H : Hp) (vs : List V) (os : List Out) : Prop := vs.length = os.length ∧ ∀ (i : Nat) (o : Out), os[i]? = some o → ∃ v : V, vs[i]? = some v ∧ OutV K H o v
theorem OutsV.keep {K : PySem.W.Frag} {H H' : Hp} {vs : List V} {os : List Out} (k : KeepT H H') (h : OutsV K H vs os) : OutsV K H' vs os := ⟨h.1, fun i c e => let ⟨v, a, b⟩ := h.2 i c e; ⟨v, a, b.keep k⟩⟩
theorem OutsV.nil (K : PySem.W.Frag) (H : Hp) : OutsV K H [] [] := ⟨rfl, fun i c e => by simp at e⟩
theorem OutsV.app {K : PySem.W.Frag} {H : Hp} {vs us : List V} {os ps : List Out} (h : OutsV K H vs os) (h2 : OutsV K H us ps) : OutsV K H (vs ++ us) (os ++ ps) := by
  refine ⟨by rw [List.length_append, List.length_append, h.1, h2.1], fun i u q => ?_⟩
  rcases Nat.lt_or_ge i os.length with hi | hi
  · rw [List.getElem?_append_left hi] at q
    obtain ⟨w, a, b⟩ := h.2 i u q
    exact ⟨w, by rw [List.getElem?_append_left (by rw [h.1]; exact hi)]; exact a, b⟩
  · rw [List.getElem?_append_right hi] at q
    obtain ⟨w, a, b⟩ := h2.2 _ u q
    exact ⟨w, by rw [List.getElem?_append_right (by rw [h.1]; exact hi), h.1]; exact a, b⟩
theorem OutsV.one {K : PySem.W.Frag} {H : Hp} {v : V} {o : Out} (h : OutV K H o v) : OutsV K H [v] [o] := ⟨rfl, fun i u q => by
  cases i with
  | zero => cases q; exact ⟨v, rfl, h⟩
  | succ j => simp at q⟩
def natsV (l : List Nat) : List V := l.map fun (n : Nat) => V.int (n : Int)
theorem natsV_len (l : List Nat) : (natsV l).length = l.length := by simp [natsV]
/-- a passing at p with its lists -/
structure PassX (K : PySem.W.Frag) (CP : PySem.Addr) (H : Hp) (p : PySem.Addr) (k : Nat) (last : Bool) (x0 : Bytes) (w : Work) (A B D : PySem.Addr) : Prop where
  obj : ∃ dx, H p = some (.ins CP dx (pF k last x0 w A B D))
  a : ∃ va, H A = some (.lst va) ∧ OutsV K H va w.pre
  b : ∃ vb, H B = some (.lst vb) ∧ OutsV K H vb w.post
  d : H D = some (.lst (natsV w.did))
  ab : A ≠ B
  ad : A ≠ D
  bd : B ≠ D
theorem PassX.keep {K : PySem.W.Frag} {CP : PySem.Addr} {H H' : Hp} {p : PySem.Addr} {k : Nat} {last : Bool} {x0 : Bytes} {w : Work} {A B D : PySem.Addr} {S : List PySem.Addr} (h : PassX K CP H p k last x0 w A B D) (ks : Keep S H H') (kt : KeepT H H') (hp : p ∉ S) (hA : A ∉ S) (hB : B ∉ S) (hD : D ∉ S) :
    PassX K CP H' p k last x0 w A B D := by
  obtain ⟨⟨dx, h1⟩, ⟨va, h2, h3⟩, ⟨vb, h4, h5⟩, h6, n1, n2, n3⟩ := h
  exact ⟨⟨dx, ks _ _ h1 hp⟩, ⟨va, ks _ _ h2 hA, h3.keep kt⟩, ⟨vb, ks _ _ h4 hB, h5.keep kt⟩, ks _ _ h6 hD, n1, n2, n3⟩
theorem PassX.same {K : PySem.W.Frag} {CP : PySem.Addr} {H H' : Hp} {p : PySem.Addr} {k : Nat} {last : Bool} {x0 : Bytes} {w : Work} {A B D : PySem.Addr} (h : PassX K CP H p k last x0 w A B D) (s : Same H H') : PassX K CP H' p k last x0 w A B D :=
  h.keep (S := []) (Keep.of s) (Same.keepT s) (by simp) (by simp) (by simp) (by simp)
abbrev sPass (j : Nat) : Stmt := inClass (top 55) j
theorem scPassInit : FnScope ["self", "number", "is_last", "line"] ["self", "number", "is_last", "line"] (defScope (sPass 0)) := ⟨rfl, rfl, rfl, by decide +kernel, rfl, by decide +kernel, by decide +kernel⟩
structure MkD (P : Program) (w : World) (K : PySem.W.Frag) (mg : Str → Option Value) (base : Heap) (CX : CXT) (k : Nat) (C : PySem.Addr) (ps : List Str) (sp : Sp) : Prop where
  ex : ∃ f fd, FnOk P w K mg base CX k f fd ps sp ∧ Mk K C f ∧ Binds K fd ps []
def spPassInit (K : PySem.W.Frag) (CP : PySem.Addr) : Sp := fun vs H Q _ => ∃ p dx k last x, vs = [.ref p, .int (k : Nat), .bl last, .str (sT x)] ∧ H p = some (.ins CP dx []) ∧
  ∀ A B D H', Keep [p] H H' → H A = none → H B = none → H D = none → (∀ held, PassX K CP H' p k last x (w0 x held) A B D) → Q .non H'
theorem keepp {p : PySem.Addr} (H : Hp) (o : HO) : Keep [p] H (upd H p o) := Keep.upd (.inr (by simp))
theorem keepn {S : List PySem.Addr} {H : Hp} {q : PySem.Addr} {o : HO} (h : H q = none) : Keep S H (upd H q o) := Keep.of (Same.upd h)
theorem putF_new {f : Str} {v : V} : ∀ fs : List (Str × V), (fs.map Prod.fst).all (fun g => !decide (g = f)) = true → putF f v fs = fs ++ [(f, v)]
  | [], _ => rfl
  | (g, x) :: r, h => by
    rw [List.map_cons, List.all_cons, Bool.and_eq_true, Bool.not_eq_true', decide_eq_false_iff_not] at h
    rw [putF_past h.1, putF_new r h.2] <;> rfl
section
variable {P : Program} {w : World} {K : PySem.W.Frag} {mg : Str → Option Value} {base : Heap} {CP : PySem.Addr}
theorem ok_pass_init (F : InitF K CP "Passing.__init__" (sPass 0)) (T : PassT K mg CP) : MkD P w K mg base CX0 1 CP ["self", "number", "is_last", "line"] (spPassInit K CP) := by
  obtain ⟨f, fd, F, hm⟩ := F
  refine ⟨f, fd, F.ok scPassInit (fun vs H Q E h => ?_) (fun cdv A outer s H vs Q E hr h => ⟨_, pss_cons (ps_fld (pv 0) (pv 1) rfl) (pss_cons (ps_fld (pv 0) (pv 2) rfl) (pss_cons (ps_fld (pv 0) (pv 3) rfl) (pss_cons (ps_fld (pv 0) (pv 3) rfl)
      (pss_cons (ps_fld (pv 0) (pe_lst pa_nil) rfl) (pss_cons (ps_fld (pv 0) (pe_lst pa_nil) rfl) (pss_cons (ps_fld (pv 0) (pe_lst pa_nil) rfl)
      (pss_cons (ps_fld (pv 0) pe_bl rfl) (pss_cons (ps_fld (pv 0) pe_bl rfl) (pss_one (ps_fld (pv 0) L2.pe_int rfl)))))))))), ?_⟩), hm, F.binds fun _ _ _ _ _ _ us hl => match us, hl with | [_, _, _, _], _ => rfl⟩
  · obtain ⟨p, dx, k, last, x, rfl, _⟩ := h
    rfl
  · obtain ⟨p, dx, k, last, x, rfl, hp, q⟩ := h
    refine ⟨_, rfl, _, rfl, p, CP, dx, _, rfl, hp, T.cl, T.n_number, by show 0 < 1000; decide, ?_⟩
    rw [putF_new _ (by decide +kernel)]
    refine ⟨_, rfl, _, rfl, p, CP, dx, _, rfl, upd_same, T.cl, T.n_is_last, by show 1 < 1000; decide, ?_⟩
    rw [putF_new _ (by show (["number"] : List Str).all _ = true; decide +kernel), upd_upd]
    refine ⟨_, rfl, _, rfl, p, CP, dx, _, rfl, upd_same, T.cl, T.n_first, by show 2 < 1000; decide, ?_⟩
    rw [putF_new _ (by show (["number", "is_last"] : List Str).all _ = true; decide +kernel), upd_upd]
    refine ⟨_, rfl, _, rfl, p, CP, dx, _, rfl, upd_same, T.cl, T.n_line, by show 3 < 1000; decide, ?_⟩
    rw [putF_new _ (by show (["number", "is_last", "first"] : List Str).all _ = true; decide +kernel), upd_upd]
    refine ⟨by show 0 ≤ sizeLine; decide, fun A hA => ?_⟩
    have nA : A ≠ p := fun z => by rw [z, upd_same] at hA; cases hA
    refine ⟨_, rfl, p, CP, dx, _, rfl, (upd_ne (Ne.symm nA)).trans upd_same, T.cl, T.n_put_ahead, by show 4 < 1000; decide, ?_⟩
    rw [putF_new _ (by show (["number", "is_last", "first", "line"] : List Str).all _ = true; decide +kernel)]
    refine ⟨by show 0 ≤ sizeLine; decide, fun B hB => ?_⟩
    have nB : B ≠ p := fun z => by rw [z, upd_same] at hB; cases hB
    refine ⟨_, rfl, p, CP, dx, _, rfl, (upd_ne (Ne.symm nB)).trans upd_same, T.cl, T.n_put_behind, by show 5 < 1000; decide, ?_⟩
    rw [putF_new _ (by show (["number", "is_last", "first", "line", "put_ahead"] : List Str).all _ = true; decide +kernel)]
    refine ⟨by show 0 ≤ sizeLine; decide, fun D hD => ?_⟩
    have nD : D ≠ p := fun z => by rw [z, upd_same] at hD; cases hD
    refine ⟨_, rfl, p, CP, dx, _, rfl, (upd_ne (Ne.symm nD)).trans upd_same, T.cl, T.n_done, by show 6 < 1000; decide, ?_⟩
    rw [putF_new _ (by show (["number", "is_last", "first", "line", "put_ahead", "put_behind"] : List Str).all _ = true; decide +kernel)]
    refine ⟨_, rfl, p, CP, dx, _, rfl, upd_same, T.cl, T.n_is_deleted, by show 7 < 1000; decide, ?_⟩
    rw [putF_new _ (by show (["number", "is_last", "first", "line", "put_ahead", "put_behind", "done"] : List Str).all _ = true; decide +kernel), upd_upd]
    refine ⟨_, rfl, p, CP, dx, _, rfl, upd_same, T.cl, T.n_is_over, by show 8 < 1000; decide, ?_⟩
    rw [putF_new _ (by show (["number", "is_last", "first", "line", "put_ahead", "put_behind", "done", "is_deleted"] : List Str).all _ = true; decide +kernel), upd_upd]
    refine ⟨_, rfl, p, CP, dx, _, rfl, upd_same, T.cl, T.n_left_out, by show 9 < 1000; decide, ?_⟩
    rw [putF_new _ (by show (["number", "is_last", "first", "line", "put_ahead", "put_behind", "done", "is_deleted", "is_over"] : List Str).all _ = true; decide +kernel), upd_upd]
    have hA0 : H A = none := (upd_ne nA).symm.trans hA
    have hB1 := (upd_ne nB).symm.trans hB
    have nBA : B ≠ A := fun z => by rw [z, upd_same] at hB1; cases hB1
    have hB2 := (upd_ne nBA).symm.trans hB1
    have hB0 : H B = none := (upd_ne nB).symm.trans hB2
    have hD1 := (upd_ne nD).symm.trans hD
    have nDB : D ≠ B := fun z => by rw [z, upd_same] at hD1; cases hD1
    have hD2 := (upd_ne nDB).symm.trans hD1
    have hD3 := (upd_ne nD).symm.trans hD2
    have nDA : D ≠ A := fun z => by rw [z, upd_same] at hD3; cases hD3
    have hD4 := (upd_ne nDA).symm.trans hD3
    have hD0 : H D = none := (upd_ne nD).symm.trans hD4
    refine q A B D _ (((((keepp _ _).trans (keepn hA)).trans ((keepp _ _).trans (keepn hB))).trans (keepp _ _)).trans ((keepn hD).trans (keepp _ _))) hA0 hB0 hD0 fun held => ⟨⟨dx, upd_same⟩, ⟨[], ?_, OutsV.nil _ _⟩, ⟨[], ?_, OutsV.nil _ _⟩, ?_, Ne.symm nBA, Ne.symm nDA, Ne.symm nDB⟩
    · rw [upd_ne nA, upd_ne (Ne.symm nDA), upd_ne nA, upd_ne (Ne.symm nBA), upd_ne nA, upd_same]
    · rw [upd_ne nB, upd_ne (Ne.symm nDB), upd_ne nB, upd_same]
    · rw [upd_ne nD, upd_same] <;> rfl
end
end Lsd
/-! Passing: holds_plainly, holds, becomes, end, lines, fate -/
namespace Lsd
open PySem PySem.Spec PyProof.Rows L2
open VasedBase hiding Tok
open Vaseda (Deed Cmd Work Out)
theorem scHoldsP : FnScope ["self", "address", "what"] ["self", "address"] (defScope (sPass 2)) := ⟨rfl, rfl, rfl, by decide +kernel, rfl, by decide +kernel, by decide +kernel⟩
theorem scHolds : FnScope ["self", "address", "is_turned"] ["self", "address"] (defScope (sPass 1)) := ⟨rfl, rfl, rfl, by decide +kernel, rfl, by decide +kernel, by decide +kernel⟩
theorem scBecomes : FnScope ["self", "line"] ["self", "line"] (defScope (sPass 3)) := ⟨rfl, rfl, rfl, by decide +kernel, rfl, by decide +kernel, by decide +kernel⟩
theorem scEnd : FnScope ["self", "is_deleted"] ["self", "is_deleted"] (defScope (sPass 5)) := ⟨rfl, rfl, rfl, by decide +kernel, rfl, by decide +kernel, by decide +kernel⟩
theorem scLines : FnScope ["self", "own"] ["self"] (defScope (sPass 6)) := ⟨rfl, rfl, rfl, by decide +kernel, rfl, by decide +kernel, by decide +kernel⟩
theorem scFate : FnScope ["self"] ["self"] (defScope (sPass 7)) := ⟨rfl, rfl, rfl, by decide +kernel, rfl, by decide +kernel, by decide +kernel⟩
/-- the object alone -/
def PassO (CP : PySem.Addr) (H : Hp) (p : PySem.Addr) (k : Nat) (last : Bool) (x0 : Bytes) (w : Work) (A B D : PySem.Addr) : Prop := ∃ dx, H p = some (.ins CP dx (pF k last x0 w A B D))
def spHoldsP (K : PySem.W.Frag) (CP : PySem.Addr) : Sp := fun vs H Q _ => ∃ p k last x0 w A B D ad v, vs = [.ref p, v] ∧ PassO CP H p k last x0 w A B D ∧ AtA K H ad v ∧ (∀ b, ad ≠ .not b) ∧ Q (.bl (Vaseda.holds k last w.x ad)) H
def spHolds (K : PySem.W.Frag) (CP : PySem.Addr) : Sp := fun vs H Q _ => ∃ p k last x0 w A B D ad v, vs = [.ref p, v] ∧ PassO CP H p k last x0 w A B D ∧ AtA K H ad v ∧ aOk 3 ad ∧ Q (.bl (Vaseda.holds k last w.x ad)) H
/-- a run is too much: the error, all that was tracked stands but what is at S -/
def TooK (CT : PySem.Addr) (E : XK) (S : List PySem.Addr) (H : Hp) : Prop := ∀ H', Keep S H H' → E (.ref CT) none H'
theorem TooK.of {CT : PySem.Addr} {E : XK} {S : List PySem.Addr} {H H1 : Hp} (h : TooK CT E S H) (k : Keep S H H1) : TooK CT E S H1 := fun H' k' => h H' (k.trans k')
structure TooT (K : PySem.W.Frag) (mg : Str → Option Value) (CT : PySem.Addr) : Prop where
  g : mg "TooMuch" = some (.ref CT)
  x : PySem.W.excIn K CT [.type "ValueError", .type "Exception", .type "BaseException", .type "object"] "ValueError.__new__" = true
  k : PySem.W.keepIn K (.ref CT) = true
  b : PySem.W.subIn K (.ref CT) (.type "BaseException") = some true
  t : PySem.W.typeIn K (.ref CT) = some (.type "type")
  e : PySem.W.exmOne K (.ref CT) (.ref CT) = some true
def spBecomes (CP CT : PySem.Addr) : Sp := fun vs H Q E => ∃ p k last x0 w A B D y dx, vs = [.ref p, .str (sT y)] ∧ H p = some (.ins CP dx (pF k last x0 w A B D)) ∧ y.length ≤ 1000 ∧ (16 < y.length → E (.ref CT) none H) ∧
  (y.length ≤ 16 → Q .non (upd H p (.ins CP dx (pF k last x0 { w with x := y } A B D))))
def spEnd (CP : PySem.Addr) : Sp := fun vs H Q _ => ∃ p k last x0 w A B D g dx, vs = [.ref p, .bl g] ∧ H p = some (.ins CP dx (pF k last x0 w A B D)) ∧ Q .non (upd H p (.ins CP dx (pF k last x0 { w with gone := g, halt := true } A B D)))
def spLines (K : PySem.W.Frag) (CP : PySem.Addr) : Sp := fun vs H Q _ => ∃ p k last x0 w A B D n, vs = [.ref p] ∧ PassX K CP H p k last x0 w A B D ∧ WOk k n w ∧ n ≤ 1000 ∧ ∀ q vs' H', Same H H' → H q = none → H' q = some (.lst vs') → OutsV K H' vs' (Vaseda.outOf k w) → Q (.ref q) H'
def fateOf (x0 : Bytes) (w : Work) : Int := if w.gone = true then 2 else if w.x = x0 then 0 else 1
def spFate (CP : PySem.Addr) : Sp := fun vs H Q _ => ∃ p k last x0 w A B D, vs = [.ref p] ∧ PassO CP H p k last x0 w A B D ∧ Q (.int (fateOf x0 w)) H
theorem int_dec2 (a b : Nat) : decide (V.int (a : Int) = V.int (b : Int)) = (a == b) := by
  rw [Bool.eq_iff_iff]
  simp only [decide_eq_true_eq, V.int.injEq, beq_iff_eq]
  omega
theorem bl_ne (a b : Bool) : (!decide (V.bl a = V.bl b)) = (a != b) := by cases a <;> cases b <;> decide
/-- behind nots: turned or not -/
def HoldS (K : PySem.W.Frag) (p : PySem.Addr) (k : Nat) (last : Bool) (x : Bytes) (ad : Vaseda.Addr) (H : Hp) (n : Nat) (σ : L2.St) (H' : Hp) : Prop := ∃ ad' v' b, σ = [some (.ref p), some v', some (.bl b)] ∧ H' = H ∧ AtA K H ad' v' ∧ aOk n ad' ∧ Vaseda.holds k last x ad = (Vaseda.holds k last x ad' != b)
section
variable {P : Program} {w : World} {K : PySem.W.Frag} {mg : Str → Option Value} {base : Heap} {CP CT : PySem.Addr}
theorem ok_holds_plainly (F : MF K CP "holds_plainly" "Passing.holds_plainly" (sPass 2)) (T : PassT K mg CP) : MD P w K mg base CX0 1 CP "holds_plainly" ["self", "address"] (spHoldsP K CP) := by
  obtain ⟨f, fd, F, hm⟩ := F
  refine ⟨f, fd, F.ok scHoldsP (fun vs H Q E h => ?_) (fun cdv A outer s H vs Q E hr h => ⟨_, pss_cons (ps_set (i := 2) scHoldsP.nd rfl (Or.inl rfl) (pe_ix ix_tup (pv 1) L2.pe_int (fun _ _ => rfl)))
      (pss_cons (ps_if (pt_cmpR op_eq (pv 2) pe_str (nomark _)) (pss_one (ps_ret (pe_cmpR op_eq (pe_fld (pv 0) rfl) (pe_ix ix_tup (pv 1) L2.pe_int (fun _ _ => rfl)) (nomark _)))) pss_nil)
      (pss_cons (ps_if (pt_cmpR op_eq (pv 2) pe_str (nomark _)) (pss_one (ps_ret (pe_and (pe_cmpR op_le (pe_ix ix_tup (pv 1) L2.pe_int (fun _ _ => rfl)) (pe_fld (pv 0) rfl) (nomark _)) (pe_one (pe_cmpR op_le (pe_fld (pv 0) rfl) (pe_ix ix_tup (pv 1) L2.pe_int (fun _ _ => rfl)) (nomark _)))))) pss_nil)
      (pss_cons (ps_if (pt_cmpR op_eq (pv 2) pe_str (nomark _)) (pss_one (ps_ret (pe_fld (pv 0) rfl))) pss_nil)
      (pss_cons (ps_if (pt_cmpR op_eq (pv 2) pe_str (nomark _)) (pss_one (ps_ret (pe_cmpR op_in_str (pe_ix ix_tup (pv 1) L2.pe_int (fun _ _ => rfl)) (pe_fld (pv 0) rfl) (by rfl)))) pss_nil)
      (pss_cons (ps_if (pt_cmpR op_eq (pv 2) pe_str (nomark _)) (pss_one (ps_ret (pe_cmpR op_eq (pe_fld (pv 0) rfl) (pe_ix ix_tup (pv 1) L2.pe_int (fun _ _ => rfl)) (nomark _)))) pss_nil)
      (pss_one (ps_ret pe_bl))))))), ?_⟩), hm, F.binds fun _ _ _ _ _ _ us hl => match us, hl with | [_, _], _ => rfl⟩
  · obtain ⟨p, k, last, x0, w, A, B, D, ad, v, rfl, _⟩ := h
    rfl
  · obtain ⟨p, k, last, x0, w, A, B, D, ad, v, rfl, ⟨dx, hp⟩, hA, hn, q⟩ := h
    cases ad with
    | all =>
      obtain ⟨r, rfl, sq⟩ := hA
      exact ⟨_, rfl, r, _, 0, _, rfl, rfl, sq, atI_nat (j := 0) rfl, _, rfl, rfl, _, rfl, if_fl (by decide +kernel) ⟨_, rfl, rfl, _, rfl, if_fl (by decide +kernel) ⟨_, rfl, rfl, _, rfl, if_fl (by decide +kernel) ⟨_, rfl, rfl, _, rfl, if_fl (by decide +kernel) ⟨_, rfl, rfl, _, rfl, if_fl (by decide +kernel) q⟩⟩⟩⟩⟩
    | line n =>
      obtain ⟨r, rfl, sq⟩ := hA
      refine ⟨_, rfl, r, _, 0, _, rfl, rfl, sq, atI_nat (j := 0) rfl, _, rfl, rfl, _, rfl, if_tr (by decide +kernel) ⟨_, rfl, p, CP, dx, _, _, rfl, hp, T.cl, T.n_number, pF_number _ _ _ _ _ _ _, _, rfl, r, _, 1, _, rfl, rfl, sq, atI_nat (j := 1) rfl, rfl, ?_⟩⟩
      rw [int_dec2]
      exact q
    | span a b =>
      obtain ⟨r, rfl, sq⟩ := hA
      refine ⟨_, rfl, r, _, 0, _, rfl, rfl, sq, atI_nat (j := 0) rfl, _, rfl, rfl, _, rfl, if_fl (by decide +kernel) ⟨_, rfl, rfl, _, rfl, if_tr (by decide +kernel) ?_⟩⟩
      have e : Vaseda.holds k last w.x (.span a b) = (decide ((a : Int) ≤ (k : Int)) && decide ((k : Int) ≤ (b : Int))) := by
        show decide (a ≤ k ∧ k ≤ b) = _
        rw [Bool.eq_iff_iff, decide_eq_true_eq, Bool.and_eq_true, decide_eq_true_eq, decide_eq_true_eq]
        omega
      rw [e] at q
      dsimp only [tRet]
      show tAndV _ _ _ _ _
      exact andV (c := decide ((a : Int) ≤ (k : Int))) (d := decide ((k : Int) ≤ (b : Int))) (fun R rr => ⟨_, rfl, r, _, 1, _, rfl, rfl, sq, atI_nat (j := 1) rfl, _, rfl, p, CP, dx, _, _, rfl, hp, T.cl, T.n_number, pF_number _ _ _ _ _ _ _, _, _, rfl, rfl, rr⟩)
        (fun _ R rr => ⟨_, rfl, p, CP, dx, _, _, rfl, hp, T.cl, T.n_number, pF_number _ _ _ _ _ _ _, _, rfl, r, _, 2, _, rfl, rfl, sq, atI_nat (j := 2) rfl, _, _, rfl, rfl, rr⟩) q
    | last =>
      obtain ⟨r, rfl, sq⟩ := hA
      exact ⟨_, rfl, r, _, 0, _, rfl, rfl, sq, atI_nat (j := 0) rfl, _, rfl, rfl, _, rfl, if_fl (by decide +kernel) ⟨_, rfl, rfl, _, rfl, if_fl (by decide +kernel) ⟨_, rfl, rfl, _, rfl, if_tr (by decide +kernel) ⟨_, rfl, p, CP, dx, _, _, rfl, hp, T.cl, T.n_is_last, pF_is_last _ _ _ _ _ _ _, q⟩⟩⟩⟩
    | has x =>
      obtain ⟨r, rfl, sq⟩ := hA
      refine ⟨_, rfl, r, _, 0, _, rfl, rfl, sq, atI_nat (j := 0) rfl, _, rfl, rfl, _, rfl, if_fl (by decide +kernel) ⟨_, rfl, rfl, _, rfl, if_fl (by decide +kernel) ⟨_, rfl, rfl, _, rfl, if_fl (by decide +kernel) ⟨_, rfl, rfl, _, rfl, if_tr (by decide +kernel) ⟨_, rfl, r, _, 1, _, rfl, rfl, sq, atI_nat (j := 1) rfl, _, rfl, p, CP, dx, _, _, rfl, hp, T.cl, T.n_line, pF_line _ _ _ _ _ _ _, _, _, rfl, rfl, ?_⟩⟩⟩⟩⟩
      rw [← has_eq]
      exact q
    | is_ x =>
      obtain ⟨r, rfl, sq⟩ := hA
      refine ⟨_, rfl, r, _, 0, _, rfl, rfl, sq, atI_nat (j := 0) rfl, _, rfl, rfl, _, rfl, if_fl (by decide +kernel) ⟨_, rfl, rfl, _, rfl, if_fl (by decide +kernel) ⟨_, rfl, rfl, _, rfl, if_fl (by decide +kernel) ⟨_, rfl, rfl, _, rfl, if_fl (by decide +kernel) ⟨_, rfl, rfl, _, rfl, if_tr (by decide +kernel) ⟨_, rfl, p, CP, dx, _, _, rfl, hp, T.cl, T.n_line, pF_line _ _ _ _ _ _ _, _, rfl, r, _, 1, _, rfl, rfl, sq, atI_nat (j := 1) rfl, rfl, ?_⟩⟩⟩⟩⟩⟩
      rw [str_dec]
      exact q
    | not b => exact absurd rfl (hn b)
theorem ok_holds (F : MF K CP "holds" "Passing.holds" (sPass 1)) (T : PassT K mg CP) (D : MD P w K mg base CX0 1 CP "holds_plainly" ["self", "address"] (spHoldsP K CP)) : MD P w K mg base CX0 2 CP "holds" ["self", "address"] (spHolds K CP) := by
  obtain ⟨f, fd, F, hm⟩ := F
  refine ⟨f, fd, F.ok scHolds (fun vs H Q E h => ?_) (fun cdv A outer s H vs Q E hr h => ⟨_, pss_cons (ps_set (i := 2) scHolds.nd rfl (Or.inl rfl) pe_bl)
      (pss_cons (ps_while PassesOwn.never (pt_cmpR op_eq (pe_ix ix_tup (pv 1) L2.pe_int (fun _ _ => rfl)) pe_str (nomark _))
        (pss_cons (ps_set (i := 2) scHolds.nd rfl (Or.inl rfl) (pe_not (pv 2))) (pss_one (ps_set (i := 1) scHolds.nd rfl (Or.inl rfl) (pe_ix ix_tup (pv 1) L2.pe_int (fun _ _ => rfl))))))
      (pss_one (ps_ret (pe_cmpR op_ne (pe_m D T.cl hr pass0 (pv 0) (pa_cons (pv 1) pa_nil)) (pv 2) (nomark _))))), ?_⟩), hm, F.binds fun _ _ _ _ _ _ us hl => match us, hl with | [_, _], _ => rfl⟩
  · obtain ⟨p, k, last, x0, w, A, B, D, ad, v, rfl, _⟩ := h
    rfl
  · obtain ⟨p, k, last, x0, w, A, B, D, ad, v, rfl, hP, hA, hok, q⟩ := h
    obtain ⟨dx, hp⟩ := id hP
    refine ⟨loopW (HoldS K p k last w.x ad H) Nat.succ, ⟨_, 3, ⟨ad, v, false, rfl, rfl, hA, hok, by cases Vaseda.holds k last w.x ad <;> rfl⟩, rfl⟩, ?_⟩
    rintro m σ H1 ⟨n, ⟨ad', v', b, rfl, rfl, hA1, hok1, eh⟩, rfl⟩
    obtain ⟨r, rs, rfl, sq⟩ := hA1.head
    refine ⟨_, rfl, r, _, 0, _, rfl, rfl, sq, atI_nat (j := 0) rfl, rfl, _, rfl, ?_⟩
    rw [not_word, str_dec]
    cases hn : (aWord ad' == word "not") with
    | true =>
      obtain ⟨a2, rfl⟩ := aWord_not hn
      obtain ⟨r', v2, e, sq2, hA2⟩ := hA1
      cases e
      obtain ⟨n2, rfl⟩ : ∃ n2, n = n2 + 1 := by
        cases n with
        | zero => exact absurd hok1 (fun z => z)
        | succ n2 => exact ⟨n2, rfl⟩
      refine iteT ⟨nextW (HoldS K p k last w.x ad H1) Nat.succ (n2 + 1), nextW_ok _ _ _, ?_⟩
      refine ⟨_, rfl, _, rfl, _, rfl, r, _, 1, _, rfl, rfl, sq2, atI_nat (j := 1) rfl, n2, ⟨a2, v2, !b, rfl, rfl, hA2, hok1, ?_⟩, Nat.lt_succ_self _⟩
      rw [eh]
      show ((!Vaseda.holds k last w.x a2) != b) = (Vaseda.holds k last w.x a2 != !b)
      cases Vaseda.holds k last w.x a2 <;> cases b <;> rfl
    | false =>
      refine iteF ⟨_, rfl, p, dx, _, rfl, hp, pF_no _ _ _ _ _ _ _ (by decide +kernel), _, rfl, p, k, last, x0, w, A, B, D, ad', _, rfl, hP, hA1, fun b2 z => ?_, _, rfl, rfl, ?_⟩
      · rw [z] at hn
        exact absurd (show (word "not" == word "not") = false from hn) (by decide +kernel)
      · rw [bl_ne, ← eh]
        exact q
theorem ok_becomes (F : MF K CP "becomes" "Passing.becomes" (sPass 3)) (T : PassT K mg CP) (TT : TooT K mg CT) (ml : mg "len" = none) (cL : GC mg "LONGEST_LINE" (.int 16)) : MD P w K mg base (L2.CX P w) 1 CP "becomes" ["self", "line"] (spBecomes CP CT) := by
  obtain ⟨f, fd, F, hm⟩ := F
  refine ⟨f, fd, F.okX scBecomes (fun vs H Q E h => ?_) (fun cdv A outer s H vs Q E hr h => ⟨_, pss_cons (ps_if (pt_cmpR op_gt (pe_callB call_len_str (by rfl) ml boot_len (pa_cons (pv 1) pa_nil)) (pe_gc cL) (nomark _))
        (pss_one (ps_raise rfl (takes_of rfl rfl rfl rfl) (pmk_own PySem.F.excBase_ValueError TT.x TT.g TT.k (raises_own TT.b TT.t) (by exact rfl)))) pss_nil)
      (pss_one (ps_fld (pv 0) (pv 1) rfl)), ?_⟩), hm, F.binds fun _ _ _ _ _ _ us hl => match us, hl with | [_, _], _ => rfl⟩
  · obtain ⟨p, k, last, x0, w, A, B, D, y, dx, rfl, _⟩ := h
    rfl
  · obtain ⟨p, k, last, x0, w, A, B, D, y, dx, rfl, hp, hy, q0, q1⟩ := h
    refine ⟨_, rfl, _, rfl, by rw [sT_len, sizeLine_eq]; omega, _, _, rfl, rfl, _, rfl, ?_⟩
    rw [sT_len]
    refine ite2 (fun c => ?_) fun c => ?_
    · exact q0 (by have : (16 : Int) < (y.length : Int) := by simpa using c
                   omega)
    · refine ⟨_, rfl, _, rfl, p, CP, dx, _, rfl, hp, T.cl, T.n_line, by show 10 < 1000; decide, ?_⟩
      rw [pF_put_line]
      exact q1 (by have : ¬ (16 : Int) < (y.length : Int) := by simpa using c
                   omega)
theorem ok_end (F : MF K CP "end" "Passing.end" (sPass 5)) (T : PassT K mg CP) : MD P w K mg base CX0 1 CP "end" ["self", "is_deleted"] (spEnd CP) := by
  obtain ⟨f, fd, F, hm⟩ := F
  refine ⟨f, fd, F.ok scEnd (fun vs H Q E h => ?_) (fun cdv A outer s H vs Q E hr h => ⟨_, pss_cons (ps_fld (pv 0) (pv 1) rfl) (pss_one (ps_fld (pv 0) pe_bl rfl)), ?_⟩), hm, F.binds fun _ _ _ _ _ _ us hl => match us, hl with | [_, _], _ => rfl⟩
  · obtain ⟨p, k, last, x0, w, A, B, D, g, dx, rfl, _⟩ := h
    rfl
  · obtain ⟨p, k, last, x0, w, A, B, D, g, dx, rfl, hp, q⟩ := h
    refine ⟨_, rfl, _, rfl, p, CP, dx, _, rfl, hp, T.cl, T.n_is_deleted, by show 10 < 1000; decide, ?_⟩
    rw [pF_put_is_deleted]
    refine ⟨_, rfl, p, CP, dx, _, rfl, upd_same, T.cl, T.n_is_over, by show 10 < 1000; decide, ?_⟩
    rw [pF_put_is_over, upd_upd]
    exact q
theorem ok_lines (F : MF K CP "lines" "Passing.lines" (sPass 6)) (T : PassT K mg CP) (cN : GC mg "NO_COMMAND" (.int (-1))) : MD P w K mg base CX0 1 CP "lines" ["self"] (spLines K CP) := by
  obtain ⟨f, fd, F, hm⟩ := F
  refine ⟨f, fd, F.ok scLines (fun vs H Q E h => ?_) (fun cdv A outer s H vs Q E hr h => ⟨_, C8.pss_cut (ps_set (i := 1) scLines.nd rfl (Or.inl rfl) (pe_ifExp (pt_val (pe_fld (pv 0) rfl)) (pe_lst pa_nil) (pe_lst (pa_cons (pe_tup (pa_cons (pe_fld (pv 0) rfl) (pa_cons (pe_gc cN) pa_nil))) pa_nil))))
      (pss_one (ps_ret (pe_op op_cat (pe_op op_cat (pe_fld (pv 0) rfl) (pv 1)) (pe_fld (pv 0) rfl)))), ?_⟩), hm, F.binds fun _ _ _ _ _ _ us hl => match us, hl with | [_], _ => rfl⟩
  · obtain ⟨p, k, last, x0, w, A, B, D, n, rfl, _⟩ := h
    rfl
  · obtain ⟨p, k, last, x0, w, A, B, D, n, rfl, hP, hW, hn, q⟩ := h
    obtain ⟨⟨dx, hp⟩, ⟨va, ha, hav⟩, ⟨vb, hb, hbv⟩, _⟩ := id hP
    have la := hav.1
    have lb := hbv.1
    have h1 := hW.pre.1
    have h2 := hW.post.1
    refine ⟨fun σ' H' => ∃ O vo, σ' = [some (.ref p), some (.ref O)] ∧ Same H H' ∧ H' O = some (.lst vo) ∧ OutsV K H' vo (if w.gone = true then [] else [⟨w.x, k, none⟩]) ∧ vo.length ≤ 1, ?_, ?_⟩
    · refine ⟨_, rfl, p, CP, dx, _, _, rfl, hp, T.cl, T.n_is_deleted, pF_is_deleted _ _ _ _ _ _ _, _, rfl, ?_⟩
      cases hg : w.gone with
      | true => exact iteT ⟨by show 0 ≤ sizeLine; decide, fun O hO => ⟨O, [], rfl, Same.upd hO, upd_same, OutsV.nil _ _, Nat.zero_le _⟩⟩
      | false =>
        refine iteF ⟨_, rfl, p, CP, dx, _, _, rfl, hp, T.cl, T.n_line, pF_line _ _ _ _ _ _ _, by show 2 ≤ sizeLine; decide, fun t ht => ⟨by show 1 ≤ sizeLine; decide, fun O hO => ⟨O, [.ref t], rfl, (Same.upd ht).trans (Same.upd hO), upd_same, ?_, Nat.le_refl _⟩⟩⟩
        exact OutsV.one ⟨t, rfl, SqT.of (Same.upd hO _ _ upd_same)⟩
    · rintro σ' H1 ⟨O, vo, rfl, s1, hO, hov, ho1⟩
      refine ⟨_, rfl, p, CP, dx, _, _, rfl, s1 _ _ hp, T.cl, T.n_put_ahead, pF_put_ahead _ _ _ _ _ _ _, _, rfl, A, O, _, _, rfl, rfl, s1 _ _ ha, hO, by rw [sizeLine_eq]; omega, fun p2 hp2 => ?_⟩
      have s2 := s1.trans (Same.upd (o := .lst (va ++ vo)) hp2)
      refine ⟨_, rfl, p, CP, dx, _, _, rfl, s2 _ _ hp, T.cl, T.n_put_behind, pF_put_behind _ _ _ _ _ _ _, p2, B, _, _, rfl, rfl, upd_same, s2 _ _ hb, by rw [List.length_append, sizeLine_eq]; omega, fun p3 hp3 => ?_⟩
      refine q p3 _ _ (s2.trans (Same.upd hp3)) (none_of s2 hp3) upd_same ?_
      unfold Vaseda.outOf
      rw [← List.append_assoc]
      have kt := Same.keepT (Same.upd (o := .lst (va ++ vo)) hp2)
      have kt3 : KeepT (upd H1 p2 (.lst (va ++ vo))) (upd (upd H1 p2 (.lst (va ++ vo))) p3 (.lst (va ++ vo ++ vb))) := KeepT.updn hp3
      exact ((((hav.keep (Same.keepT s1)).app hov).keep kt).app (hbv.keep (Same.keepT s2))).keep kt3
theorem ok_fate (F : MF K CP "fate" "Passing.fate" (sPass 7)) (T : PassT K mg CP) (mi : mg "int" = none) : MD P w K mg base CX0 1 CP "fate" ["self"] (spFate CP) := by
  obtain ⟨f, fd, F, hm⟩ := F
  refine ⟨f, fd, F.ok scFate (fun vs H Q E h => ?_) (fun cdv A outer s H vs Q E hr h => ⟨_, pss_cons (ps_if (pt_val (pe_fld (pv 0) rfl)) (pss_one (ps_ret L2.pe_int)) pss_nil)
      (pss_one (ps_ret (pe_callTy call_int1 (by rfl) mi (by decide +kernel) (pa_cons (pe_cmpR op_ne (pe_fld (pv 0) rfl) (pe_fld (pv 0) rfl) (nomark _)) pa_nil)))), ?_⟩), hm, F.binds fun _ _ _ _ _ _ us hl => match us, hl with | [_], _ => rfl⟩
  · obtain ⟨p, k, last, x0, w, A, B, D, rfl, _⟩ := h
    rfl
  · obtain ⟨p, k, last, x0, w, A, B, D, rfl, ⟨dx, hp⟩, q⟩ := h
    refine ⟨_, rfl, p, CP, dx, _, _, rfl, hp, T.cl, T.n_is_deleted, pF_is_deleted _ _ _ _ _ _ _, _, rfl, ?_⟩
    unfold fateOf at q
    cases hg : w.gone with
    | true =>
      rw [hg, if_pos rfl] at q
      exact iteT q
    | false =>
      rw [hg, if_neg (by decide)] at q
      refine iteF ⟨_, rfl, p, CP, dx, _, _, rfl, hp, T.cl, T.n_line, pF_line _ _ _ _ _ _ _, _, rfl, p, CP, dx, _, _, rfl, hp, T.cl, T.n_first, pF_first _ _ _ _ _ _ _, rfl, .inr ⟨_, rfl, ?_⟩⟩
      rw [str_dec]
      by_cases e : w.x = x0
      · rw [if_pos e] at q
        rw [beq_iff_eq.mpr e]
        exact q
      · rw [if_neg e] at q
        rw [beq_false_of_ne e]
        exact q
end
end Lsd
/-! Passing.change; stores to attributes among targets -/
namespace Lsd
open PySem PySem.Spec PyProof.Rows L2
open VasedBase hiding Tok
open Vaseda (Deed Cmd Work Out)
/-- no reader has booked a token: what the written part says of it -/
def NoB (K : PySem.W.Frag) : Prop := PySem.W.nsIn K cStatics sharingNotToldKey = some none
theorem nob_heap {K : PySem.W.Frag} {h : Heap} (hk : K.In h) (lim : h.NoLimit) (nb : NoB K) : NoneBooked h := by
  obtain ⟨mm, ns, _⟩ := lim
  refine ⟨mm, ns, ?_⟩
  obtain ⟨ob, ent, epo, got, dat, _, tells⟩ := ns
  rw [← tells]
  unfold NoB PySem.W.nsIn at nb
  cases look : K.lookup cStatics with
  | none => rw [look] at nb; cases nb
  | some oc =>
    have same := hk _ _ look
    rw [got] at same
    cases same
    obtain ⟨oa, ox, od, os⟩ := ob
    have ed : od = .dict ent epo := dat
    subst ed
    rw [look] at nb
    dsimp only at nb
    unfold nsFind findBy
    rw [← Array.find?_toList]
    cases fnd : ent.toList.find? (·.key.isStr sharingNotToldKey) with
    | none => rfl
    | some en => rw [fnd] at nb; cases nb
section
variable {X : Cx} {o e : Expr} {es : List Expr} {to : TE} {t : TAN} {name : Str} {apos cpos pos : Pos} {id : String}
/-- a method whose rule sees its arguments' own values -/
def MtU (X : Cx) (id : String) (r : V → List Value → List V → Hp → VK → Prop) : Prop :=
  ∀ (pins : List (PySem.Addr × Obj)) (s : Shared) (σ : L2.St) (H : Hp) (x : V) (xs : List V) (v : Value) (us : List Value) (Q : VK), Inv X pins σ H s → RelV x v → Vals xs us → r x us xs H Q → wpAny (model X.prog X.w) X.A (call (.builtin id) (v :: us)) (EP X pins σ Q) X.xe s
def tRaw (K : PySem.W.Frag) (r : V → List Value → List V → Hp → VK → Prop) (to : TE) (t : TAN) : TE := fun σ H Q => to σ H fun x H1 => tyV K "str" x H1 ∧ t 0 σ H1 fun _ us xs H2 => r x us xs H2 Q
theorem pe_raw {r : V → List Value → List V → Hp → VK → Prop} (slot : Slot "str" name id) (hty : typeOf (.builtin id) = pure (.type "method_descriptor")) (hm : MtU X id r) (ho : PE X o to) (ha : PAN X (e :: es) t)
    (hbase : attributeBase o name X.env (eval o X.env) = eval o X.env := by rfl)
    (hfew : ((backTo cpos (starEach (e :: es) X.env)).all (fun x => !x.1) && (backToKw cpos (keywordEach [] X.env)).all (fun x => x.1.isSome)
      && decide ((e :: es).length + ([] : List Keyword).length + (if ([] : List Keyword).isEmpty then 0 else 1) < 30)) = true := by rfl)
    (hline : (apos.endLine == cpos.line) = true := by rfl) (hs : starEach (e :: es) X.env = (false, eval e X.env) :: starEach es X.env := by rfl) (hplain : (backTo cpos (starEach es X.env)).any (·.1) = false := by rfl) :
    PE X (.Call (.Attribute o name apos) (e :: es) [] cpos) (tRaw X.K r to t) := by
  refine ⟨fun pins s σ H Q I h => ?_⟩
  refine wpAny_Call_method_late hbase hfew hline rfl (thn (ho.run pins s σ H _ I h) fun v s1 ⟨x, H1, I1, r1, ty, q1⟩ => ?_)
  obtain ⟨h1, h2⟩ := tyV_is I1 r1 ty
  refine ⟨"str", id, PySem.F.plainAttrs_str, slot, hty, h1, h2, ?_⟩
  have hA := ha.run cpos pins s1 σ H1 0 _ (Nat.zero_le _) I1 q1
  rw [hs] at hA ⊢
  refine Calls.callWith_builtin (by show (false || (backTo cpos (starEach es X.env)).any (·.1)) = false; rw [hplain] <;> rfl) (Calls.evalArgs_plain ?_)
  exact thn hA fun us s2 ⟨m, vs, H2, l2, I2, r2, q2⟩ => hm pins s2 σ H2 x vs v us Q I2 r1 r2 q2
/-- line.replace(a, b), line.replace(a, b, 1): the two texts are two objects -/
def rSwap : V → List Value → List V → Hp → VK → Prop := fun x us _ H Q => ∃ (l a b : Bytes) (t u : PySem.Tok), x = .str (sT l) ∧ t ≠ 0 ∧ u ≠ 0 ∧ t ≠ u ∧ 1 ≤ a.length ∧ l.length ≤ 1000 ∧ b.length ≤ 1000 ∧
  ((us = [.str (sT a) t, .str (sT b) u] ∧ Q (.str (sT (Vaseda.swapIn a b false l))) H) ∨ ∃ k, us = [.str (sT a) t, .str (sT b) u, .int 1 k] ∧ Q (.str (sT (Vaseda.swapIn a b true l))) H)
theorem mu_swap (nb : NoB X.K) : MtU X "str.replace" rSwap := by
  intro pins s σ H x xs v us Q I rx rs h
  obtain ⟨l, a, b, t, u, rfl, ht, hu, htu, ha, hl, hb, h⟩ := h
  obtain ⟨tx, rfl⟩ := (show ∃ tx, v = Value.str (sT l) tx from rx)
  have none := nob_heap I.kIn I.nolimit nb
  rcases h with ⟨rfl, q⟩ | ⟨k, rfl, q⟩
  · exact call_swap ht hu htu ha hl hb none fun t' k' => ⟨.str _, H, I.tok _, ⟨t', rfl⟩, q⟩
  · exact call_first ht hu htu ha hl hb none fun t' k' => ⟨.str _, H, I.tok _, ⟨t', rfl⟩, q⟩
/-- a store to an attribute among targets -/
def gFld (K : PySem.W.Frag) (to : TE) (f : Str) : TG := fun v σ H Q => to σ H fun x H1 => ∃ a C dx fs, x = .ref a ∧ H1 a = some (.ins C dx fs) ∧ Cls K C ∧ NoAttr K C f ∧ fs.length < 1000 ∧ Q σ (upd H1 a (.ins C dx (putF f v fs)))
theorem pg_fld {f : Str} (ho : PE X o to) : PG X (.Attribute o f pos) (gFld X.K to f) := by
  refine ⟨fun pins s σ H v u Q I r h => PySem.W.kas_attr (thn (ho.run pins s σ H _ I h) fun ov s1 ⟨x, H1, I1, r1, a, C, dx, fs, ex, ea, c, n, l, q⟩ => ?_)⟩
  subst ex
  obtain rfl : ov = Value.ref a := r1
  exact setattr_ok I1 ea c n l r fun s2 I2 => ⟨σ, _, I2, q⟩
end
/-! ### change -/
def newLine : Deed → Bytes → Bytes
  | .change y, _ => y
  | .swap a b, x => Vaseda.swapIn a b false x
  | .first a b, x => Vaseda.swapIn a b true x
  | _, x => x
def isCh : Deed → Prop
  | .change _ => True
  | .swap _ _ => True
  | .first _ _ => True
  | _ => False
theorem swap_len {a b x : Bytes} (ha : 1 ≤ a.length) : (Vaseda.swapIn a b false x).length ≤ x.length + (x.length + 1) * b.length := by
  have h := TK.replace_len (sT x) (sT a) (sT b)
  rw [swap_text ha, sT_len, sT_len, sT_len] at h
  exact h
theorem first_len {a b x : Bytes} (ha : 1 ≤ a.length) : (Vaseda.swapIn a b true x).length ≤ x.length + b.length := by
  unfold Vaseda.swapIn
  rcases StrLaws.occ_head (sT x) (sT a) 1 (Nat.le_refl 1) with ⟨e, hn⟩ | ⟨i, r, e, hA, hn⟩
  · rw [first_none _ x (Nat.lt_succ_self _) fun i q => hn i ((at_iff x a i).mpr q)]
    omega
  · obtain ⟨g1, g2⟩ := (at_iff x a i).mp hA
    rw [first_hit _ x i (Nat.lt_succ_self _) ha g1 g2 fun k hk q => hn k hk ((at_iff x a k).mpr q), List.length_append, List.length_append, List.length_take, List.length_drop]
    omega
theorem new_len {d : Deed} {x : Bytes} (hd : dOk d) (hx : x.length ≤ 16) : (newLine d x).length ≤ 1000 := by
  cases d with
  | change y => exact Nat.le_trans hd.2 (by decide)
  | swap a b =>
    have h := swap_len (b := b) (x := x) hd.1
    have h2 : (x.length + 1) * b.length ≤ 17 * 8 := Nat.mul_le_mul (by omega) hd.2.2
    show (Vaseda.swapIn a b false x).length ≤ 1000
    omega
  | first a b =>
    have h := first_len (b := b) (x := x) hd.1
    have := hd.2.2
    show (Vaseda.swapIn a b true x).length ≤ 1000
    omega
  | delete => exact Nat.le_trans hx (by decide)
  | before y => exact Nat.le_trans hx (by decide)
  | after y => exact Nat.le_trans hx (by decide)
  | keep => exact Nat.le_trans hx (by decide)
  | bring => exact Nat.le_trans hx (by decide)
  | trade => exact Nat.le_trans hx (by decide)
  | skip k => exact Nat.le_trans hx (by decide)
  | halt_ => exact Nat.le_trans hx (by decide)
def spChange (K : PySem.W.Frag) (CP CT : PySem.Addr) : Sp := fun vs H Q E => ∃ p k last x0 w A B D d v dx, vs = [.ref p, v] ∧ H p = some (.ins CP dx (pF k last x0 w A B D)) ∧ DeedAt K H d v ∧ dOk d ∧ isCh d ∧ w.x.length ≤ 16 ∧ (16 < (newLine d w.x).length → E (.ref CT) none H) ∧
  ((newLine d w.x).length ≤ 16 → Q .non (upd H p (.ins CP dx (pF k last x0 { w with x := newLine d w.x } A B D))))
theorem scChange : FnScope ["self", "deed"] ["self", "deed"] (defScope (sPass 4)) := ⟨rfl, rfl, rfl, by decide +kernel, rfl, by decide +kernel, by decide +kernel⟩
section
variable {P : Program} {w : World} {K : PySem.W.Frag} {mg : Str → Option Value} {base : Heap} {CP CT : PySem.Addr}
theorem ok_change (F : MF K CP "change" "Passing.change" (sPass 4)) (T : PassT K mg CP) (nb : NoB K) (D1 : MD P w K mg base (L2.CX P w) 1 CP "becomes" ["self", "line"] (spBecomes CP CT)) : MD P w K mg base (L2.CX P w) 2 CP "change" ["self", "deed"] (spChange K CP CT) := by
  obtain ⟨f, fd, F, hm⟩ := F
  refine ⟨f, fd, F.okX scChange (fun vs H Q E h => ?_) (fun cdv A outer s H vs Q E hr h => ⟨_, pss_one (ps_if (pt_cmpR op_eq (pe_ix ix_tup (pv 1) L2.pe_int (fun _ _ => rfl)) pe_str (nomark _))
      (pss_one (ps_expr (pe_m D1 T.cl hr (passW (takes_of rfl rfl rfl rfl)) (pv 0) (pa_cons (pe_ix ix_tup (pv 1) L2.pe_int (fun _ _ => rfl)) pa_nil))))
      (pss_one (ps_if (pt_cmpR op_eq (pe_ix ix_tup (pv 1) L2.pe_int (fun _ _ => rfl)) pe_str (nomark _))
        (pss_one (ps_expr (pe_m D1 T.cl hr (passW (takes_of rfl rfl rfl rfl)) (pv 0) (pa_cons (pe_raw PySem.F.slot_str_replace PySem.F.type_str_replace (mu_swap nb) (pe_fld (pv 0) rfl) (pan_cons (pen_item (j := 1) (pv 1)) (pan_cons (pen_item (j := 2) (pv 1)) pan_nil))) pa_nil))))
        (pss_one (ps_expr (pe_m D1 T.cl hr (passW (takes_of rfl rfl rfl rfl)) (pv 0) (pa_cons (pe_raw PySem.F.slot_str_replace PySem.F.type_str_replace (mu_swap nb) (pe_fld (pv 0) rfl) (pan_cons (pen_item (j := 1) (pv 1)) (pan_cons (pen_item (j := 2) (pv 1)) (pan_cons (pen_of L2.pe_int) pan_nil)))) pa_nil))))))), ?_⟩), hm, F.binds fun _ _ _ _ _ _ us hl => match us, hl with | [_, _], _ => rfl⟩
  · obtain ⟨p, k, last, x0, w, A, B, D, d, v, dx, rfl, _⟩ := h
    rfl
  · obtain ⟨p, k, last, x0, w, A, B, D, d, v, dx, rfl, hp, ⟨r, rfl, sq, tk⟩, hd, hc, hx, q0, q1⟩ := h
    have hnl := new_len hd hx
    cases d with
    | change y =>
      have sq : SqT K H r [.str (sT (word "change")), .str (sT y)] := sq
      exact ⟨_, rfl, r, _, 0, _, rfl, rfl, sq, atI_nat (j := 0) rfl, rfl, _, rfl, if_tr (by decide +kernel) ⟨_, rfl, p, dx, _, rfl, hp, pF_no _ _ _ _ _ _ _ (by decide +kernel), _, rfl, r, _, 1, _, rfl, rfl, sq, atI_nat (j := 1) rfl, p, k, last, x0, w, A, B, D, y, dx, rfl, hp, hnl, q0, q1⟩⟩
    | swap a b =>
      have sq : SqT K H r [.str (sT (word "swap")), .str (sT a), .str (sT b)] := sq
      obtain ⟨us, t, u, hf, hu1, hu2, ht, hu, htu⟩ := tk
      refine ⟨_, rfl, r, _, 0, _, rfl, rfl, sq, atI_nat (j := 0) rfl, rfl, _, rfl, if_fl (by decide +kernel) ⟨_, rfl, r, _, 0, _, rfl, rfl, sq, atI_nat (j := 0) rfl, rfl, _, rfl, if_tr (by decide +kernel) ?_⟩⟩
      refine ⟨_, rfl, p, dx, _, rfl, hp, pF_no _ _ _ _ _ _ _ (by decide +kernel), _, rfl, p, CP, dx, _, _, rfl, hp, T.cl, T.n_line, pF_line _ _ _ _ _ _ _, rfl, ?_⟩
      refine ⟨_, rfl, r, _, us, _, _, rfl, hf, hu1, rfl, _, rfl, r, _, us, _, _, rfl, hf, hu2, rfl, ?_⟩
      exact ⟨w.x, a, b, t, u, rfl, ht, hu, htu, hd.1, Nat.le_trans hx (by decide), Nat.le_trans hd.2.2 (by decide), .inl ⟨rfl, p, k, last, x0, w, A, B, D, _, dx, rfl, hp, hnl, q0, q1⟩⟩
    | first a b =>
      have sq : SqT K H r [.str (sT (word "first")), .str (sT a), .str (sT b)] := sq
      obtain ⟨us, t, u, hf, hu1, hu2, ht, hu, htu⟩ := tk
      refine ⟨_, rfl, r, _, 0, _, rfl, rfl, sq, atI_nat (j := 0) rfl, rfl, _, rfl, if_fl (by decide +kernel) ⟨_, rfl, r, _, 0, _, rfl, rfl, sq, atI_nat (j := 0) rfl, rfl, _, rfl, if_fl (by decide +kernel) ?_⟩⟩
      refine ⟨_, rfl, p, dx, _, rfl, hp, pF_no _ _ _ _ _ _ _ (by decide +kernel), _, rfl, p, CP, dx, _, _, rfl, hp, T.cl, T.n_line, pF_line _ _ _ _ _ _ _, rfl, ?_⟩
      refine ⟨_, rfl, r, _, us, _, _, rfl, hf, hu1, rfl, _, rfl, r, _, us, _, _, rfl, hf, hu2, rfl, fun u3 hu3 => ?_⟩
      obtain ⟨k3, rfl⟩ := (show ∃ k3, u3 = Value.int 1 k3 from hu3)
      exact ⟨w.x, a, b, t, u, rfl, ht, hu, htu, hd.1, Nat.le_trans hx (by decide), Nat.le_trans hd.2.2 (by decide), .inr ⟨k3, rfl, p, k, last, x0, w, A, B, D, _, dx, rfl, hp, hnl, q0, q1⟩⟩
    | delete => exact hc.elim
    | before y => exact hc.elim
    | after y => exact hc.elim
    | keep => exact hc.elim
    | bring => exact hc.elim
    | trade => exact hc.elim
    | skip k => exact hc.elim
    | halt_ => exact hc.elim
end
end Lsd
/-! Run: how it lies in the heap; act -/
namespace Lsd
open PySem PySem.Spec PyProof.Rows L2
open VasedBase hiding Tok
open Vaseda (Deed Cmd Work Out)
def rnF (held : Bytes) (L : PySem.Addr) : List (Str × V) := [("held", .str (sT held)), ("passed", .ref L)]
theorem rnF_held (h : Bytes) (L : PySem.Addr) : (rnF h L).lookup ("held" : Str) = some (.str (sT h)) := lkp_here
theorem rnF_passed (h : Bytes) (L : PySem.Addr) : (rnF h L).lookup ("passed" : Str) = some (.ref L) := (lkp_past (by decide +kernel)).trans lkp_here
theorem rnF_put (h y : Bytes) (L : PySem.Addr) : putF "held" (.str (sT y)) (rnF h L) = rnF y L := putF_here
theorem rnF_no {m : Str} (h : Bytes) (L : PySem.Addr) (e : (["held", "passed"] : List Str).all (fun g => !(m == g)) = true) : (rnF h L).lookup m = none := lkp_no _ e
structure RunT (K : PySem.W.Frag) (mg : Str → Option Value) (CRn : PySem.Addr) : Prop where
  cl : Cls K CRn
  gl : mg "Run" = some (.ref CRn)
  n_held : NoAttr K CRn "held"
  n_passed : NoAttr K CRn "passed"
def RunO (CRn : PySem.Addr) (H : Hp) (r : PySem.Addr) (held : Bytes) (L : PySem.Addr) : Prop := ∃ dr, H r = some (.ins CRn dr (rnF held L))
theorem ins_ne {H : Hp} {p r CP CRn dx dr L A B D : PySem.Addr} {k : Nat} {last : Bool} {x0 held : Bytes} {w : Work} (hp : H p = some (.ins CP dx (pF k last x0 w A B D))) (hr : H r = some (.ins CRn dr (rnF held L))) : r ≠ p := by
  rintro rfl
  rw [hp] at hr
  have h := congrArg (fun o : Option HO => match o with
    | some (.ins _ _ fs) => fs.length
    | _ => 0) hr
  cases h
theorem lst_ne {H : Hp} {a r C dr : PySem.Addr} {fs : List (Str × V)} {xs : List V} (hr : H r = some (.ins C dr fs)) (ha : H a = some (.lst xs)) : a ≠ r := fun z => by rw [z, hr] at ha; cases ha
section
variable {K : PySem.W.Frag} {CP : PySem.Addr} {H : Hp} {p : PySem.Addr} {k : Nat} {last : Bool} {x0 : Bytes} {w w2 : Work} {A B D dx : PySem.Addr}
theorem PassX.store (h : PassX K CP H p k last x0 w A B D) (e1 : w2.pre = w.pre) (e2 : w2.post = w.post) (e3 : w2.did = w.did) : PassX K CP (upd H p (.ins CP dx (pF k last x0 w2 A B D))) p k last x0 w2 A B D := by
  obtain ⟨⟨dx0, h1⟩, ⟨va, h2, h3⟩, ⟨vb, h4, h5⟩, h6, n1, n2, n3⟩ := h
  have kt := KeepT.updi (o := .ins CP dx (pF k last x0 w2 A B D)) h1
  exact ⟨⟨dx, upd_same⟩, ⟨va, (upd_ne (lst_ne h1 h2)).trans h2, by rw [e1]; exact h3.keep kt⟩, ⟨vb, (upd_ne (lst_ne h1 h4)).trans h4, by rw [e2]; exact h5.keep kt⟩, by rw [e3]; exact (upd_ne (lst_ne h1 h6)).trans h6, n1, n2, n3⟩
theorem PassX.ahead {va : List V} {v : V} {o : Out} (h : PassX K CP H p k last x0 w A B D) (ha : H A = some (.lst va)) (hv : OutsV K H va w.pre) (ho : OutV K H o v) : PassX K CP (upd H A (.lst (va ++ [v]))) p k last x0 { w with pre := w.pre ++ [o] } A B D := by
  obtain ⟨⟨dx0, h1⟩, _, ⟨vb, h4, h5⟩, h6, n1, n2, n3⟩ := h
  have kt := KeepT.updl (o := .lst (va ++ [v])) ha
  exact ⟨⟨dx0, (upd_ne (Ne.symm (lst_ne h1 ha))).trans h1⟩, ⟨_, upd_same, (hv.keep kt).app (OutsV.one (ho.keep kt))⟩, ⟨vb, (upd_ne (Ne.symm n1)).trans h4, h5.keep kt⟩, (upd_ne (Ne.symm n2)).trans h6, n1, n2, n3⟩
theorem PassX.behind {vb : List V} {v : V} {o : Out} (h : PassX K CP H p k last x0 w A B D) (hb : H B = some (.lst vb)) (hv : OutsV K H vb w.post) (ho : OutV K H o v) : PassX K CP (upd H B (.lst (vb ++ [v]))) p k last x0 { w with post := w.post ++ [o] } A B D := by
  obtain ⟨⟨dx0, h1⟩, ⟨va, h2, h3⟩, _, h6, n1, n2, n3⟩ := h
  have kt := KeepT.updl (o := .lst (vb ++ [v])) hb
  exact ⟨⟨dx0, (upd_ne (Ne.symm (lst_ne h1 hb))).trans h1⟩, ⟨va, (upd_ne n1).trans h2, h3.keep kt⟩, ⟨_, upd_same, (hv.keep kt).app (OutsV.one (ho.keep kt))⟩, (upd_ne (Ne.symm n3)).trans h6, n1, n2, n3⟩
theorem PassX.doing {i : Nat} (h : PassX K CP H p k last x0 w A B D) : PassX K CP (upd H D (.lst (natsV w.did ++ [.int (i : Int)]))) p k last x0 { w with did := w.did ++ [i] } A B D := by
  obtain ⟨⟨dx0, h1⟩, ⟨va, h2, h3⟩, ⟨vb, h4, h5⟩, h6, n1, n2, n3⟩ := h
  have kt := KeepT.updl (o := .lst (natsV w.did ++ [.int (i : Int)])) h6
  exact ⟨⟨dx0, (upd_ne (Ne.symm (lst_ne h1 h6))).trans h1⟩, ⟨va, (upd_ne n2).trans h2, h3.keep kt⟩, ⟨vb, (upd_ne n3).trans h4, h5.keep kt⟩, by rw [upd_same]; simp [natsV], n1, n2, n3⟩
/-- where a line's working stores: nothing of it is a tuple -/
theorem act_notT {CRn r L : PySem.Addr} {held : Bytes} (hr : RunO CRn H r held L) (h : PassX K CP H p k last x0 w A B D) : ∀ x ∈ [r, p, A, B, D], (∀ xs, H x ≠ some (.tup xs)) ∧ ∀ o u, H x ≠ some (.frz o u) := by
  obtain ⟨⟨dx0, h1⟩, ⟨va, h2, h3⟩, ⟨vb, h4, h5⟩, h6, n1, n2, n3⟩ := h
  obtain ⟨dr, h0⟩ := hr
  intro x hx
  have hx' : x = r ∨ x = p ∨ x = A ∨ x = B ∨ x = D := by simpa using hx
  rcases hx' with rfl | rfl | rfl | rfl | rfl
  · exact ⟨fun xs z => (by rw [h0] at z; cases z), fun o u z => (by rw [h0] at z; cases z)⟩
  · exact ⟨fun xs z => (by rw [h1] at z; cases z), fun o u z => (by rw [h1] at z; cases z)⟩
  · exact ⟨fun xs z => (by rw [h2] at z; cases z), fun o u z => (by rw [h2] at z; cases z)⟩
  · exact ⟨fun xs z => (by rw [h4] at z; cases z), fun o u z => (by rw [h4] at z; cases z)⟩
  · exact ⟨fun xs z => (by rw [h6] at z; cases z), fun o u z => (by rw [h6] at z; cases z)⟩
end
abbrev sRun (j : Nat) : Stmt := inClass (top 56) j
theorem scAct : FnScope ["self", "number", "deed", "passing", "what"] ["self", "number", "deed", "passing"] (defScope (sRun 2)) := ⟨rfl, rfl, rfl, by decide +kernel, rfl, by decide +kernel, by decide +kernel⟩
def spAct (K : PySem.W.Frag) (CP CRn CT : PySem.Addr) : Sp := fun vs H Q E => ∃ r i v p held L k last x0 w A B D d n, vs = [.ref r, .int (i : Nat), v, .ref p] ∧ RunO CRn H r held L ∧ DeedAt K H d v ∧ dOk d ∧ PassX K CP H p k last x0 w A B D ∧ w.held = held ∧ WOk k n w ∧ n ≤ 1000 ∧ w.halt = false ∧
  ((Vaseda.deed k i w d).bad = true → TooK CT E [r, p, A, B, D] H) ∧
  ((Vaseda.deed k i w d).bad = false → ∀ H', Keep [r, p, A, B, D] H H' → RunO CRn H' r (Vaseda.deed k i w d).held L → PassX K CP H' p k last x0 (Vaseda.deed k i w d) A B D → Q .non H')
section
variable {P : Program} {w : World} {K : PySem.W.Frag} {mg : Str → Option Value} {base : Heap} {CP CRn CT : PySem.Addr}
theorem ok_act (F : MF K CRn "act" "Run.act" (sRun 2)) (TR : RunT K mg CRn) (T : PassT K mg CP) (D1 : MD P w K mg base CX0 1 CP "end" ["self", "is_deleted"] (spEnd CP)) (D2 : MD P w K mg base (L2.CX P w) 2 CP "change" ["self", "deed"] (spChange K CP CT)) : MD P w K mg base (L2.CX P w) 3 CRn "act" ["self", "number", "deed", "passing"] (spAct K CP CRn CT) := by
  obtain ⟨f, fd, F, hm⟩ := F
  refine ⟨f, fd, F.okX scAct (fun vs H Q E h => ?_) (fun cdv A outer s H vs Q E hr h => ⟨_, pss_cons (ps_set (i := 4) scAct.nd rfl (Or.inl rfl) (pe_ix ix_tup (pv 2) L2.pe_int (fun _ _ => rfl)))
      (pss_one (ps_if (pt_cmpR op_in_seq (pv 4) (pe_tup (pa_cons pe_str (pa_cons pe_str pa_nil))) (by rfl)) (pss_one (ps_expr (pe_m D1 T.cl (hr.mono (by decide)) pass0 (pv 3) (pa_cons (pe_cmpR op_eq (pv 4) pe_str (nomark _)) pa_nil))))
      (pss_one (ps_if (pt_cmpR op_eq (pv 4) pe_str (nomark _)) (pss_one (ps_expr (pe_bm PySem.F.plainAttrs_list PySem.F.slot_list_append PySem.F.type_list_append mt_append (pe_fld (pv 3) rfl) (pa_cons (pe_tup (pa_cons (pe_ix ix_tup (pv 2) L2.pe_int (fun _ _ => rfl)) (pa_cons (pv 1) pa_nil))) pa_nil))))
      (pss_one (ps_if (pt_cmpR op_eq (pv 4) pe_str (nomark _)) (pss_one (ps_expr (pe_bm PySem.F.plainAttrs_list PySem.F.slot_list_append PySem.F.type_list_append mt_append (pe_fld (pv 3) rfl) (pa_cons (pe_tup (pa_cons (pe_ix ix_tup (pv 2) L2.pe_int (fun _ _ => rfl)) (pa_cons (pv 1) pa_nil))) pa_nil))))
      (pss_one (ps_if (pt_cmpR op_eq (pv 4) pe_str (nomark _)) (pss_one (ps_expr (pe_bm PySem.F.plainAttrs_list PySem.F.slot_list_append PySem.F.type_list_append mt_append (pe_fld (pv 3) rfl) (pa_cons (pe_tup (pa_cons (pe_fld (pv 0) rfl) (pa_cons (pv 1) pa_nil))) pa_nil))))
      (pss_one (ps_if (pt_cmpR op_eq (pv 4) pe_str (nomark _)) (pss_one (ps_fld (pv 0) (pe_fld (pv 3) rfl) rfl))
      (pss_one (ps_if (pt_cmpR op_eq (pv 4) pe_str (nomark _)) (pss_one (ps_asg (pe_tup (pa_cons (pe_fld (pv 3) rfl) (pa_cons (pe_fld (pv 0) rfl) pa_nil))) (pg_tup (n := 2) rfl (pgs_cons (pg_fld (pv 0)) (pgs_cons (pg_fld (pv 3)) pgs_nil)))))
      (pss_one (ps_if (pt_cmpR op_eq (pv 4) pe_str (nomark _)) (pss_one (ps_fld (pv 3) (pe_ix ix_tup (pv 2) L2.pe_int (fun _ _ => rfl)) rfl))
      (pss_one (ps_expr (pe_m D2 T.cl hr (passW (takes_of rfl rfl rfl rfl)) (pv 3) (pa_cons (pv 2) pa_nil)))))))))))))))))), ?_⟩), hm, F.binds fun _ _ _ _ _ _ us hl => match us, hl with | [_, _, _, _], _ => rfl⟩
  · obtain ⟨r, i, v, p, held, L, k, last, x0, w, A, B, D, d, n, rfl, _⟩ := h
    rfl
  · obtain ⟨r, i, v, p, held, L, k, last, x0, w, A, B, D, d, n, rfl, ⟨dr, hrr⟩, ⟨q, rfl, sq, tk⟩, hd, hP, rfl, hW, hn, hh, q0, q1⟩ := h
    cases d with
    | delete =>
      have sq : SqT K H q [.str (sT (word "delete"))] := sq
      refine ⟨_, rfl, q, _, 0, _, rfl, rfl, sq, atI_nat (j := 0) rfl, _, rfl, by show 2 ≤ sizeLine; decide, fun p2 hp2 => ⟨p2, _, rfl, .inr (SqT.of upd_same), rfl, rfl, _, rfl, ?_⟩⟩
      have s1 := Same.upd (o := .tup [.str "delete", .str "stop"]) hp2
      generalize upd H p2 (.tup [.str "delete", .str "stop"]) = H1 at s1 ⊢
      have hr1 := s1 _ _ hrr
      have hP1 := hP.same s1
      have sq1 := (Same.keepT s1).sq sq
      obtain ⟨⟨dx, hp⟩, ⟨va, ha, hav⟩, ⟨vb, hb, hbv⟩, hdd, nab, nad, nbd⟩ := id hP1
      have la := hav.1
      have lb := hbv.1
      have w1 := hW.pre.1
      have w2 := hW.post.1
      have npr := ins_ne hp hr1
      have kS : Keep [r, p, A, B, D] H H1 := Keep.of s1
      refine if_tr (by decide +kernel) ⟨_, rfl, p, dx, _, rfl, hp, pF_no _ _ _ _ _ _ _ (by decide +kernel), _, rfl, rfl, ?_⟩
      have eg : decide (V.str (sT (word "delete")) = V.str (Str.ofString "delete")) = true := by decide +kernel
      rw [eg]
      refine ⟨p, k, last, x0, w, A, B, D, true, dx, rfl, hp, ?_⟩
      exact q1 hW.bad _ (kS.trans (Keep.upd (.inr (by simp)))) ⟨dr, (upd_ne npr).trans hr1⟩ (hP1.store rfl rfl rfl)
    | halt_ =>
      have sq : SqT K H q [.str (sT (word "stop"))] := sq
      refine ⟨_, rfl, q, _, 0, _, rfl, rfl, sq, atI_nat (j := 0) rfl, _, rfl, by show 2 ≤ sizeLine; decide, fun p2 hp2 => ⟨p2, _, rfl, .inr (SqT.of upd_same), rfl, rfl, _, rfl, ?_⟩⟩
      have s1 := Same.upd (o := .tup [.str "delete", .str "stop"]) hp2
      generalize upd H p2 (.tup [.str "delete", .str "stop"]) = H1 at s1 ⊢
      have hr1 := s1 _ _ hrr
      have hP1 := hP.same s1
      have sq1 := (Same.keepT s1).sq sq
      obtain ⟨⟨dx, hp⟩, ⟨va, ha, hav⟩, ⟨vb, hb, hbv⟩, hdd, nab, nad, nbd⟩ := id hP1
      have la := hav.1
      have lb := hbv.1
      have w1 := hW.pre.1
      have w2 := hW.post.1
      have npr := ins_ne hp hr1
      have kS : Keep [r, p, A, B, D] H H1 := Keep.of s1
      refine if_tr (by decide +kernel) ⟨_, rfl, p, dx, _, rfl, hp, pF_no _ _ _ _ _ _ _ (by decide +kernel), _, rfl, rfl, ?_⟩
      have eg : decide (V.str (sT (word "stop")) = V.str (Str.ofString "delete")) = false := by decide +kernel
      rw [eg]
      refine ⟨p, k, last, x0, w, A, B, D, false, dx, rfl, hp, ?_⟩
      have hg : w.gone = false := by
        cases e : w.gone with
        | false => rfl
        | true => rw [hW.gone e] at hh; cases hh
      have ew : ({ w with gone := false, halt := true } : Work) = Vaseda.deed k i w .halt_ := by
        show _ = ({ w with halt := true } : Work)
        rw [← hg]
      rw [ew]
      exact q1 hW.bad _ (kS.trans (Keep.upd (.inr (by simp)))) ⟨dr, (upd_ne npr).trans hr1⟩ (hP1.store rfl rfl rfl)
    | before y =>
      have sq : SqT K H q [.str (sT (word "before")), .str (sT y)] := sq
      refine ⟨_, rfl, q, _, 0, _, rfl, rfl, sq, atI_nat (j := 0) rfl, _, rfl, by show 2 ≤ sizeLine; decide, fun p2 hp2 => ⟨p2, _, rfl, .inr (SqT.of upd_same), rfl, rfl, _, rfl, ?_⟩⟩
      have s1 := Same.upd (o := .tup [.str "delete", .str "stop"]) hp2
      generalize upd H p2 (.tup [.str "delete", .str "stop"]) = H1 at s1 ⊢
      have hr1 := s1 _ _ hrr
      have hP1 := hP.same s1
      have sq1 := (Same.keepT s1).sq sq
      obtain ⟨⟨dx, hp⟩, ⟨va, ha, hav⟩, ⟨vb, hb, hbv⟩, hdd, nab, nad, nbd⟩ := id hP1
      have la := hav.1
      have lb := hbv.1
      have w1 := hW.pre.1
      have w2 := hW.post.1
      have npr := ins_ne hp hr1
      have kS : Keep [r, p, A, B, D] H H1 := Keep.of s1
      refine if_fl (by decide +kernel) ?_
      refine ⟨_, rfl, rfl, _, rfl, if_tr (by decide +kernel) ?_⟩
      refine ⟨_, rfl, p, CP, dx, _, _, rfl, hp, T.cl, T.n_put_ahead, pF_put_ahead _ _ _ _ _ _ _, .inl ⟨rfl, _, SqL.of ha⟩, _, rfl, q, _, 1, _, rfl, rfl, sq1, atI_nat (j := 1) rfl, _, rfl, by show 2 ≤ sizeLine; decide, fun t ht => ?_⟩
      have s2 := Same.upd (o := .tup [.str (sT y), .int (i : Int)]) ht
      refine ⟨A, va, _, rfl, rfl, s2 _ _ ha, by rw [sizeLine_eq]; omega, ?_⟩
      exact q1 hW.bad _ ((kS.trans (Keep.of s2)).trans (Keep.upd (.inr (by simp)))) ⟨dr, (upd_ne (Ne.symm (lst_ne (s2 _ _ hr1) (s2 _ _ ha)))).trans (s2 _ _ hr1)⟩ ((hP1.same s2).ahead (s2 _ _ ha) (hav.keep (Same.keepT s2)) (o := ⟨y, k, some i⟩) ⟨t, rfl, SqT.of upd_same⟩)
    | after y =>
      have sq : SqT K H q [.str (sT (word "after")), .str (sT y)] := sq
      refine ⟨_, rfl, q, _, 0, _, rfl, rfl, sq, atI_nat (j := 0) rfl, _, rfl, by show 2 ≤ sizeLine; decide, fun p2 hp2 => ⟨p2, _, rfl, .inr (SqT.of upd_same), rfl, rfl, _, rfl, ?_⟩⟩
      have s1 := Same.upd (o := .tup [.str "delete", .str "stop"]) hp2
      generalize upd H p2 (.tup [.str "delete", .str "stop"]) = H1 at s1 ⊢
      have hr1 := s1 _ _ hrr
      have hP1 := hP.same s1
      have sq1 := (Same.keepT s1).sq sq
      obtain ⟨⟨dx, hp⟩, ⟨va, ha, hav⟩, ⟨vb, hb, hbv⟩, hdd, nab, nad, nbd⟩ := id hP1
      have la := hav.1
      have lb := hbv.1
      have w1 := hW.pre.1
      have w2 := hW.post.1
      have npr := ins_ne hp hr1
      have kS : Keep [r, p, A, B, D] H H1 := Keep.of s1
      refine if_fl (by decide +kernel) ?_
      refine ⟨_, rfl, rfl, _, rfl, if_fl (by decide +kernel) ?_⟩
      refine ⟨_, rfl, rfl, _, rfl, if_tr (by decide +kernel) ?_⟩
      refine ⟨_, rfl, p, CP, dx, _, _, rfl, hp, T.cl, T.n_put_behind, pF_put_behind _ _ _ _ _ _ _, .inl ⟨rfl, _, SqL.of hb⟩, _, rfl, q, _, 1, _, rfl, rfl, sq1, atI_nat (j := 1) rfl, _, rfl, by show 2 ≤ sizeLine; decide, fun t ht => ?_⟩
      have s2 := Same.upd (o := .tup [.str (sT y), .int (i : Int)]) ht
      refine ⟨B, vb, _, rfl, rfl, s2 _ _ hb, by rw [sizeLine_eq]; omega, ?_⟩
      exact q1 hW.bad _ ((kS.trans (Keep.of s2)).trans (Keep.upd (.inr (by simp)))) ⟨dr, (upd_ne (Ne.symm (lst_ne (s2 _ _ hr1) (s2 _ _ hb)))).trans (s2 _ _ hr1)⟩ ((hP1.same s2).behind (s2 _ _ hb) (hbv.keep (Same.keepT s2)) (o := ⟨y, k, some i⟩) ⟨t, rfl, SqT.of upd_same⟩)
    | change y =>
      have sq : SqT K H q [.str (sT (word "change")), .str (sT y)] := sq
      refine ⟨_, rfl, q, _, 0, _, rfl, rfl, sq, atI_nat (j := 0) rfl, _, rfl, by show 2 ≤ sizeLine; decide, fun p2 hp2 => ⟨p2, _, rfl, .inr (SqT.of upd_same), rfl, rfl, _, rfl, ?_⟩⟩
      have s1 := Same.upd (o := .tup [.str "delete", .str "stop"]) hp2
      generalize upd H p2 (.tup [.str "delete", .str "stop"]) = H1 at s1 ⊢
      have hr1 := s1 _ _ hrr
      have hP1 := hP.same s1
      have sq1 := (Same.keepT s1).sq sq
      obtain ⟨⟨dx, hp⟩, ⟨va, ha, hav⟩, ⟨vb, hb, hbv⟩, hdd, nab, nad, nbd⟩ := id hP1
      have la := hav.1
      have lb := hbv.1
      have w1 := hW.pre.1
      have w2 := hW.post.1
      have npr := ins_ne hp hr1
      have kS : Keep [r, p, A, B, D] H H1 := Keep.of s1
      refine if_fl (by decide +kernel) ?_
      refine ⟨_, rfl, rfl, _, rfl, if_fl (by decide +kernel) ?_⟩
      refine ⟨_, rfl, rfl, _, rfl, if_fl (by decide +kernel) ?_⟩
      refine ⟨_, rfl, rfl, _, rfl, if_fl (by decide +kernel) ?_⟩
      refine ⟨_, rfl, rfl, _, rfl, if_fl (by decide +kernel) ?_⟩
      refine ⟨_, rfl, rfl, _, rfl, if_fl (by decide +kernel) ?_⟩
      refine ⟨_, rfl, rfl, _, rfl, if_fl (by decide +kernel) ?_⟩
      refine ⟨_, rfl, p, dx, _, rfl, hp, pF_no _ _ _ _ _ _ _ (by decide +kernel), _, rfl, ?_⟩
      have hy : y.length ≤ 16 := Nat.le_trans hd.2 (by decide)
      refine ⟨p, k, last, x0, w, A, B, D, .change y, _, dx, rfl, hp, ⟨q, rfl, sq1, trivial⟩, hd, trivial, hW.x, fun z => absurd z (Nat.not_lt.mpr hy), fun _ => ?_⟩
      exact q1 hW.bad _ (kS.trans (Keep.upd (.inr (by simp)))) ⟨dr, (upd_ne npr).trans hr1⟩ (hP1.store (w2 := { w with x := y }) rfl rfl rfl)
    | swap a b =>
      have sq : SqT K H q [.str (sT (word "swap")), .str (sT a), .str (sT b)] := sq
      refine ⟨_, rfl, q, _, 0, _, rfl, rfl, sq, atI_nat (j := 0) rfl, _, rfl, by show 2 ≤ sizeLine; decide, fun p2 hp2 => ⟨p2, _, rfl, .inr (SqT.of upd_same), rfl, rfl, _, rfl, ?_⟩⟩
      have s1 := Same.upd (o := .tup [.str "delete", .str "stop"]) hp2
      generalize upd H p2 (.tup [.str "delete", .str "stop"]) = H1 at s1 ⊢
      have hr1 := s1 _ _ hrr
      have hP1 := hP.same s1
      have sq1 := (Same.keepT s1).sq sq
      obtain ⟨⟨dx, hp⟩, ⟨va, ha, hav⟩, ⟨vb, hb, hbv⟩, hdd, nab, nad, nbd⟩ := id hP1
      have la := hav.1
      have lb := hbv.1
      have w1 := hW.pre.1
      have w2 := hW.post.1
      have npr := ins_ne hp hr1
      have kS : Keep [r, p, A, B, D] H H1 := Keep.of s1
      refine if_fl (by decide +kernel) ?_
      refine ⟨_, rfl, rfl, _, rfl, if_fl (by decide +kernel) ?_⟩
      refine ⟨_, rfl, rfl, _, rfl, if_fl (by decide +kernel) ?_⟩
      refine ⟨_, rfl, rfl, _, rfl, if_fl (by decide +kernel) ?_⟩
      refine ⟨_, rfl, rfl, _, rfl, if_fl (by decide +kernel) ?_⟩
      refine ⟨_, rfl, rfl, _, rfl, if_fl (by decide +kernel) ?_⟩
      refine ⟨_, rfl, rfl, _, rfl, if_fl (by decide +kernel) ?_⟩
      refine ⟨_, rfl, p, dx, _, rfl, hp, pF_no _ _ _ _ _ _ _ (by decide +kernel), _, rfl, ?_⟩
      have eb : (Vaseda.deed k i w (.swap a b)).bad = decide (16 < (Vaseda.swapIn a b false w.x).length) := by
        show (w.bad || decide (16 < (Vaseda.swapIn a b false w.x).length)) = _
        rw [hW.bad, Bool.false_or]
      refine ⟨p, k, last, x0, w, A, B, D, .swap a b, _, dx, rfl, hp, ⟨q, rfl, sq1, TwoT.keep (Same.keepT s1) tk⟩, hd, trivial, hW.x, fun z => q0 (by rw [eb]; exact decide_eq_true z) _ kS, fun z => ?_⟩
      refine q1 (by rw [eb]; exact decide_eq_false (Nat.not_lt.mpr z)) _ (kS.trans (Keep.upd (.inr (by simp)))) ⟨dr, (upd_ne npr).trans hr1⟩ ?_
      have h2 := hP1.store (dx := dx) (w2 := Vaseda.deed k i w (.swap a b)) rfl rfl rfl
      exact h2
    | first a b =>
      have sq : SqT K H q [.str (sT (word "first")), .str (sT a), .str (sT b)] := sq
      refine ⟨_, rfl, q, _, 0, _, rfl, rfl, sq, atI_nat (j := 0) rfl, _, rfl, by show 2 ≤ sizeLine; decide, fun p2 hp2 => ⟨p2, _, rfl, .inr (SqT.of upd_same), rfl, rfl, _, rfl, ?_⟩⟩
      have s1 := Same.upd (o := .tup [.str "delete", .str "stop"]) hp2
      generalize upd H p2 (.tup [.str "delete", .str "stop"]) = H1 at s1 ⊢
      have hr1 := s1 _ _ hrr
      have hP1 := hP.same s1
      have sq1 := (Same.keepT s1).sq sq
      obtain ⟨⟨dx, hp⟩, ⟨va, ha, hav⟩, ⟨vb, hb, hbv⟩, hdd, nab, nad, nbd⟩ := id hP1
      have la := hav.1
      have lb := hbv.1
      have w1 := hW.pre.1
      have w2 := hW.post.1
      have npr := ins_ne hp hr1
      have kS : Keep [r, p, A, B, D] H H1 := Keep.of s1
      refine if_fl (by decide +kernel) ?_
      refine ⟨_, rfl, rfl, _, rfl, if_fl (by decide +kernel) ?_⟩
      refine ⟨_, rfl, rfl, _, rfl, if_fl (by decide +kernel) ?_⟩
      refine ⟨_, rfl, rfl, _, rfl, if_fl (by decide +kernel) ?_⟩
      refine ⟨_, rfl, rfl, _, rfl, if_fl (by decide +kernel) ?_⟩
      refine ⟨_, rfl, rfl, _, rfl, if_fl (by decide +kernel) ?_⟩
      refine ⟨_, rfl, rfl, _, rfl, if_fl (by decide +kernel) ?_⟩
      refine ⟨_, rfl, p, dx, _, rfl, hp, pF_no _ _ _ _ _ _ _ (by decide +kernel), _, rfl, ?_⟩
      have eb : (Vaseda.deed k i w (.first a b)).bad = decide (16 < (Vaseda.swapIn a b true w.x).length) := by
        show (w.bad || decide (16 < (Vaseda.swapIn a b true w.x).length)) = _
        rw [hW.bad, Bool.false_or]
      refine ⟨p, k, last, x0, w, A, B, D, .first a b, _, dx, rfl, hp, ⟨q, rfl, sq1, TwoT.keep (Same.keepT s1) tk⟩, hd, trivial, hW.x, fun z => q0 (by rw [eb]; exact decide_eq_true z) _ kS, fun z => ?_⟩
      refine q1 (by rw [eb]; exact decide_eq_false (Nat.not_lt.mpr z)) _ (kS.trans (Keep.upd (.inr (by simp)))) ⟨dr, (upd_ne npr).trans hr1⟩ ?_
      have h2 := hP1.store (dx := dx) (w2 := Vaseda.deed k i w (.first a b)) rfl rfl rfl
      exact h2
    | keep =>
      have sq : SqT K H q [.str (sT (word "keep"))] := sq
      refine ⟨_, rfl, q, _, 0, _, rfl, rfl, sq, atI_nat (j := 0) rfl, _, rfl, by show 2 ≤ sizeLine; decide, fun p2 hp2 => ⟨p2, _, rfl, .inr (SqT.of upd_same), rfl, rfl, _, rfl, ?_⟩⟩
      have s1 := Same.upd (o := .tup [.str "delete", .str "stop"]) hp2
      generalize upd H p2 (.tup [.str "delete", .str "stop"]) = H1 at s1 ⊢
      have hr1 := s1 _ _ hrr
      have hP1 := hP.same s1
      have sq1 := (Same.keepT s1).sq sq
      obtain ⟨⟨dx, hp⟩, ⟨va, ha, hav⟩, ⟨vb, hb, hbv⟩, hdd, nab, nad, nbd⟩ := id hP1
      have la := hav.1
      have lb := hbv.1
      have w1 := hW.pre.1
      have w2 := hW.post.1
      have npr := ins_ne hp hr1
      have kS : Keep [r, p, A, B, D] H H1 := Keep.of s1
      refine if_fl (by decide +kernel) ?_
      refine ⟨_, rfl, rfl, _, rfl, if_fl (by decide +kernel) ?_⟩
      refine ⟨_, rfl, rfl, _, rfl, if_fl (by decide +kernel) ?_⟩
      refine ⟨_, rfl, rfl, _, rfl, if_fl (by decide +kernel) ?_⟩
      refine ⟨_, rfl, rfl, _, rfl, if_tr (by decide +kernel) ?_⟩
      refine ⟨_, rfl, p, CP, dx, _, _, rfl, hp, T.cl, T.n_line, pF_line _ _ _ _ _ _ _, _, rfl, r, CRn, dr, _, rfl, hr1, TR.cl, TR.n_held, by show 2 < 1000; decide, ?_⟩
      rw [rnF_put]
      exact q1 hW.bad _ (kS.trans (Keep.upd (.inr (by simp)))) ⟨dr, upd_same⟩ ⟨⟨dx, (upd_ne (Ne.symm npr)).trans hp⟩, ⟨va, (upd_ne (lst_ne hr1 ha)).trans ha, hav.keep (KeepT.updi hr1)⟩, ⟨vb, (upd_ne (lst_ne hr1 hb)).trans hb, hbv.keep (KeepT.updi hr1)⟩, (upd_ne (lst_ne hr1 hdd)).trans hdd, nab, nad, nbd⟩
    | bring =>
      have sq : SqT K H q [.str (sT (word "bring"))] := sq
      refine ⟨_, rfl, q, _, 0, _, rfl, rfl, sq, atI_nat (j := 0) rfl, _, rfl, by show 2 ≤ sizeLine; decide, fun p2 hp2 => ⟨p2, _, rfl, .inr (SqT.of upd_same), rfl, rfl, _, rfl, ?_⟩⟩
      have s1 := Same.upd (o := .tup [.str "delete", .str "stop"]) hp2
      generalize upd H p2 (.tup [.str "delete", .str "stop"]) = H1 at s1 ⊢
      have hr1 := s1 _ _ hrr
      have hP1 := hP.same s1
      have sq1 := (Same.keepT s1).sq sq
      obtain ⟨⟨dx, hp⟩, ⟨va, ha, hav⟩, ⟨vb, hb, hbv⟩, hdd, nab, nad, nbd⟩ := id hP1
      have la := hav.1
      have lb := hbv.1
      have w1 := hW.pre.1
      have w2 := hW.post.1
      have npr := ins_ne hp hr1
      have kS : Keep [r, p, A, B, D] H H1 := Keep.of s1
      refine if_fl (by decide +kernel) ?_
      refine ⟨_, rfl, rfl, _, rfl, if_fl (by decide +kernel) ?_⟩
      refine ⟨_, rfl, rfl, _, rfl, if_fl (by decide +kernel) ?_⟩
      refine ⟨_, rfl, rfl, _, rfl, if_tr (by decide +kernel) ?_⟩
      refine ⟨_, rfl, p, CP, dx, _, _, rfl, hp, T.cl, T.n_put_behind, pF_put_behind _ _ _ _ _ _ _, .inl ⟨rfl, _, SqL.of hb⟩, _, rfl, r, CRn, dr, _, _, rfl, hr1, TR.cl, TR.n_held, rnF_held _ _, _, rfl, by show 2 ≤ sizeLine; decide, fun t ht => ?_⟩
      have s2 := Same.upd (o := .tup [.str (sT w.held), .int (i : Int)]) ht
      refine ⟨B, vb, _, rfl, rfl, s2 _ _ hb, by rw [sizeLine_eq]; omega, ?_⟩
      exact q1 hW.bad _ ((kS.trans (Keep.of s2)).trans (Keep.upd (.inr (by simp)))) ⟨dr, (upd_ne (Ne.symm (lst_ne (s2 _ _ hr1) (s2 _ _ hb)))).trans (s2 _ _ hr1)⟩ ((hP1.same s2).behind (s2 _ _ hb) (hbv.keep (Same.keepT s2)) (o := ⟨w.held, k, some i⟩) ⟨t, rfl, SqT.of upd_same⟩)
    | trade =>
      have sq : SqT K H q [.str (sT (word "trade"))] := sq
      refine ⟨_, rfl, q, _, 0, _, rfl, rfl, sq, atI_nat (j := 0) rfl, _, rfl, by show 2 ≤ sizeLine; decide, fun p2 hp2 => ⟨p2, _, rfl, .inr (SqT.of upd_same), rfl, rfl, _, rfl, ?_⟩⟩
      have s1 := Same.upd (o := .tup [.str "delete", .str "stop"]) hp2
      generalize upd H p2 (.tup [.str "delete", .str "stop"]) = H1 at s1 ⊢
      have hr1 := s1 _ _ hrr
      have hP1 := hP.same s1
      have sq1 := (Same.keepT s1).sq sq
      obtain ⟨⟨dx, hp⟩, ⟨va, ha, hav⟩, ⟨vb, hb, hbv⟩, hdd, nab, nad, nbd⟩ := id hP1
      have la := hav.1
      have lb := hbv.1
      have w1 := hW.pre.1
      have w2 := hW.post.1
      have npr := ins_ne hp hr1
      have kS : Keep [r, p, A, B, D] H H1 := Keep.of s1
      refine if_fl (by decide +kernel) ?_
      refine ⟨_, rfl, rfl, _, rfl, if_fl (by decide +kernel) ?_⟩
      refine ⟨_, rfl, rfl, _, rfl, if_fl (by decide +kernel) ?_⟩
      refine ⟨_, rfl, rfl, _, rfl, if_fl (by decide +kernel) ?_⟩
      refine ⟨_, rfl, rfl, _, rfl, if_fl (by decide +kernel) ?_⟩
      refine ⟨_, rfl, rfl, _, rfl, if_tr (by decide +kernel) ?_⟩
      refine ⟨_, rfl, p, CP, dx, _, _, rfl, hp, T.cl, T.n_line, pF_line _ _ _ _ _ _ _, _, rfl, r, CRn, dr, _, _, rfl, hr1, TR.cl, TR.n_held, rnF_held _ _, by show 2 ≤ sizeLine; decide, fun t ht => ?_⟩
      have s2 := Same.upd (o := .tup [.str (sT w.x), .str (sT w.held)]) ht
      refine ⟨t, _, rfl, SqT.of upd_same, rfl, _, _, rfl, _, rfl, r, CRn, dr, _, rfl, s2 _ _ hr1, TR.cl, TR.n_held, by show 2 < 1000; decide, ?_⟩
      rw [rnF_put]
      refine ⟨_, _, rfl, _, rfl, p, CP, dx, _, rfl, (upd_ne (Ne.symm npr)).trans (s2 _ _ hp), T.cl, T.n_line, by show 10 < 1000; decide, rfl, ?_⟩
      rw [pF_put_line]
      have hP2 := hP1.same s2
      generalize upd H1 t (.tup [.str (sT w.x), .str (sT w.held)]) = H2 at s2 hP2 ⊢
      have hr2 := s2 _ _ hr1
      have hp2 := s2 _ _ hp
      have hP3 : PassX K CP (upd H2 r (.ins CRn dr (rnF w.x L))) p k last x0 w A B D := ⟨⟨dx, (upd_ne (Ne.symm npr)).trans hp2⟩, ⟨va, (upd_ne (lst_ne hr2 (s2 _ _ ha))).trans (s2 _ _ ha), hav.keep ((Same.keepT s2).trans (KeepT.updi hr2))⟩, ⟨vb, (upd_ne (lst_ne hr2 (s2 _ _ hb))).trans (s2 _ _ hb), hbv.keep ((Same.keepT s2).trans (KeepT.updi hr2))⟩, (upd_ne (lst_ne hr2 (s2 _ _ hdd))).trans (s2 _ _ hdd), nab, nad, nbd⟩
      exact q1 hW.bad _ (((kS.trans (Keep.of s2)).trans (Keep.upd (.inr (by simp)))).trans (Keep.upd (.inr (by simp)))) ⟨dr, (upd_ne npr).trans upd_same⟩ (hP3.store (w2 := Vaseda.deed k i w .trade) rfl rfl rfl)
    | skip m =>
      have sq : SqT K H q [.str (sT (word "skip")), .int (m : Int)] := sq
      refine ⟨_, rfl, q, _, 0, _, rfl, rfl, sq, atI_nat (j := 0) rfl, _, rfl, by show 2 ≤ sizeLine; decide, fun p2 hp2 => ⟨p2, _, rfl, .inr (SqT.of upd_same), rfl, rfl, _, rfl, ?_⟩⟩
      have s1 := Same.upd (o := .tup [.str "delete", .str "stop"]) hp2
      generalize upd H p2 (.tup [.str "delete", .str "stop"]) = H1 at s1 ⊢
      have hr1 := s1 _ _ hrr
      have hP1 := hP.same s1
      have sq1 := (Same.keepT s1).sq sq
      obtain ⟨⟨dx, hp⟩, ⟨va, ha, hav⟩, ⟨vb, hb, hbv⟩, hdd, nab, nad, nbd⟩ := id hP1
      have la := hav.1
      have lb := hbv.1
      have w1 := hW.pre.1
      have w2 := hW.post.1
      have npr := ins_ne hp hr1
      have kS : Keep [r, p, A, B, D] H H1 := Keep.of s1
      refine if_fl (by decide +kernel) ?_
      refine ⟨_, rfl, rfl, _, rfl, if_fl (by decide +kernel) ?_⟩
      refine ⟨_, rfl, rfl, _, rfl, if_fl (by decide +kernel) ?_⟩
      refine ⟨_, rfl, rfl, _, rfl, if_fl (by decide +kernel) ?_⟩
      refine ⟨_, rfl, rfl, _, rfl, if_fl (by decide +kernel) ?_⟩
      refine ⟨_, rfl, rfl, _, rfl, if_fl (by decide +kernel) ?_⟩
      refine ⟨_, rfl, rfl, _, rfl, if_tr (by decide +kernel) ?_⟩
      refine ⟨_, rfl, q, _, 1, _, rfl, rfl, sq1, atI_nat (j := 1) rfl, _, rfl, p, CP, dx, _, rfl, hp, T.cl, T.n_left_out, by show 10 < 1000; decide, ?_⟩
      rw [pF_put_left_out]
      exact q1 hW.bad _ (kS.trans (Keep.upd (.inr (by simp)))) ⟨dr, (upd_ne npr).trans hr1⟩ (hP1.store (w2 := { w with left := m }) rfl rfl rfl)
end
end Lsd
/-! Run.pass_by -/
namespace Lsd
open PySem PySem.Spec PyProof.Rows L2
open VasedBase hiding Tok
open Vaseda (Deed Cmd Work Out)
theorem scPassBy : FnScope ["self", "commands", "passing", "number", "address", "deed"] ["self", "commands", "passing"] (defScope (sRun 1)) := ⟨rfl, rfl, rfl, by decide +kernel, rfl, by decide +kernel, by decide +kernel⟩
/-- the commands as a list at a -/
structure CmdsAt (K : PySem.W.Frag) (H : Hp) (a : PySem.Addr) (cs : List Cmd) : Prop where
  at_ : ∃ ys, H a = some (.lst ys) ∧ CmdsV K H ys cs
  ok : ∀ c ∈ cs, cmdOk c
  few : cs.length ≤ 16
theorem CmdsAt.keep {K : PySem.W.Frag} {H H' : Hp} {a : PySem.Addr} {cs : List Cmd} {S : List PySem.Addr} (h : CmdsAt K H a cs) (k : Keep S H H') (kt : KeepT H H') (ha : a ∉ S) : CmdsAt K H' a cs := by
  obtain ⟨⟨ys, h1, h2⟩, h3, h4⟩ := h
  exact ⟨⟨ys, k _ _ h1 ha, h2.keep kt⟩, h3, h4⟩
theorem CmdsAt.same {K : PySem.W.Frag} {H H' : Hp} {a : PySem.Addr} {cs : List Cmd} (h : CmdsAt K H a cs) (s : Same H H') : CmdsAt K H' a cs := h.keep (S := []) (Keep.of s) (Same.keepT s) (by simp)
def spPassBy (K : PySem.W.Frag) (CP CRn CT : PySem.Addr) : Sp := fun vs H Q E => ∃ r a p cs held L k last x0 x A B D, vs = [.ref r, .ref a, .ref p] ∧ CmdsAt K H a cs ∧ RunO CRn H r held L ∧ PassX K CP H p k last x0 (w0 x held) A B D ∧ x.length ≤ 16 ∧ held.length ≤ 16 ∧ a ∉ [r, p, A, B, D] ∧
  ((Vaseda.lineRun cs k last x held).bad = true → TooK CT E [r, p, A, B, D] H) ∧
  ((Vaseda.lineRun cs k last x held).bad = false → ∀ H', Keep [r, p, A, B, D] H H' → RunO CRn H' r (Vaseda.lineRun cs k last x held).held L → PassX K CP H' p k last x0 (Vaseda.lineRun cs k last x held) A B D → Q .non H')
def ByS (K : PySem.W.Frag) (CP CRn r a p L A B D : PySem.Addr) (cs : List Cmd) (held x0 x : Bytes) (k : Nat) (last : Bool) (H : Hp) (i : Nat) (σ : L2.St) (H' : Hp) : Prop := ∃ v3 v4 v5, σ = [some (.ref r), some (.ref a), some (.ref p), v3, v4, v5] ∧ Keep [r, p, A, B, D] H H' ∧ KeepT H H' ∧
  RunO CRn H' r (workAt cs k last x held i).held L ∧ PassX K CP H' p k last x0 (workAt cs k last x held i) A B D ∧ WOk k i (workAt cs k last x held i)
section
variable {P : Program} {w : World} {K : PySem.W.Frag} {mg : Str → Option Value} {base : Heap} {CP CRn CT : PySem.Addr}
theorem ok_pass_by (F : MF K CRn "pass_by" "Run.pass_by" (sRun 1)) (TR : RunT K mg CRn) (T : PassT K mg CP) (me : mg "enumerate" = none) (D1 : MD P w K mg base CX0 2 CP "holds" ["self", "address"] (spHolds K CP)) (D2 : MD P w K mg base (L2.CX P w) 3 CRn "act" ["self", "number", "deed", "passing"] (spAct K CP CRn CT)) :
    MD P w K mg base (L2.CX P w) 4 CRn "pass_by" ["self", "commands", "passing"] (spPassBy K CP CRn CT) := by
  obtain ⟨f, fd, F, hm⟩ := F
  refine ⟨f, fd, F.okX scPassBy (fun vs H Q E h => ?_) (fun cdv A outer s H vs Q E hr h => ⟨_, pss_one (ps_for (passes_of rfl) rfl (pi_enum (by rfl) me (pa_cons (pv 1) pa_nil))
      (pg_tup (n := 2) rfl (pgs_cons (pg_name (i := 3) scPassBy.nd rfl (Or.inl rfl)) (pgs_cons (pg_tup (n := 2) rfl (pgs_cons (pg_name (i := 4) scPassBy.nd rfl (Or.inl rfl)) (pgs_cons (pg_name (i := 5) scPassBy.nd rfl (Or.inl rfl)) pgs_nil))) pgs_nil)))
      (pss_one (ps_if (pt_cmpR op_gt (pe_fld (pv 2) rfl) L2.pe_int (nomark _)) (pss_one (ps_fldaug (pv 2) L2.pe_int in_sub))
        (pss_one (ps_if (PW.pt (pw_and (pt_not (pt_val (pe_fld (pv 2) rfl))) (pw_and1 (pt_val (pe_m D1 T.cl (hr.mono (by decide)) pass0 (pv 2) (pa_cons (pv 4) pa_nil))))))
          (pss_cons (ps_expr (pe_bm PySem.F.plainAttrs_list PySem.F.slot_list_append PySem.F.type_list_append mt_append (pe_fld (pv 2) rfl) (pa_cons (pv 3) pa_nil)))
            (pss_one (ps_expr (pe_m D2 TR.cl hr (passW (takes_of rfl rfl rfl rfl)) (pv 0) (pa_cons (pv 3) (pa_cons (pv 5) (pa_cons (pv 2) pa_nil))))))) pss_nil))))), ?_⟩), hm, F.binds fun _ _ _ _ _ _ us hl => match us, hl with | [_, _, _], _ => rfl⟩
  · obtain ⟨r, a, p, cs, held, L, k, last, x0, x, A, B, D, rfl, _⟩ := h
    rfl
  · obtain ⟨r, a, p, cs, held, L, k, last, x0, x, A, B, D, rfl, hC, hR, hP, hx, hh, hout, q0, q1⟩ := h
    obtain ⟨⟨ys, hys, hcv⟩, hok, h16⟩ := id hC
    have hyl := hcv.1
    refine ⟨_, rfl, a, ys, rfl, SqL.of hys, ?_⟩
    refine for_gen (n := cs.length) (ByS K CP CRn r a p L A B D cs held x0 x k last H) ⟨none, none, none, rfl, Keep.refl _ _, KeepT.refl _, hR, hP, w0_ok hx hh⟩ ?_ ?_ ?_ ?_
    · rintro i σ H1 hi ⟨v3, v4, v5, rfl, k1, kt1, _⟩
      have hya := k1 _ _ hys hout
      exact ⟨ys, _, SqL.of hya, List.getElem?_eq_getElem (by omega)⟩
    · rintro σ H1 ⟨v3, v4, v5, rfl, k1, kt1, _⟩
      exact ⟨ys, SqL.of (k1 _ _ hys hout), Nat.le_of_eq hyl⟩
    · rintro i xx σ H1 H2 hi ⟨v3, v4, v5, rfl, k1, kt1, ⟨dr, hr1⟩, hP1, hW⟩ ⟨Tt, y, rfl, hT, rfl, hy⟩
      have hya := k1 _ _ hys hout
      have hc : cs[i]? = some cs[i] := List.getElem?_eq_getElem hi
      obtain ⟨v, hv, pc, av, dv, rfl, sqc, hA, hD⟩ := hcv.2 i _ hc
      have ey := hy ys (SqL.of hya)
      rw [hv] at ey
      cases ey
      have hcok := hok _ (List.getElem_mem hi)
      have s2 := Same.upd (o := .tup [.int ((i : Nat) : Int), .ref pc]) hT
      have hkT := SqT.of (K := K) (upd_same (H := H1) (a := Tt) (o := .tup [.int ((i : Nat) : Int), .ref pc]))
      have k2 := k1.trans (Keep.of s2)
      have kt2 := kt1.trans (Same.keepT s2)
      have hP2 := hP1.same s2
      have hr2 := s2 _ _ hr1
      generalize upd H1 Tt (.tup [.int ((i : Nat) : Int), .ref pc]) = H2 at s2 hkT k2 kt2 hP2 hr2 ⊢
      have hA2 := hA.keep kt2
      have hD2 := hD.keep kt2
      have sq2 := kt2.sq sqc
      obtain ⟨⟨dx, hp⟩, ⟨va, ha, hav⟩, ⟨vb, hb, hbv⟩, hdd, nab, nad, nbd⟩ := id hP2
      have npr := ins_ne hp hr2
      have ews := workAt_succ (k := k) (last := last) (x := x) (held := held) hc
      have eww := work_eq (k := k) (last := last) (c := (cs[i], i)) hW.bad
      rw [← ews] at eww
      refine ⟨Tt, _, rfl, hkT, rfl, _, _, rfl, _, _, rfl, pc, _, rfl, sq2, rfl, _, _, rfl, _, _, rfl, rfl, rfl, ?_⟩
      refine ⟨_, rfl, p, CP, dx, _, _, rfl, hp, T.cl, T.n_left_out, pF_left_out _ _ _ _ _ _ _, _, _, rfl, rfl, _, rfl, ?_⟩
      have fin : ∀ H3 v3 v4 v5, (workAt cs k last x held (i + 1)) = workAt cs k last x held i → Keep [r, p, A, B, D] H H3 → KeepT H H3 → RunO CRn H3 r (workAt cs k last x held i).held L → PassX K CP H3 p k last x0 (workAt cs k last x held i) A B D → ByS K CP CRn r a p L A B D cs held x0 x k last H (i + 1) [some (.ref r), some (.ref a), some (.ref p), v3, v4, v5] H3 := fun H3 v3 v4 v5 e k3 kt3 hr3 hp3 => by
        unfold ByS
        rw [e]
        exact ⟨v3, v4, v5, rfl, k3, kt3, hr3, hp3, hW.up⟩
      by_cases hl : 0 < (workAt cs k last x held i).left
      · have hnh : ¬ (workAt cs k last x held i).halt = true := fun z => by
          have := hW.left z
          omega
        rw [if_neg hnh, if_pos hl] at eww
        refine if_tr (decide_eq_true (by omega)) ⟨_, rfl, p, CP, dx, _, _, rfl, hp, T.cl, T.n_left_out, pF_left_out _ _ _ _ _ _ _, _, _, rfl, rfl, dx, _, hp, by show 10 < 1000; decide, ?_⟩
        have ei : ((workAt cs k last x held i).left : Int) - 1 = (((workAt cs k last x held i).left - 1 : Nat) : Int) := by omega
        rw [ei, pF_put_left_out]
        unfold ByS
        rw [eww]
        refine ⟨_, _, _, rfl, k2.trans (Keep.upd (.inr (by simp))), kt2.trans (KeepT.updi hp), ⟨dr, (upd_ne npr).trans hr2⟩, hP2.store rfl rfl rfl, ?_⟩
        have hu := hW.up
        exact ⟨hu.x, hu.held, hu.pre, hu.post, hu.did, fun z => absurd z hnh, hu.gone, hu.bad⟩
      · rw [if_neg hl] at eww
        refine if_fl (decide_eq_false (by omega)) ⟨_, rfl, p, CP, dx, _, _, rfl, hp, T.cl, T.n_is_over, pF_is_over _ _ _ _ _ _ _, _, rfl, ?_⟩
        by_cases hh2 : (workAt cs k last x held i).halt = true
        · rw [if_pos hh2] at eww
          exact if_fl (by rw [hh2] <;> rfl) (iteF (fin H2 _ _ _ eww k2 kt2 ⟨dr, hr2⟩ hP2))
        · have hh3 := Bool.eq_false_iff.mpr hh2
          rw [if_neg hh2] at eww
          refine if_tr (by rw [hh3] <;> rfl) ⟨_, rfl, p, dx, _, rfl, hp, pF_no _ _ _ _ _ _ _ (by decide +kernel), _, rfl, p, k, last, x0, _, A, B, D, cs[i].a, av, rfl, ⟨dx, hp⟩, hA2, hcok.1, _, rfl, ?_⟩
          by_cases hho : Vaseda.holds k last (workAt cs k last x held i).x cs[i].a = true
          · rw [if_pos hho] at eww
            refine if_tr hho ⟨_, rfl, p, CP, dx, _, _, rfl, hp, T.cl, T.n_done, pF_done _ _ _ _ _ _ _, .inl ⟨rfl, _, SqL.of hdd⟩, _, rfl, D, _, _, rfl, rfl, hdd, ?_, ?_⟩
            · rw [natsV_len, sizeLine_eq]
              have := hW.did
              omega
            · have hP3 := hP2.doing (i := i)
              have k3 : Keep [r, p, A, B, D] H2 (upd H2 D (.lst (natsV (workAt cs k last x held i).did ++ [.int (i : Int)]))) := Keep.upd (.inr (by simp))
              have kt3 : KeepT H2 (upd H2 D (.lst (natsV (workAt cs k last x held i).did ++ [.int (i : Int)]))) := KeepT.updl hdd
              have hr3 := (upd_ne (o := .lst (natsV (workAt cs k last x held i).did ++ [.int (i : Int)])) (Ne.symm (lst_ne hr2 hdd))).trans hr2
              generalize upd H2 D (.lst (natsV (workAt cs k last x held i).did ++ [.int (i : Int)])) = H3 at hP3 k3 kt3 hr3 ⊢
              have hu := hW.up
              have hW3 : WOk k (i + 1) { workAt cs k last x held i with did := (workAt cs k last x held i).did ++ [i] } := ⟨hu.x, hu.held, hu.pre, hu.post, by rw [List.length_append]; have := hW.did; show _ + 1 ≤ i + 1; omega, hu.left, hu.gone, hu.bad⟩
              refine ⟨_, rfl, r, dr, _, rfl, hr3, rnF_no _ _ (by decide +kernel), _, rfl, _, rfl, _, rfl, ?_⟩
              refine ⟨r, i, dv, p, _, L, k, last, x0, _, A, B, D, cs[i].d, i + 1, rfl, ⟨dr, hr3⟩, hD2.keep kt3, hcok.2, hP3, rfl, hW3, by omega, hh3, fun hb => ?_, fun hb H4 k4 hr4 hP4 => ?_⟩
              · have hb' : (workAt cs k last x held (i + 1)).bad = true := by rw [eww]; exact hb
                exact (q0 (workAt_badUp hb')).of (k2.trans k3)
              · unfold ByS
                have hb' : (workAt cs k last x held (i + 1)).bad = false := by rw [eww]; exact hb
                have hWn : WOk k (i + 1) (workAt cs k last x held (i + 1)) := by
                  rw [ews] at hb' ⊢
                  exact work_ok hW hcok hb'
                refine ⟨_, _, _, rfl, (k2.trans k3).trans k4, (kt2.trans kt3).trans (Keep.keepT k4 (act_notT ⟨dr, hr3⟩ hP3)), ?_, ?_, hWn⟩
                · rw [eww]
                  exact hr4
                · rw [eww]
                  exact hP4
          · rw [if_neg hho] at eww
            exact if_fl (Bool.eq_false_iff.mpr hho) (fin H2 _ _ _ eww k2 kt2 ⟨dr, hr2⟩ hP2)
    · rintro σ H1 ⟨v3, v4, v5, rfl, k1, kt1, hr1, hP1, hW⟩
      rw [workAt_all] at hr1 hP1 hW
      exact q1 hW.bad H1 k1 hr1 hP1
end
end Lsd
/-! Run.result, Run.origins -/
namespace Lsd
open PySem PySem.Spec PyProof.Rows L2
open VasedBase hiding Tok
open Vaseda (Deed Cmd Work Out)
/-- the passings at vs, their lists are not L -/
def PassedV (K : PySem.W.Frag) (CP : PySem.Addr) (H : Hp) (L : PySem.Addr) (vs : List V) (t : List Bytes) (ws : List Work) : Prop := vs.length = ws.length ∧ ∀ (i : Nat) (w : Work), ws[i]? = some w → ∃ (p A B D : PySem.Addr) (last : Bool) (x0 : Bytes), vs[i]? = some (.ref p) ∧ t[i]? = some x0 ∧ PassX K CP H p (i + 1) last x0 w A B D ∧ A ≠ L ∧ B ≠ L ∧ D ≠ L
theorem PassedV.same {K : PySem.W.Frag} {CP : PySem.Addr} {H H' : Hp} {L : PySem.Addr} {vs : List V} {t : List Bytes} {ws : List Work} (h : PassedV K CP H L vs t ws) (s : Same H H') : PassedV K CP H' L vs t ws :=
  ⟨h.1, fun i w e => let ⟨p, A, B, D, last, x0, a, b, c, d⟩ := h.2 i w e; ⟨p, A, B, D, last, x0, a, b, c.same s, d⟩⟩
/-- a run at r: its lines passed, the held line -/
def RunV (K : PySem.W.Frag) (CP CRn : PySem.Addr) (H : Hp) (r : PySem.Addr) (held : Bytes) (t : List Bytes) (ws : List Work) : Prop := ∃ dr L vs, H r = some (.ins CRn dr (rnF held L)) ∧ H L = some (.lst vs) ∧ PassedV K CP H L vs t ws
theorem RunV.same {K : PySem.W.Frag} {CP CRn : PySem.Addr} {H H' : Hp} {r : PySem.Addr} {held : Bytes} {t : List Bytes} {ws : List Work} (h : RunV K CP CRn H r held t ws) (s : Same H H') : RunV K CP CRn H' r held t ws := by
  obtain ⟨dr, L, vs, h1, h2, h3⟩ := h
  exact ⟨dr, L, vs, s _ _ h1, s _ _ h2, h3.same s⟩
structure WsOk (n : Nat) (ws : List Work) : Prop where
  ok : ∀ (i : Nat) (w : Work), ws[i]? = some w → WOk (i + 1) n w
  n16 : n ≤ 16
  few : ws.length ≤ 24
theorem flat_len {α β : Type} (f : α → List β) (k : Nat) : ∀ l : List α, (∀ x ∈ l, (f x).length ≤ k) → (l.flatMap f).length ≤ k * l.length
  | [], _ => Nat.zero_le _
  | a :: r, h => by
    have ih := flat_len f k r fun x m => h x (List.mem_cons_of_mem _ m)
    have h0 := h a (List.mem_cons_self ..)
    have e : k * (a :: r).length = k * r.length + k := Nat.mul_succ _ _
    rw [List.flatMap_cons, List.length_append, e]
    omega
theorem outsOf_len {n : Nat} {ws : List Work} (h : ∀ (i : Nat) (w : Work), ws[i]? = some w → WOk (i + 1) n w) : (outsOf ws).length ≤ (2 * n + 1) * ws.length := by
  unfold outsOf
  have h2 := flat_len (fun w : Work × Nat => Vaseda.outOf (w.2 + 1) w.1) (2 * n + 1) ws.zipIdx fun p hp => by
    obtain ⟨i, hi⟩ := List.getElem?_of_mem hp
    rw [List.getElem?_zipIdx] at hi
    cases e : ws[i]? with
    | none => rw [e] at hi; cases hi
    | some w =>
      rw [e] at hi
      simp at hi
      subst hi
      exact (outOf_ok (h i w e)).1
  rw [List.length_zipIdx] at h2
  exact h2
theorem outsOf_take {ws : List Work} {i : Nat} {w : Work} (h : ws[i]? = some w) : outsOf (ws.take (i + 1)) = outsOf (ws.take i) ++ Vaseda.outOf (i + 1) w := by
  have hi := (List.getElem?_eq_some_iff.mp h).1
  rw [take_snoc h, outsOf_snoc, List.length_take, Nat.min_eq_left (Nat.le_of_lt hi)]
theorem WsOk.take {n : Nat} {ws : List Work} (h : WsOk n ws) (i : Nat) : (outsOf (ws.take i)).length ≤ 1000 := by
  have h1 := outsOf_len (n := n) (ws := ws.take i) fun j w e => h.ok j w (by
    rw [List.getElem?_take] at e
    split at e
    · exact e
    · cases e)
  have h2 : (ws.take i).length ≤ 24 := by rw [List.length_take]; have := h.few; omega
  have h3 : (2 * n + 1) * (ws.take i).length ≤ 33 * 24 := Nat.mul_le_mul (by have := h.n16; omega) h2
  omega
theorem scResult : FnScope ["self", "found", "passing", "line", "number"] ["self"] (defScope (sRun 3)) := ⟨rfl, rfl, rfl, by decide +kernel, rfl, by decide +kernel, by decide +kernel⟩
theorem scOrigins : FnScope ["self", "found", "passing", "line", "number"] ["self"] (defScope (sRun 4)) := ⟨rfl, rfl, rfl, by decide +kernel, rfl, by decide +kernel, by decide +kernel⟩
def outXs (os : List Out) : List Bytes := os.map fun o => o.x
def spResult (K : PySem.W.Frag) (CP CRn : PySem.Addr) : Sp := fun vs H Q _ => ∃ r held t ws n, vs = [.ref r] ∧ RunV K CP CRn H r held t ws ∧ WsOk n ws ∧ ∀ q H', Same H H' → H q = none → H' q = some (.lst (strsOf (outXs (outsOf ws)))) → Q (.ref q) H'
/-- where a line comes from: its line, its command -/
def OrigV (K : PySem.W.Frag) (H : Hp) (vs : List V) (os : List Out) : Prop := vs.length = os.length ∧ ∀ (i : Nat) (o : Out), os[i]? = some o → ∃ t, vs[i]? = some (.ref t) ∧ SqT K H t [.int (o.k : Int), .int (outC o)]
theorem OrigV.keep {K : PySem.W.Frag} {H H' : Hp} {vs : List V} {os : List Out} (k : KeepT H H') (h : OrigV K H vs os) : OrigV K H' vs os := ⟨h.1, fun i c e => let ⟨v, a, b⟩ := h.2 i c e; ⟨v, a, k.sq b⟩⟩
theorem OrigV.nil (K : PySem.W.Frag) (H : Hp) : OrigV K H [] [] := ⟨rfl, fun i c e => by simp at e⟩
theorem OrigV.app {K : PySem.W.Frag} {H : Hp} {vs us : List V} {os ps : List Out} (h : OrigV K H vs os) (h2 : OrigV K H us ps) : OrigV K H (vs ++ us) (os ++ ps) := by
  refine ⟨by rw [List.length_append, List.length_append, h.1, h2.1], fun i u q => ?_⟩
  rcases Nat.lt_or_ge i os.length with hi | hi
  · rw [List.getElem?_append_left hi] at q
    obtain ⟨w, a, b⟩ := h.2 i u q
    exact ⟨w, by rw [List.getElem?_append_left (by rw [h.1]; exact hi)]; exact a, b⟩
  · rw [List.getElem?_append_right hi] at q
    obtain ⟨w, a, b⟩ := h2.2 _ u q
    exact ⟨w, by rw [List.getElem?_append_right (by rw [h.1]; exact hi), h.1]; exact a, b⟩
theorem OrigV.one {K : PySem.W.Frag} {H : Hp} {t : PySem.Addr} {o : Out} (h : SqT K H t [.int (o.k : Int), .int (outC o)]) : OrigV K H [.ref t] [o] := ⟨rfl, fun i u q => by
  cases i with
  | zero => cases q; exact ⟨t, rfl, h⟩
  | succ j => simp at q⟩
def spOrigins (K : PySem.W.Frag) (CP CRn : PySem.Addr) : Sp := fun vs H Q _ => ∃ r held t ws n, vs = [.ref r] ∧ RunV K CP CRn H r held t ws ∧ WsOk n ws ∧ ∀ q vs' H', Same H H' → H q = none → H' q = some (.lst vs') → OrigV K H' vs' (outsOf ws) → Q (.ref q) H'
section
variable {P : Program} {w : World} {K : PySem.W.Frag} {mg : Str → Option Value} {base : Heap} {CP CRn CT : PySem.Addr}
theorem ok_result (F : MF K CRn "result" "Run.result" (sRun 3)) (TR : RunT K mg CRn) (T : PassT K mg CP) (D1 : MD P w K mg base CX0 1 CP "lines" ["self"] (spLines K CP)) : MD P w K mg base CX0 2 CRn "result" ["self"] (spResult K CP CRn) := by
  obtain ⟨f, fd, F, hm⟩ := F
  refine ⟨f, fd, F.ok scResult (fun vs H Q E h => ?_) (fun cdv A outer s H vs Q E hr h => ⟨_, pss_cons (ps_set (i := 1) scResult.nd rfl (Or.inl rfl) (pe_lst pa_nil))
      (pss_cons (ps_for PassesOwn.never rfl (pi_list (pe_fld (pv 0) rfl)) (pg_name (i := 2) scResult.nd rfl (Or.inl rfl))
        (pss_one (ps_expr (pe_bm PySem.F.plainAttrs_list PySem.F.slot_list_extend PySem.F.type_list_extend mt_extend (pv 1) (pa_cons (pe_lc (own := [("line", 3), ("number", 4)]) (g := gTup K 2 (gCons (gName 3) (gCons (gName 4) gNil))) (tt := tYes) (by rfl) scResult.nd (pi_list (pe_m0 D1 T.cl hr pass0 (pv 2)))
          (blkOk_by (N := ["self", "found", "passing", "line", "number"]) (sc := defScope (sRun 3)) (by decide +kernel)) (fun _ _ _ _ _ => pg_tup (n := 2) (by rfl) (pgs_cons (pg_name (i := 3) scResult.nd rfl (Or.inl rfl)) (pgs_cons (pg_name (i := 4) scResult.nd rfl (Or.inl rfl)) pgs_nil))) (fun _ _ _ _ _ => pts_nil) (fun _ _ _ _ _ => pv 3)) pa_nil)))))
      (pss_one (ps_ret (pv 1)))), ?_⟩), hm, F.binds fun _ _ _ _ _ _ us hl => match us, hl with | [_], _ => rfl⟩
  · obtain ⟨r, held, t, ws, n, rfl, _⟩ := h
    rfl
  · obtain ⟨r, held, t, ws, n, rfl, ⟨dr, L, vs, hr, hL, hV⟩, hW, q⟩ := h
    have hvl := hV.1
    refine ⟨by show 0 ≤ sizeLine; decide, fun pf hpf => ?_⟩
    have s0 := Same.upd (o := .lst []) hpf
    refine ⟨_, rfl, r, CRn, dr, _, _, rfl, s0 _ _ hr, TR.cl, TR.n_passed, rnF_passed _ _, L, rfl, ⟨_, SqL.of (s0 _ _ hL)⟩, for_list (K := K) (a := L) (xs := vs) (fun i σ H' => ∃ v2, σ = [some (.ref r), some (.ref pf), v2, none, none] ∧ Same H H' ∧ H' pf = some (.lst (strsOf (outXs (outsOf (ws.take i)))))) ⟨none, rfl, s0, upd_same⟩
      (fun i σ H' _ ⟨_, _, s1, _⟩ => SqL.of (s1 _ _ hL)) ?_ ?_⟩
    · rintro i y σ H1 hi ⟨v2, rfl, s1, hl⟩
      have hil := (List.getElem?_eq_some_iff.mp hi).1
      rw [hvl] at hil
      have hw : ws[i]? = some ws[i] := List.getElem?_eq_getElem hil
      obtain ⟨p, A, B, D, last, x0, g1, g2, hP, _⟩ := hV.2 i _ hw
      rw [hi] at g1
      cases g1
      have hP1 := hP.same s1
      obtain ⟨dx, hp⟩ := hP1.obj
      have hwo := hW.ok i _ hw
      have hsz := hW.take i
      have hsz1 := (outOf_ok hwo).1
      have hn := hW.n16
      refine ⟨_, rfl, .inl ⟨rfl, _, SqL.of hl⟩, _, rfl, p, dx, _, rfl, hp, pF_no _ _ _ _ _ _ _ (by decide +kernel), p, i + 1, last, x0, _, A, B, D, n, rfl, hP1, hwo, by omega, fun q1 vs1 H2 s2 hq1 hl1 hv1 => ?_⟩
      have hl1len := hv1.1
      refine ⟨q1, rfl, ⟨_, SqL.of hl1⟩, fun D2 hD2 => lc_list (K := K) (a := q1) (xs := vs1) (fun j H' => Same H2 H' ∧ H' D2 = some (.lst (strsOf (outXs ((Vaseda.outOf (i + 1) ws[i]).take j))))) ⟨Same.upd hD2, upd_same⟩
        (fun j H' _ ⟨ss, _⟩ => SqL.of (ss _ _ hl1)) (fun j y H' hy ⟨ss, hDl⟩ => ?_) fun H' ⟨ss, hDl⟩ => ?_⟩
      · have hjl := (List.getElem?_eq_some_iff.mp hy).1
        rw [hl1len] at hjl
        have ho : (Vaseda.outOf (i + 1) ws[i])[j]? = some (Vaseda.outOf (i + 1) ws[i])[j] := List.getElem?_eq_getElem hjl
        obtain ⟨v, hv, tq, rfl, sqt⟩ := hv1.2 j _ ho
        rw [hy] at hv
        cases hv
        refine ⟨tq, _, rfl, (Same.keepT ss).sq sqt, rfl, _, _, rfl, _, _, rfl, rfl, rfl, yesT ⟨_, rfl, _, hDl, ?_, Same.updD ss hD2, ?_⟩⟩
        · rw [strs_len]
          unfold outXs
          rw [List.length_map, List.length_take, sizeLine_eq]
          omega
        · rw [upd_same, take_snoc ho]
          unfold outXs
          rw [List.map_append, strs_app]
          rfl
      · rw [hl1len, List.take_length] at hDl
        have hl2 := ss _ _ (s2 _ _ hl)
        refine ⟨pf, D2, _, _, rfl, rfl, hl2, hDl, ?_, ?_⟩
        · rw [strs_len, strs_len]
          unfold outXs
          rw [List.length_map, List.length_map, sizeLine_eq]
          omega
        · refine ⟨_, rfl, Same.updD ((s1.trans s2).trans ss) hpf, ?_⟩
          rw [upd_same, outsOf_take hw]
          unfold outXs
          rw [List.map_append, strs_app]
    · rintro σ H1 ⟨v2, rfl, s1, hl⟩
      rw [hvl, List.take_length] at hl
      exact ⟨_, rfl, q pf H1 s1 hpf hl⟩
end
end Lsd
/-! Run.origins -/
namespace Lsd
open PySem PySem.Spec PyProof.Rows L2
open VasedBase hiding Tok
open Vaseda (Deed Cmd Work Out)
section
variable {P : Program} {w : World} {K : PySem.W.Frag} {mg : Str → Option Value} {base : Heap} {CP CRn CT : PySem.Addr}
theorem ok_origins (F : MF K CRn "origins" "Run.origins" (sRun 4)) (TR : RunT K mg CRn) (T : PassT K mg CP) (D1 : MD P w K mg base CX0 1 CP "lines" ["self"] (spLines K CP)) : MD P w K mg base CX0 2 CRn "origins" ["self"] (spOrigins K CP CRn) := by
  obtain ⟨f, fd, F, hm⟩ := F
  refine ⟨f, fd, F.ok scOrigins (fun vs H Q E h => ?_) (fun cdv A outer s H vs Q E hr h => ⟨_, pss_cons (ps_set (i := 1) scOrigins.nd rfl (Or.inl rfl) (pe_lst pa_nil))
      (pss_cons (ps_for PassesOwn.never rfl (pi_list (pe_fld (pv 0) rfl)) (pg_name (i := 2) scOrigins.nd rfl (Or.inr rfl))
        (pss_one (ps_expr (pe_bm PySem.F.plainAttrs_list PySem.F.slot_list_extend PySem.F.type_list_extend mt_extend (pv 1) (pa_cons (pe_lc (own := [("line", 3), ("number", 4)]) (g := gTup K 2 (gCons (gName 3) (gCons (gName 4) gNil))) (tt := tYes) (te := tTup (tCons (tFld K (tVar 2) "number") (tCons (tVar 4) tNil))) (by rfl) scOrigins.nd (pi_list (pe_m0 D1 T.cl hr pass0 (pv 2)))
          (blkOk_by (N := ["self", "found", "passing", "line", "number"]) (sc := defScope (sRun 4)) (by decide +kernel)) (fun _ _ _ _ _ => pg_tup (n := 2) (by rfl) (pgs_cons (pg_name (i := 3) scOrigins.nd rfl (Or.inl rfl)) (pgs_cons (pg_name (i := 4) scOrigins.nd rfl (Or.inl rfl)) pgs_nil))) (fun _ _ _ _ _ => pts_nil) (fun _ _ _ _ _ => pe_tup (pa_cons (pe_fld (pv 2) rfl) (pa_cons (pv 4) pa_nil)))) pa_nil)))))
      (pss_one (ps_ret (pv 1)))), ?_⟩), hm, F.binds fun _ _ _ _ _ _ us hl => match us, hl with | [_], _ => rfl⟩
  · obtain ⟨r, held, t, ws, n, rfl, _⟩ := h
    rfl
  · obtain ⟨r, held, t, ws, n, rfl, ⟨dr, L, vs, hr, hL, hV⟩, hW, q⟩ := h
    have hvl := hV.1
    refine ⟨by show 0 ≤ sizeLine; decide, fun pf hpf => ?_⟩
    have s0 := Same.upd (o := .lst []) hpf
    refine ⟨_, rfl, r, CRn, dr, _, _, rfl, s0 _ _ hr, TR.cl, TR.n_passed, rnF_passed _ _, L, rfl, ⟨_, SqL.of (s0 _ _ hL)⟩, for_list (K := K) (a := L) (xs := vs) (fun i σ H' => ∃ v2 vs', σ = [some (.ref r), some (.ref pf), v2, none, none] ∧ Same H H' ∧ H' pf = some (.lst vs') ∧ OrigV K H' vs' (outsOf (ws.take i))) ⟨none, [], rfl, s0, upd_same, OrigV.nil _ _⟩
      (fun i σ H' _ ⟨_, _, _, s1, _⟩ => SqL.of (s1 _ _ hL)) ?_ ?_⟩
    · rintro i y σ H1 hi ⟨v2, vs', rfl, s1, hl, hov⟩
      have hil := (List.getElem?_eq_some_iff.mp hi).1
      rw [hvl] at hil
      have hw : ws[i]? = some ws[i] := List.getElem?_eq_getElem hil
      obtain ⟨p, A, B, D, last, x0, g1, g2, hP, _⟩ := hV.2 i _ hw
      rw [hi] at g1
      cases g1
      have hP1 := hP.same s1
      obtain ⟨dx, hp⟩ := hP1.obj
      have hwo := hW.ok i _ hw
      have hsz := hW.take i
      have hsz1 := (outOf_ok hwo).1
      have hsk := (outOf_ok hwo).2
      have hn := hW.n16
      have hovl := hov.1
      refine ⟨_, rfl, .inl ⟨rfl, _, SqL.of hl⟩, _, rfl, p, dx, _, rfl, hp, pF_no _ _ _ _ _ _ _ (by decide +kernel), p, i + 1, last, x0, _, A, B, D, n, rfl, hP1, hwo, by omega, fun q1 vs1 H2 s2 hq1 hl1 hv1 => ?_⟩
      have hl1len := hv1.1
      have hp2 := s2 _ _ hp
      refine ⟨q1, rfl, ⟨_, SqL.of hl1⟩, fun D2 hD2 => lc_list (K := K) (a := q1) (xs := vs1) (fun j H' => Same H2 H' ∧ ∃ us, H' D2 = some (.lst us) ∧ OrigV K H' us ((Vaseda.outOf (i + 1) ws[i]).take j)) ⟨Same.upd hD2, [], upd_same, OrigV.nil _ _⟩
        (fun j H' _ ⟨ss, _⟩ => SqL.of (ss _ _ hl1)) (fun j y H' hy ⟨ss, us, hDl, hus⟩ => ?_) fun H' ⟨ss, us, hDl, hus⟩ => ?_⟩
      · have hjl := (List.getElem?_eq_some_iff.mp hy).1
        rw [hl1len] at hjl
        have ho : (Vaseda.outOf (i + 1) ws[i])[j]? = some (Vaseda.outOf (i + 1) ws[i])[j] := List.getElem?_eq_getElem hjl
        obtain ⟨v, hv, tq, rfl, sqt⟩ := hv1.2 j _ ho
        rw [hy] at hv
        cases hv
        have hk := (hsk _ (List.getElem_mem hjl)).1
        have husl := hus.1
        rw [List.length_take] at husl
        refine ⟨tq, _, rfl, (Same.keepT ss).sq sqt, rfl, _, _, rfl, _, _, rfl, rfl, rfl, yesT ⟨_, rfl, p, CP, dx, _, _, rfl, ss _ _ hp2, T.cl, T.n_number, pF_number _ _ _ _ _ _ _, _, rfl, by show 2 ≤ sizeLine; decide, fun tt htt => ?_⟩⟩
        have s3 := Same.upd (o := .tup [.int ((i + 1 : Nat) : Int), .int (outC (Vaseda.outOf (i + 1) ws[i])[j])]) htt
        refine ⟨us, s3 _ _ hDl, by rw [sizeLine_eq]; omega, Same.updD (ss.trans s3) hD2, _, upd_same, ?_⟩
        rw [take_snoc ho]
        refine OrigV.app (hus.keep ((Same.keepT s3).trans (KeepT.updl (s3 _ _ hDl)))) (OrigV.one ?_)
        rw [hk]
        exact (KeepT.updl (s3 _ _ hDl)).sq (SqT.of upd_same)
      · rw [hl1len, List.take_length] at hus
        have husl := hus.1
        have hl2 := ss _ _ (s2 _ _ hl)
        refine ⟨pf, D2, _, _, rfl, rfl, hl2, hDl, by rw [sizeLine_eq]; omega, ?_⟩
        refine ⟨_, _, rfl, Same.updD ((s1.trans s2).trans ss) hpf, upd_same, ?_⟩
        rw [outsOf_take hw]
        have kt := KeepT.updl (o := .lst (vs' ++ us)) hl2
        exact OrigV.app (hov.keep (((Same.keepT s2).trans (Same.keepT ss)).trans kt)) (hus.keep kt)
    · rintro σ H1 ⟨v2, vs', rfl, s1, hl, hov⟩
      rw [hvl, List.take_length] at hov
      exact ⟨_, rfl, q pf vs' H1 s1 hpf hl hov⟩
end
end Lsd
/-! Run.__init__ -/
namespace Lsd
open PySem PySem.Spec PyProof.Rows L2
open VasedBase hiding Tok
open Vaseda (Deed Cmd Work Out)
theorem Keep.fresh {S S' : List PySem.Addr} {H H1 H2 : Hp} (k1 : Keep S H H1) (k2 : Keep S' H1 H2) (h : ∀ x ∈ S', x ∈ S ∨ H x = none) : Keep S H H2 := fun b o e n => k2 b o (k1 b o e n) fun m => by
  rcases h b m with z | z
  · exact n z
  · rw [z] at e; cases e
theorem Keep.none {S : List PySem.Addr} {H H1 : Hp} (k : Keep S H H1) {x : PySem.Addr} (h : H1 x = none) (n : x ∉ S) : H x = none := by
  cases e : H x with
  | none => rfl
  | some o => rw [k x o e n] at h; cases h
theorem PassedV.keep {K : PySem.W.Frag} {CP CRn : PySem.Addr} {H H' : Hp} {L r dr : PySem.Addr} {held : Bytes} {xs : List V} {vs : List V} {t : List Bytes} {ws : List Work} {S : List PySem.Addr} (h : PassedV K CP H L vs t ws) (k : Keep S H H') (kt : KeepT H H') (hr : H r = some (.ins CRn dr (rnF held L))) (hL : H L = some (.lst xs))
    (hS : ∀ x ∈ S, x = L ∨ x = r ∨ H x = none) : PassedV K CP H' L vs t ws := by
  refine ⟨h.1, fun i w e => ?_⟩
  obtain ⟨p, A, B, D, last, x0, a, b, c, n1, n2, n3⟩ := h.2 i w e
  obtain ⟨⟨dx, hp⟩, ⟨va, ha, _⟩, ⟨vb, hb, _⟩, hd, _⟩ := id c
  have npL : p ≠ L := fun z => by rw [z, hL] at hp; cases hp
  have npr := ins_ne hp hr
  refine ⟨p, A, B, D, last, x0, a, b, c.keep k kt (fun m => ?_) (fun m => ?_) (fun m => ?_) (fun m => ?_), n1, n2, n3⟩
  · rcases hS p m with z | z | z
    · exact npL z
    · exact npr z.symm
    · rw [z] at hp; cases hp
  · rcases hS A m with z | z | z
    · exact n1 z
    · exact lst_ne hr ha z
    · rw [z] at ha; cases ha
  · rcases hS B m with z | z | z
    · exact n2 z
    · exact lst_ne hr hb z
    · rw [z] at hb; cases hb
  · rcases hS D m with z | z | z
    · exact n3 z
    · exact lst_ne hr hd z
    · rw [z] at hd; cases hd
theorem PassedV.snoc {K : PySem.W.Frag} {CP : PySem.Addr} {H : Hp} {L : PySem.Addr} {vs : List V} {t : List Bytes} {ws : List Work} {w : Work} {p A B D : PySem.Addr} {last : Bool} {x0 : Bytes} (h : PassedV K CP H L vs t ws) (hx : t[ws.length]? = some x0) (hP : PassX K CP H p (ws.length + 1) last x0 w A B D) (n1 : A ≠ L) (n2 : B ≠ L) (n3 : D ≠ L) :
    PassedV K CP H L (vs ++ [.ref p]) t (ws ++ [w]) := by
  refine ⟨by rw [List.length_append, List.length_append, h.1] <;> rfl, fun i u q => ?_⟩
  rcases Nat.lt_or_ge i ws.length with hi | hi
  · rw [List.getElem?_append_left hi] at q
    obtain ⟨p2, A2, B2, D2, last2, x2, a, r⟩ := h.2 i u q
    exact ⟨p2, A2, B2, D2, last2, x2, by rw [List.getElem?_append_left (by rw [h.1]; exact hi)]; exact a, r⟩
  · rw [List.getElem?_append_right hi] at q
    have e : i = ws.length := by
      have := (List.getElem?_eq_some_iff.mp q).1
      simp at this
      omega
    subst e
    simp at q
    subst q
    exact ⟨p, A, B, D, last, x0, by rw [← h.1]; simp, hx, hP, n1, n2, n3⟩
theorem scRunInit : FnScope ["self", "commands", "text", "at", "line"] ["self", "commands", "text"] (defScope (sRun 0)) := ⟨rfl, rfl, rfl, by decide +kernel, rfl, by decide +kernel, by decide +kernel⟩
def spRunInit (K : PySem.W.Frag) (CP CRn CT : PySem.Addr) : Sp := fun vs H Q E => ∃ r a tx dr s t, vs = [.ref r, .ref a, .ref tx] ∧ H r = some (.ins CRn dr []) ∧ CmdsAt K H a s ∧ H tx = some (.lst (strsOf t)) ∧ (∀ x ∈ t, x.length ≤ 16) ∧ ((24 < t.length ∨ Vaseda.run s t = none) → TooK CT E [r] H) ∧
  (∀ res, t.length ≤ 24 → Vaseda.run s t = some res → ∀ H', Keep [r] H H' → RunV K CP CRn H' r res.held t (Vaseda.works s t) → Q .non H')
def InitS (K : PySem.W.Frag) (CP CRn r a tx L dr : PySem.Addr) (s : List Cmd) (t : List Bytes) (Hb : Hp) (i : Nat) (σ : L2.St) (H' : Hp) : Prop := ∃ v3 v4 vs, σ = [some (.ref r), some (.ref a), some (.ref tx), v3, v4] ∧ Keep [r, L] Hb H' ∧ KeepT Hb H' ∧ (∃ dr, H' r = some (.ins CRn dr (rnF (heldOf [] ((Vaseda.works s t).take i)) L))) ∧
  H' L = some (.lst vs) ∧ PassedV K CP H' L vs t ((Vaseda.works s t).take i) ∧ ∀ (j : Nat) (w : Work), ((Vaseda.works s t).take i)[j]? = some w → WOk (j + 1) s.length w
section
variable {X : Cx} {CX : CXT} {k : Nat} {C : PySem.Addr} {x : Str} {ps : List Str} {sp : Sp} {E : XK} {t : TA} {e : Expr} {es : List Expr} {p pos : Pos}
theorem pe_mk (D : MkD X.prog X.w X.K X.mg X.base CX k C ps sp) (hr : Room (k + 1) X.A) (hm : X.mg x = some (.ref C)) (hx : Passes CX X E) (ha : PA X (e :: es) t) (hg : Gl X x := by rfl) (hdb : (x == ("__debug__" : Str)) = false := by decide)
    (he : starEach (e :: es) X.env = (false, eval e X.env) :: starEach es X.env := by rfl) (hpl : (backTo pos (starEach es X.env)).any (·.1) = false := by rfl) : PE X (.Call (.Name x p) (e :: es) [] pos) (tMake C sp [] E t) := by
  obtain ⟨f, fd, F, M, hb⟩ := D.ex
  exact L2.pe_make M F hr hg hm hb .nil hx ha hdb he hpl
end
section
variable {P : Program} {w : World} {K : PySem.W.Frag} {mg : Str → Option Value} {base : Heap} {CP CRn CT : PySem.Addr}
theorem ok_run_init (F : InitF K CRn "Run.__init__" (sRun 0)) (TR : RunT K mg CRn) (T : PassT K mg CP) (TT : TooT K mg CT) (ml : mg "len" = none) (me : mg "enumerate" = none) (cM : GC mg "MOST_LINES" (.int 24)) (cR : GC mg "MOST_RESULT" (.int 60))
    (D1 : MkD P w K mg base CX0 1 CP ["self", "number", "is_last", "line"] (spPassInit K CP)) (D2 : MD P w K mg base (L2.CX P w) 4 CRn "pass_by" ["self", "commands", "passing"] (spPassBy K CP CRn CT)) (D3 : MD P w K mg base CX0 2 CRn "result" ["self"] (spResult K CP CRn)) :
    MkD P w K mg base (L2.CX P w) 5 CRn ["self", "commands", "text"] (spRunInit K CP CRn CT) := by
  obtain ⟨f, fd, F, hm⟩ := F
  refine ⟨f, fd, F.okX scRunInit (fun vs H Q E h => ?_) (fun cdv A outer s H vs Q E hr h => ⟨_, pss_cons (ps_if (pt_cmpR op_gt (pe_callB call_len_seq (by rfl) ml boot_len (pa_cons (pv 2) pa_nil)) (pe_gc cM) (nomark _))
        (pss_one (ps_raise rfl (takes_of rfl rfl rfl rfl) (pmk_own PySem.F.excBase_ValueError TT.x TT.g TT.k (raises_own TT.b TT.t) (by exact rfl)))) pss_nil)
      (pss_cons (ps_fld (pv 0) pe_str rfl) (pss_cons (ps_fld (pv 0) (pe_lst pa_nil) rfl)
      (pss_cons (ps_for (passes_of rfl) rfl (pi_enum (by rfl) me (pa_cons (pv 2) pa_nil)) (pg_tup (n := 2) rfl (pgs_cons (pg_name (i := 3) scRunInit.nd rfl (Or.inl rfl)) (pgs_cons (pg_name (i := 4) scRunInit.nd rfl (Or.inl rfl)) pgs_nil)))
        (pss_cons (ps_expr (pe_bm PySem.F.plainAttrs_list PySem.F.slot_list_append PySem.F.type_list_append mt_append (pe_fld (pv 0) rfl) (pa_cons (pe_mk D1 (hr.mono (by decide)) T.gl pass0 (pa_cons (pe_op op_add (pv 3) L2.pe_int) (pa_cons (pe_cmpR op_eq (pe_op op_add (pv 3) L2.pe_int) (pe_callB call_len_seq (by rfl) ml boot_len (pa_cons (pv 2) pa_nil)) (nomark _)) (pa_cons (pv 4) pa_nil)))) pa_nil)))
          (pss_one (ps_expr (pe_m D2 TR.cl hr (passW (takes_of rfl rfl rfl rfl)) (pv 0) (pa_cons (pv 1) (pa_cons (pe_ix ix_list (pe_fld (pv 0) rfl) (pv 3) (fun _ _ => rfl)) pa_nil)))))))
      (pss_one (ps_if (pt_cmpR op_gt (pe_callB call_len_seq (by rfl) ml boot_len (pa_cons (pe_m0 D3 TR.cl (hr.mono (by decide)) pass0 (pv 0)) pa_nil)) (pe_gc cR) (nomark _))
        (pss_one (ps_raise rfl (takes_of rfl rfl rfl rfl) (pmk_own PySem.F.excBase_ValueError TT.x TT.g TT.k (raises_own TT.b TT.t) (by exact rfl)))) pss_nil))))), ?_⟩), hm, F.binds fun _ _ _ _ _ _ us hl => match us, hl with | [_, _, _], _ => rfl⟩
  · obtain ⟨r, a, tx, dr, s, t, rfl, _⟩ := h
    rfl
  · obtain ⟨r, a, tx, dr, s, t, rfl, hr0, hC, htx, hx16, q0, q1⟩ := h
    refine ⟨_, rfl, tx, _, rfl, Or.inl (SqL.of htx), _, _, rfl, rfl, _, rfl, ?_⟩
    rw [strs_len]
    refine ite2 (fun c => ?_) fun c => ?_
    · exact q0 (.inl (by have : (24 : Int) < (t.length : Int) := by simpa using c
                         omega)) H (Keep.refl _ _)
    have hlen : t.length ≤ 24 := by
      have : ¬ (24 : Int) < (t.length : Int) := by simpa using c
      omega
    refine ⟨_, rfl, r, CRn, dr, _, rfl, hr0, TR.cl, TR.n_held, by show 0 < 1000; decide, ?_⟩
    refine ⟨by show 0 ≤ sizeLine; decide, fun L hL => ?_⟩
    have nLr : L ≠ r := fun z => by rw [z, upd_same] at hL; cases hL
    refine ⟨_, rfl, r, CRn, dr, _, rfl, (upd_ne (Ne.symm nLr)).trans upd_same, TR.cl, TR.n_passed, by show 1 < 1000; decide, ?_⟩
    have ef : putF "passed" (.ref L) (putF "held" (.str (Str.ofString "")) []) = rnF [] L := by
      rw [empty_word]
      exact (putF_past (by decide +kernel)).trans rfl
    rw [ef]
    have hL0 : H L = none := (upd_ne nLr).symm.trans hL
    have hrb := upd_same (H := upd (upd H r (.ins CRn dr (putF "held" (.str (Str.ofString "")) []))) L (.lst [])) (a := r) (o := .ins CRn dr (rnF [] L))
    have hLb : upd (upd (upd H r (.ins CRn dr (putF "held" (.str (Str.ofString "")) []))) L (.lst [])) r (.ins CRn dr (rnF [] L)) L = some (.lst []) := (upd_ne nLr).trans upd_same
    have kb : Keep [r] H (upd (upd (upd H r (.ins CRn dr (putF "held" (.str (Str.ofString "")) []))) L (.lst [])) r (.ins CRn dr (rnF [] L))) := ((keepp _ _).trans (keepn hL)).trans (keepp _ _)
    generalize upd (upd (upd H r (.ins CRn dr (putF "held" (.str (Str.ofString "")) []))) L (.lst [])) r (.ins CRn dr (rnF [] L)) = Hb at hrb hLb kb ⊢
    have hrT : ∀ x ∈ [r], (∀ xs, H x ≠ some (.tup xs)) ∧ ∀ o u, H x ≠ some (.frz o u) := fun x hx => by
      have e : x = r := by simpa using hx
      subst e
      exact ⟨fun xs z => (by rw [hr0] at z; cases z), fun o u z => (by rw [hr0] at z; cases z)⟩
    have ktb : KeepT H Hb := Keep.keepT kb hrT
    have ntx : tx ≠ r := fun z => by rw [z, hr0] at htx; cases htx
    have htxb := kb _ _ htx (by simpa using ntx)
    have nar : a ≠ r := by
      obtain ⟨⟨ys, hys, _⟩, _, _⟩ := id hC
      intro z
      rw [z, hr0] at hys
      cases hys
    have hasked : Asked s t := ⟨hC.ok, hC.few, hx16⟩
    have hwl : (Vaseda.works s t).length = t.length := works_len s t 1 []
    refine ⟨_, rfl, tx, _, rfl, SqL.of htxb, ?_⟩
    have ntxL : tx ≠ L := fun z => by rw [z, hL0] at htx; cases htx
    refine for_gen (n := t.length) (InitS K CP CRn r a tx L dr s t Hb) ⟨none, none, [], rfl, Keep.refl _ _, KeepT.refl _, ⟨dr, hrb⟩, hLb, ⟨rfl, fun i w e => by simp at e⟩, fun j w e => by simp at e⟩ ?_ ?_ ?_ ?_
    · rintro i σ H1 hi ⟨v3, v4, vs, rfl, k1, _⟩
      exact ⟨strsOf t, _, SqL.of (k1 _ _ htxb (by simp [ntx, ntxL])), List.getElem?_eq_getElem (by rw [strs_len]; exact hi)⟩
    · rintro σ H1 ⟨v3, v4, vs, rfl, k1, _⟩
      exact ⟨strsOf t, SqL.of (k1 _ _ htxb (by simp [ntx, ntxL])), Nat.le_of_eq (strs_len t)⟩
    · rintro i xx σ H1 H2 hi ⟨v3, v4, vs, rfl, k1, kt1, ⟨dr1, hr1⟩, hL1, hV1, hW1⟩ ⟨Tt, y, rfl, hT, rfl, hy⟩
      have htx1 := k1 _ _ htxb (by simp [ntx, ntxL])
      have hxi : t[i]? = some t[i] := List.getElem?_eq_getElem hi
      have hs1 : (strsOf t)[i]? = some (.str (sT t[i])) := by unfold strsOf; rw [List.getElem?_map, hxi] <;> rfl
      have ey := hy _ (SqL.of htx1)
      rw [hs1] at ey
      cases ey
      have kH1 : Keep [r] H H1 := Keep.fresh kb k1 fun x m => by
        have m' : x = r ∨ x = L := by simpa using m
        rcases m' with z | z
        · exact .inl (by simp [z])
        · exact .inr (by rw [z]; exact hL0)
      have ktH1 : KeepT H H1 := ktb.trans kt1
      have s2 := Same.upd (o := .tup [.int ((i : Nat) : Int), .str (sT t[i])]) hT
      have hkT := SqT.of (K := K) (upd_same (H := H1) (a := Tt) (o := .tup [.int ((i : Nat) : Int), .str (sT t[i])]))
      generalize upd H1 Tt (.tup [.int ((i : Nat) : Int), .str (sT t[i])]) = H2 at s2 hkT ⊢
      have hr2 := s2 _ _ hr1
      have hL2 := s2 _ _ hL1
      have htx2 := s2 _ _ htx1
      have hvl := hV1.1
      have htl : ((Vaseda.works s t).take i).length = i := by rw [List.length_take, hwl, Nat.min_eq_left (Nat.le_of_lt hi)]
      refine ⟨Tt, _, rfl, hkT, rfl, _, _, rfl, _, _, rfl, rfl, ?_⟩
      refine ⟨_, rfl, r, CRn, dr1, _, _, rfl, hr2, TR.cl, TR.n_passed, rnF_passed _ _, .inl ⟨rfl, _, SqL.of hL2⟩, _, rfl, _, _, rfl, rfl, _, rfl, _, _, rfl, rfl, _, rfl, tx, _, rfl, Or.inl (SqL.of htx2), rfl, _, rfl, fun p dxp hp hdxp hne => ?_⟩
      refine ⟨p, dxp, i + 1, _, t[i], rfl, upd_same, fun A B D H3 k3 hA hB hD hP => ⟨rfl, ?_⟩⟩
      have elast : decide (V.int (((i : Nat) : Int) + 1) = V.int ((strsOf t).length : Nat)) = decide (i + 1 = t.length) := by
        rw [strs_len, Bool.eq_iff_iff, decide_eq_true_eq, decide_eq_true_eq, V.int.injEq]
        omega
      rw [elast] at hP
      have old2 : ∀ b o, H2 b = some o → upd (upd H2 dxp (.own p)) p (.ins CP dxp []) b = some o := fun b o e => by
        rw [upd_ne (ne_of_none e hp), upd_ne (ne_of_none e hdxp)]
        exact e
      have s3 : Same H2 H3 := fun b o e => k3 b o (old2 b o e) (by simpa using ne_of_none e hp)
      have hL3 := s3 _ _ hL2
      have hr3 := s3 _ _ hr2
      have nAL : A ≠ L := fun z => by rw [z, old2 _ _ hL2] at hA; cases hA
      have nBL : B ≠ L := fun z => by rw [z, old2 _ _ hL2] at hB; cases hB
      have nDL : D ≠ L := fun z => by rw [z, old2 _ _ hL2] at hD; cases hD
      have npL : p ≠ L := fun z => by rw [z, hL2] at hp; cases hp
      have none2 : ∀ x, upd (upd H2 dxp (.own p)) p (.ins CP dxp []) x = none → H2 x = none := fun x h => by
        cases e : H2 x with
        | none => rfl
        | some o => rw [old2 _ _ e] at h; cases h
      have hA2 := none2 _ hA
      have hB2 := none2 _ hB
      have hD2 := none2 _ hD
      refine ⟨L, vs, _, rfl, rfl, hL3, by rw [hvl, htl, sizeLine_eq]; omega, ?_⟩
      have k4 : Keep [L] H3 (upd H3 L (.lst (vs ++ [.ref p]))) := Keep.upd (.inr (by simp))
      have kt4 : KeepT H3 (upd H3 L (.lst (vs ++ [.ref p]))) := KeepT.updl hL3
      have hr4 := (upd_ne (o := .lst (vs ++ [.ref p])) (Ne.symm (lst_ne hr3 hL3))).trans hr3
      have hL4 := upd_same (H := H3) (a := L) (o := .lst (vs ++ [.ref p]))
      have hP4 : ∀ held, PassX K CP (upd H3 L (.lst (vs ++ [.ref p]))) p (i + 1) (decide (i + 1 = t.length)) t[i] (w0 t[i] held) A B D := fun held => (hP held).keep k4 kt4 (by simpa using npL) (by simpa using nAL) (by simpa using nBL) (by simpa using nDL)
      generalize upd H3 L (.lst (vs ++ [.ref p])) = H4 at k4 kt4 hr4 hL4 hP4 ⊢
      have kt3 : KeepT H2 H3 := Same.keepT s3
      have ktH4 : KeepT H H4 := ((ktH1.trans (Same.keepT s2)).trans kt3).trans kt4
      have kH2 : Keep [r] H H2 := kH1.trans (Keep.of s2)
      have kH4 : Keep [r] H H4 := Keep.fresh (kH2.trans (Keep.of s3)) k4 fun x m => .inr (by
        have : x = L := by simpa using m
        rw [this]; exact hL0)
      have npr : p ≠ r := fun z => by rw [z, hr2] at hp; cases hp
      have nAr : A ≠ r := fun z => by rw [z, hr2] at hA2; cases hA2
      have nBr : B ≠ r := fun z => by rw [z, hr2] at hB2; cases hB2
      have nDr : D ≠ r := fun z => by rw [z, hr2] at hD2; cases hD2
      have hp0 : H p = none := kH2.none hp (by simpa using npr)
      have hA0 : H A = none := kH2.none hA2 (by simpa using nAr)
      have hB0 : H B = none := kH2.none hB2 (by simpa using nBr)
      have hD0 : H D = none := kH2.none hD2 (by simpa using nDr)
      have hC4 : CmdsAt K H4 a s := hC.keep kH4 ktH4 (by simpa using nar)
      have haS : a ∉ [r, p, A, B, D] := by
        obtain ⟨⟨ys, hys, _⟩, _, _⟩ := id hC
        intro m
        have m' : a = r ∨ a = p ∨ a = A ∨ a = B ∨ a = D := by simpa using m
        rcases m' with z | z | z | z | z
        · exact nar z
        · rw [z, hp0] at hys; cases hys
        · rw [z, hA0] at hys; cases hys
        · rw [z, hB0] at hys; cases hys
        · rw [z, hD0] at hys; cases hys
      have ew := works_at s t 1 [] i _ hxi
      have ew' : (Vaseda.works s t)[i]? = some (Vaseda.lineRun s (i + 1) (decide (i + 1 = t.length)) t[i] (heldOf [] ((Vaseda.works s t).take i))) := by
        rw [Nat.add_comm 1 i] at ew
        exact ew
      have hheld : (heldOf [] ((Vaseda.works s t).take i)).length ≤ 16 := by
        unfold heldOf
        cases e : ((Vaseda.works s t).take i).getLast? with
        | none => exact Nat.zero_le _
        | some w =>
          obtain ⟨j, hj⟩ := List.getElem?_of_mem (List.mem_of_getLast? e)
          exact (hW1 j w hj).held
      have hxl := hx16 _ (List.getElem_mem hi)
      refine ⟨_, rfl, r, dr1, _, rfl, hr4, rnF_no _ _ (by decide +kernel), _, rfl, _, rfl, r, CRn, dr1, _, _, rfl, hr4, TR.cl, TR.n_passed, rnF_passed _ _, _, rfl, L, _, _, .ref p, rfl, rfl, SqL.of hL4, atI_nat (j := i) (by rw [← htl, ← hvl]; simp), ?_⟩
      refine ⟨r, a, p, s, _, L, i + 1, _, t[i], t[i], A, B, D, rfl, hC4, ⟨dr1, hr4⟩, hP4 _, hxl, hheld, haS, fun hb => ?_, fun hb H5 k5 hr5 hP5 => ?_⟩
      · have hnone : Vaseda.run s t = none := by
          rw [run_eq, if_pos]
          left
          rw [List.any_eq_true]
          exact ⟨_, List.mem_of_getElem? ew', hb⟩
        intro H' k'
        refine q0 (.inr hnone) H' (Keep.fresh kH4 k' fun x m => ?_)
        have m' : x = r ∨ x = p ∨ x = A ∨ x = B ∨ x = D := by simpa using m
        rcases m' with z | z | z | z | z
        · exact .inl (by simp [z])
        · exact .inr (by rw [z]; exact hp0)
        · exact .inr (by rw [z]; exact hA0)
        · exact .inr (by rw [z]; exact hB0)
        · exact .inr (by rw [z]; exact hD0)
      · have hwok := line_ok (k := i + 1) (last := decide (i + 1 = t.length)) hC.ok hxl hheld hb
        have et := take_snoc ew'
        have hL5 := k5 _ _ hL4 (by simp only [List.mem_cons, List.not_mem_nil, or_false, not_or]; exact ⟨lst_ne hr4 hL4, Ne.symm npL, Ne.symm nAL, Ne.symm nBL, Ne.symm nDL⟩)
        have kA : Keep [r, L, p, A, B, D] H1 H5 := (((Keep.of s2).trans (Keep.of s3)).trans (Keep.mono k4 fun x m => by
          have : x = L := by simpa using m
          simp [this])).trans (Keep.mono k5 fun x m => by
          have m' : x = r ∨ x = p ∨ x = A ∨ x = B ∨ x = D := by simpa using m
          rcases m' with z | z | z | z | z <;> simp [z])
        have hS : ∀ x ∈ [r, L, p, A, B, D], x = L ∨ x = r ∨ H1 x = none := fun x m => by
          have m' : x = r ∨ x = L ∨ x = p ∨ x = A ∨ x = B ∨ x = D := by simpa using m
          rcases m' with z | z | z | z | z | z
          · exact .inr (.inl z)
          · exact .inl z
          · exact .inr (.inr (by rw [z]; exact none_of s2 hp))
          · exact .inr (.inr (by rw [z]; exact none_of s2 hA2))
          · exact .inr (.inr (by rw [z]; exact none_of s2 hB2))
          · exact .inr (.inr (by rw [z]; exact none_of s2 hD2))
        have kt5 : KeepT H1 H5 := Keep.keepT kA fun x m => by
          rcases hS x m with z | z | z
          · rw [z]
            exact ⟨fun xs q => (by rw [hL1] at q; cases q), fun o u q => (by rw [hL1] at q; cases q)⟩
          · rw [z]
            exact ⟨fun xs q => (by rw [hr1] at q; cases q), fun o u q => (by rw [hr1] at q; cases q)⟩
          · exact ⟨fun xs q => (by rw [z] at q; cases q), fun o u q => (by rw [z] at q; cases q)⟩
        have hV5 := hV1.keep kA kt5 hr1 hL1 hS
        obtain ⟨dr5, hr5⟩ := hr5
        unfold InitS
        rw [et]
        refine ⟨_, _, _, rfl, Keep.fresh k1 kA fun x m => ?_, kt1.trans kt5, ⟨dr5, ?_⟩, hL5, hV5.snoc (by rw [htl]; exact hxi) (by rw [htl]; exact hP5) nAL nBL nDL, fun j w e => ?_⟩
        · have m' : x = r ∨ x = L ∨ x = p ∨ x = A ∨ x = B ∨ x = D := by simpa using m
          rcases m' with z | z | z | z | z | z
          · exact .inl (by simp [z])
          · exact .inl (by simp [z])
          · exact .inr (by rw [z]; exact k1.none (none_of s2 hp) (by simp [npr, npL]))
          · exact .inr (by rw [z]; exact k1.none (none_of s2 hA2) (by simp [nAr, nAL]))
          · exact .inr (by rw [z]; exact k1.none (none_of s2 hB2) (by simp [nBr, nBL]))
          · exact .inr (by rw [z]; exact k1.none (none_of s2 hD2) (by simp [nDr, nDL]))
        · rw [heldOf_snoc]
          exact hr5
        · rcases Nat.lt_or_ge j i with hj | hj
          · rw [List.getElem?_append_left (by rw [htl]; exact hj)] at e
            exact hW1 j w e
          · rw [List.getElem?_append_right (by rw [htl]; exact hj), htl] at e
            have ej : j = i := by
              have := (List.getElem?_eq_some_iff.mp e).1
              simp at this
              omega
            subst ej
            simp at e
            rw [← e]
            exact hwok
    · rintro σ H1 ⟨v3, v4, vs, rfl, k1, kt1, ⟨dr1, hr1⟩, hL1, hV1, hW1⟩
      have etk : (Vaseda.works s t).take t.length = Vaseda.works s t := List.take_of_length_le (by rw [hwl] <;> exact Nat.le_refl _)
      rw [etk] at hr1 hV1 hW1
      have kH1 : Keep [r] H H1 := Keep.fresh kb k1 fun x m => by
        have m' : x = r ∨ x = L := by simpa using m
        rcases m' with z | z
        · exact .inl (by simp [z])
        · exact .inr (by rw [z]; exact hL0)
      have hRV : RunV K CP CRn H1 r (heldOf [] (Vaseda.works s t)) t (Vaseda.works s t) := ⟨dr1, L, vs, hr1, hL1, hV1⟩
      refine ⟨_, rfl, r, dr1, _, rfl, hr1, rnF_no _ _ (by decide +kernel), r, _, t, _, s.length, rfl, hRV, ⟨hW1, hC.few, by rw [hwl]; exact hlen⟩, fun q2 H2 s2 hq2 hl2 => ⟨q2, _, rfl, Or.inl (SqL.of hl2), _, _, rfl, rfl, _, rfl, ?_⟩⟩
      have el : (strsOf (outXs (outsOf (Vaseda.works s t)))).length = (outsOf (Vaseda.works s t)).length := by rw [strs_len]; unfold outXs; rw [List.length_map]
      rw [el]
      have hnb : (Vaseda.works s t).any (fun w => w.bad) = false := by
        rw [List.any_eq_false]
        intro w m
        obtain ⟨j, hj⟩ := List.getElem?_of_mem m
        rw [(hW1 j w hj).bad]
        exact Bool.false_ne_true
      refine ite2 (fun c => ?_) fun c => ?_
      · have c' : 60 < (outsOf (Vaseda.works s t)).length := by
          have : (60 : Int) < ((outsOf (Vaseda.works s t)).length : Int) := by simpa using c
          omega
        exact q0 (.inr (by rw [run_eq, if_pos (.inr c')])) H2 (kH1.trans (Keep.of s2))
      · have c' : ¬ 60 < (outsOf (Vaseda.works s t)).length := by
          have : ¬ (60 : Int) < ((outsOf (Vaseda.works s t)).length : Int) := by simpa using c
          omega
        refine q1 ⟨outsOf (Vaseda.works s t), heldOf [] (Vaseda.works s t)⟩ hlen ?_ H2 (kH1.trans (Keep.of s2)) (hRV.same s2)
        rw [run_eq, if_neg]
        rintro (z | z)
        · rw [hnb] at z; cases z
        · exact c' z
end
end Lsd
/-! run_again, runs_to_rest -/
namespace Lsd
open PySem PySem.Spec PyProof.Rows L2
open VasedBase hiding Tok
open Vaseda (Deed Cmd Work Out)
abbrev sAgain : Stmt := top 57
abbrev sToRest : Stmt := top 58
theorem scAgain : FnScope ["commands", "text", "many", "turn"] ["commands", "text", "many"] (defScope sAgain) := ⟨rfl, rfl, rfl, by decide +kernel, rfl, by decide +kernel, by decide +kernel⟩
theorem scToRest : FnScope ["commands", "text", "most", "many", "following"] ["commands", "text", "most"] (defScope sToRest) := ⟨rfl, rfl, rfl, by decide +kernel, rfl, by decide +kernel, by decide +kernel⟩
def spAgain (K : PySem.W.Frag) (CT : PySem.Addr) : Sp := fun vs H Q E => ∃ a tx n s t, vs = [.ref a, .ref tx, .int (n : Nat)] ∧ CmdsAt K H a s ∧ H tx = some (.lst (strsOf t)) ∧ (∀ x ∈ t, x.length ≤ 16) ∧ n ≤ 10 ∧ (Vaseda.again s n t = none → TooK CT E [] H) ∧
  (∀ u, Vaseda.again s n t = some u → ∀ p H', Same H H' → H' p = some (.lst (strsOf u)) → Q (.ref p) H')
def restInt : Option Nat → Int
  | some n => (n : Int)
  | none => -1
def spToRest (K : PySem.W.Frag) (CT : PySem.Addr) : Sp := fun vs H Q E => ∃ a tx s t, vs = [.ref a, .ref tx, .int 10] ∧ CmdsAt K H a s ∧ H tx = some (.lst (strsOf t)) ∧ (∀ x ∈ t, x.length ≤ 16) ∧ (Vaseda.restBy s 11 0 t = none → TooK CT E [] H) ∧
  (∀ o, Vaseda.restBy s 11 0 t = some o → ∀ H', Same H H' → Q (.int (restInt o)) H')
theorem run_wsok {s : List Cmd} {t : List Bytes} {r : Vaseda.Result} (a : Asked s t) (hl : t.length ≤ 24) (h : Vaseda.run s t = some r) : WsOk s.length (Vaseda.works s t) := ⟨works_ok a (run_some h).1, a.few, by have e : (Vaseda.works s t).length = t.length := works_len s t 1 []; omega⟩
theorem outText_eq {s : List Cmd} {t : List Bytes} {r : Vaseda.Result} (h : Vaseda.run s t = some r) : Vaseda.outText r = outXs (outsOf (Vaseda.works s t)) := by
  obtain ⟨_, _, rfl⟩ := run_some h
  rfl
/-- the heap behind the making of an object and its __init__ -/
theorem made_same {H H2 : Hp} {r dr C : PySem.Addr} (hr : H r = none) (hdr : H dr = none) (k : Keep [r] (upd (upd H dr (.own r)) r (.ins C dr [])) H2) : Same H H2 := fun b o e => k b o (by
  rw [upd_ne (ne_of_none e hr), upd_ne (ne_of_none e hdr)]
  exact e) (by simpa using ne_of_none e hr)
theorem new_same {H : Hp} {r dr C : PySem.Addr} (hr : H r = none) (hdr : H dr = none) : Same H (upd (upd H dr (.own r)) r (.ins C dr [])) := fun b o e => by
  rw [upd_ne (ne_of_none e hr), upd_ne (ne_of_none e hdr)]
  exact e
theorem dp_strs {K : PySem.W.Frag} {H : Hp} : ∀ t : List Bytes, DpAll K H (strsOf t) (t.map fun x => PyData.str (sT x))
  | [] => .nil
  | c :: r => .cons (.str _) (dp_strs r)
theorem strs_can : ∀ t : List Bytes, PyData.canLayAll0 (t.map fun x => PyData.str (sT x)) = true
  | [] => rfl
  | c :: r => by
    show (PyData.strOk (sT c) && PyData.canLayAll0 (r.map fun x => PyData.str (sT x))) = true
    rw [strOk_sT, strs_can r] <;> rfl
theorem strs_depth : ∀ t : List Bytes, PyData.depthAll (t.map fun x => PyData.str (sT x)) = 0
  | [] => rfl
  | c :: r => by
    show max 0 (PyData.depthAll (r.map fun x => PyData.str (sT x))) = 0
    rw [strs_depth r] <;> rfl
theorem strs_shaped (t : List Bytes) : SeqAt.shaped (.list (t.map fun x => PyData.str (sT x))) = true := by
  unfold SeqAt.shaped
  rw [Bool.and_eq_true, decide_eq_true_eq]
  refine ⟨strs_can t, ?_⟩
  show PyData.depthAll _ + 1 ≤ 64
  rw [strs_depth]
  decide
theorem strs_eqvAll : ∀ t u : List Bytes, PyData.eqvAll (t.map fun x => PyData.str (sT x)) (u.map fun x => PyData.str (sT x)) = decide (t = u)
  | [], [] => rfl
  | [], _ :: _ => rfl
  | _ :: _, [] => rfl
  | a :: r, b :: q => by
    show ((sT a == sT b) && PyData.eqvAll (r.map fun x => PyData.str (sT x)) (q.map fun x => PyData.str (sT x))) = _
    rw [strs_eqvAll r q, Bool.eq_iff_iff, Bool.and_eq_true, beq_iff_eq, decide_eq_true_eq, decide_eq_true_eq, sT_eq_iff, List.cons.injEq]
theorem strs_eqv (t u : List Bytes) : PyData.eqv (.list (t.map fun x => PyData.str (sT x))) (.list (u.map fun x => PyData.str (sT x))) = decide (t = u) := strs_eqvAll t u
section
variable {P : Program} {w : World} {K : PySem.W.Frag} {mg : Str → Option Value} {base : Heap} {CP CRn CT : PySem.Addr}
theorem ok_run_again (F : GF K mg "run_again" sAgain) (TR : RunT K mg CRn) (mr : mg "range" = none) (D1 : MkD P w K mg base (L2.CX P w) 5 CRn ["self", "commands", "text"] (spRunInit K CP CRn CT)) (D2 : MD P w K mg base CX0 2 CRn "result" ["self"] (spResult K CP CRn)) :
    GD P w K mg base (L2.CX P w) 7 "run_again" ["commands", "text", "many"] (spAgain K CT) := by
  obtain ⟨f, fd, F, hm⟩ := F
  refine ⟨f, fd, F.okX scAgain (fun vs H Q E h => ?_) (fun cdv A outer s H vs Q E hr h => ⟨_, pss_cons (ps_for (passes_of rfl) rfl (pi_range1 (by rfl) mr (pa_cons (pv 2) pa_nil)) (pg_name (i := 3) scAgain.nd rfl (Or.inl rfl))
        (pss_one (ps_set (i := 1) scAgain.nd rfl (Or.inl rfl) (pe_m0 D2 TR.cl (hr.mono (by decide)) pass0 (pe_mk D1 hr TR.gl (passW (takes_of rfl rfl rfl rfl)) (pa_cons (pv 0) (pa_cons (pv 1) pa_nil)))))))
      (pss_one (ps_ret (pv 1))), ?_⟩), hm, F.kp, F.binds fun _ _ _ _ _ _ us hl => match us, hl with | [_, _, _], _ => rfl⟩
  · obtain ⟨a, tx, n, s, t, rfl, _⟩ := h
    rfl
  · obtain ⟨a, tx, n, s, t, rfl, hC, htx, hx, hn, q0, q1⟩ := h
    refine ⟨_, rfl, _, rfl, by omega, by omega, for_range (lo := 0) (n := n) (fun i σ H' => ∃ p v u, σ = [some (.ref a), some (.ref p), some (.int (n : Nat)), v] ∧ Same H H' ∧ H' p = some (.lst (strsOf u)) ∧ (∀ x ∈ u, x.length ≤ 16) ∧ Vaseda.again s n t = Vaseda.again s (n - i) u) ⟨tx, none, t, rfl, Same.refl H, htx, hx, rfl⟩ ?_ ?_⟩
    · rintro i σ H1 hi ⟨p, v, u, rfl, s1, hp, hu, ea⟩
      obtain ⟨m, hm⟩ : ∃ m, n - i = m + 1 := ⟨n - i - 1, by omega⟩
      have em : n - (i + 1) = m := by omega
      rw [hm] at ea
      have eu : Vaseda.again s (m + 1) u = if 24 < u.length then none else (Vaseda.run s u).bind fun r => Vaseda.again s m (Vaseda.outText r) := rfl
      rw [eu] at ea
      refine ⟨_, rfl, _, rfl, fun r dr hrn hdr hne => ?_⟩
      have sN := new_same (C := CRn) hrn hdr
      refine ⟨r, a, p, dr, s, u, rfl, upd_same, (hC.same s1).same sN, sN _ _ hp, hu, fun bad => ?_, fun res hl hrun H2 k2 hRV => ⟨rfl, ?_⟩⟩
      · have hnone : Vaseda.again s n t = none := by
          rw [ea]
          rcases bad with b | b
          · rw [if_pos b]
          · split
            · rfl
            · rw [b] <;> rfl
        intro H' k'
        exact q0 hnone H' (Keep.of (s1.trans (made_same hrn hdr k')))
      · have s2 := made_same hrn hdr k2
        have hask : Asked s u := ⟨hC.ok, hC.few, hu⟩
        obtain ⟨dr2, L, vs2, h1, h2, h3⟩ := id hRV
        refine ⟨r, dr2, _, rfl, h1, rnF_no _ _ (by decide +kernel), r, _, u, _, _, rfl, hRV, run_wsok hask hl hrun, fun q H3 s3 hq hl3 => ?_⟩
        obtain ⟨o1, o2, o3⟩ := run_ok hask hrun
        rw [← outText_eq hrun] at hl3
        refine ⟨q, _, Vaseda.outText res, rfl, (s1.trans s2).trans s3, hl3, o2, ?_⟩
        rw [ea, if_neg (by omega), hrun, em] <;> rfl
    · rintro σ H1 ⟨p, v, u, rfl, s1, hp, hu, ea⟩
      rw [Nat.sub_self] at ea
      exact ⟨_, rfl, q1 u ea p H1 s1 hp⟩
theorem ok_runs_to_rest (F : GF K mg "runs_to_rest" sToRest) (TR : RunT K mg CRn) (mr : mg "range" = none) (D1 : MkD P w K mg base (L2.CX P w) 5 CRn ["self", "commands", "text"] (spRunInit K CP CRn CT)) (D2 : MD P w K mg base CX0 2 CRn "result" ["self"] (spResult K CP CRn)) :
    GD P w K mg base (L2.CX P w) 7 "runs_to_rest" ["commands", "text", "most"] (spToRest K CT) := by
  obtain ⟨f, fd, F, hm⟩ := F
  refine ⟨f, fd, F.okX scToRest (fun vs H Q E h => ?_) (fun cdv A outer s H vs Q E hr h => ⟨_, pss_cons (ps_for (passes_of rfl) rfl (pi_range1 (by rfl) mr (pa_cons (pe_op op_add (pv 2) L2.pe_int) pa_nil)) (pg_name (i := 3) scToRest.nd rfl (Or.inl rfl))
        (pss_cons (ps_set (i := 4) scToRest.nd rfl (Or.inl rfl) (pe_m0 D2 TR.cl (hr.mono (by decide)) pass0 (pe_mk D1 hr TR.gl (passW (takes_of rfl rfl rfl rfl)) (pa_cons (pv 0) (pa_cons (pv 1) pa_nil)))))
        (pss_cons (ps_if (pt_cmpR (op_eqD hr.units) (pv 4) (pv 1) (nomark _)) (pss_one (ps_ret (pv 3))) pss_nil)
        (pss_one (ps_set (i := 1) scToRest.nd rfl (Or.inl rfl) (pv 4))))))
      (pss_one (ps_ret (pe_un un_neg L2.pe_int))), ?_⟩), hm, F.kp, F.binds fun _ _ _ _ _ _ us hl => match us, hl with | [_, _, _], _ => rfl⟩
  · obtain ⟨a, tx, s, t, rfl, _⟩ := h
    rfl
  · obtain ⟨a, tx, s, t, rfl, hC, htx, hx, q0, q1⟩ := h
    refine ⟨_, rfl, _, _, rfl, rfl, _, rfl, by decide, by decide, for_range (lo := 0) (n := 11) (fun i σ H' => ∃ p v v2 u, σ = [some (.ref a), some (.ref p), some (.int 10), v, v2] ∧ Same H H' ∧ H' p = some (.lst (strsOf u)) ∧ (∀ x ∈ u, x.length ≤ 16) ∧ Vaseda.restBy s 11 0 t = Vaseda.restBy s (11 - i) i u) ⟨tx, none, none, t, rfl, Same.refl H, htx, hx, rfl⟩ ?_ ?_⟩
    · rintro i σ H1 hi ⟨p, v, v2, u, rfl, s1, hp, hu, ea⟩
      obtain ⟨m, hm⟩ : ∃ m, 11 - i = m + 1 := ⟨11 - i - 1, by omega⟩
      have em : 11 - (i + 1) = m := by omega
      rw [hm] at ea
      have eu : Vaseda.restBy s (m + 1) i u = if 24 < u.length then none else (Vaseda.run s u).bind fun r => if Vaseda.outText r = u then some (some i) else Vaseda.restBy s m (i + 1) (Vaseda.outText r) := rfl
      rw [eu] at ea
      refine ⟨_, rfl, _, rfl, fun r dr hrn hdr hne => ?_⟩
      have sN := new_same (C := CRn) hrn hdr
      refine ⟨r, a, p, dr, s, u, rfl, upd_same, (hC.same s1).same sN, sN _ _ hp, hu, fun bad => ?_, fun res hl hrun H2 k2 hRV => ⟨rfl, ?_⟩⟩
      · have hnone : Vaseda.restBy s 11 0 t = none := by
          rw [ea]
          rcases bad with b | b
          · rw [if_pos b]
          · split
            · rfl
            · rw [b] <;> rfl
        intro H' k'
        exact q0 hnone H' (Keep.of (s1.trans (made_same hrn hdr k')))
      · have s2 := made_same hrn hdr k2
        have hask : Asked s u := ⟨hC.ok, hC.few, hu⟩
        obtain ⟨dr2, L, vs2, h1, h2, h3⟩ := id hRV
        refine ⟨r, dr2, _, rfl, h1, rnF_no _ _ (by decide +kernel), r, _, u, _, _, rfl, hRV, run_wsok hask hl hrun, fun q H3 s3 hq hl3 => ?_⟩
        obtain ⟨o1, o2, o3⟩ := run_ok hask hrun
        rw [← outText_eq hrun] at hl3
        have hp3 := s3 _ _ (s2 _ _ hp)
        refine ⟨_, rfl, _, rfl, .list ((Vaseda.outText res).map fun x => PyData.str (sT x)), .list (u.map fun x => PyData.str (sT x)), .lst (SqL.of hl3) (dp_strs _), .lst (SqL.of hp3) (dp_strs _), strs_shaped _, strs_shaped _, _, rfl, ?_⟩
        rw [strs_eqv]
        rw [if_neg (by omega), hrun] at ea
        have ea' : Vaseda.restBy s 11 0 t = if Vaseda.outText res = u then some (some i) else Vaseda.restBy s m (i + 1) (Vaseda.outText res) := ea
        by_cases he : Vaseda.outText res = u
        · rw [if_pos he] at ea'
          refine if_tr (decide_eq_true he) ⟨_, rfl, ?_⟩
          have hq := q1 (some i) ea' H3 ((s1.trans s2).trans s3)
          have ei : (0 : Int) + ((i : Nat) : Int) = ((i : Nat) : Int) := by omega
          show Q (.int (0 + ((i : Nat) : Int))) H3
          rw [ei]
          exact hq
        · rw [if_neg he] at ea'
          refine if_fl (decide_eq_false he) ⟨_, rfl, q, _, _, Vaseda.outText res, rfl, (s1.trans s2).trans s3, hl3, o2, ?_⟩
          rw [ea', em]
    · rintro σ H1 ⟨p, v, v2, u, rfl, s1, hp, hu, ea⟩
      exact ⟨_, rfl, q1 none ea H1 s1⟩
end
end Lsd
/-! told_run, told_origins, told_trace, told_held, told_touched -/
namespace Lsd
open PySem PySem.Spec PyProof.Rows L2
open VasedBase hiding Tok
open Vaseda (Deed Cmd Work Out)
structure RunsAt (K : PySem.W.Frag) (CP CRn : PySem.Addr) (H : Hp) (r : PySem.Addr) (s : List Cmd) (t : List Bytes) (res : Vaseda.Result) : Prop where
  at_ : RunV K CP CRn H r res.held t (Vaseda.works s t)
  ask : Asked s t
  few : t.length ≤ 24
  run : Vaseda.run s t = some res
theorem RunsAt.ws {K : PySem.W.Frag} {CP CRn : PySem.Addr} {H : Hp} {r : PySem.Addr} {s : List Cmd} {t : List Bytes} {res : Vaseda.Result} (h : RunsAt K CP CRn H r s t res) : WsOk s.length (Vaseda.works s t) := run_wsok h.ask h.few h.run
theorem RunsAt.outs {K : PySem.W.Frag} {CP CRn : PySem.Addr} {H : Hp} {r : PySem.Addr} {s : List Cmd} {t : List Bytes} {res : Vaseda.Result} (h : RunsAt K CP CRn H r s t res) : res.outs = outsOf (Vaseda.works s t) ∧ res.outs.length ≤ 60 := by
  obtain ⟨_, h2, e⟩ := run_some h.run
  subst e
  exact ⟨rfl, h2⟩
def spTold (K : PySem.W.Frag) (CP CRn : PySem.Addr) (f : List Cmd → List Bytes → Vaseda.Result → List Int) : Sp := fun vs H Q _ => ∃ r s t res, vs = [.ref r] ∧ RunsAt K CP CRn H r s t res ∧ ∀ p H', Same H H' → H p = none → H' p = some (.lst (intsV (f s t res))) → Q (.ref p) H'
def fRun (_ : List Cmd) (_ : List Bytes) (res : Vaseda.Result) : List Int := (res.outs.length : Int) :: textRow (Vaseda.showText (Vaseda.outText res))
def fOrig (_ : List Cmd) (_ : List Bytes) (res : Vaseda.Result) : List Int := (res.outs.length : Int) :: res.outs.flatMap Vaseda.originRow
def fHeld (_ : List Cmd) (_ : List Bytes) (res : Vaseda.Result) : List Int := textRow res.held
def fTouch (s : List Cmd) (t : List Bytes) (_ : Vaseda.Result) : List Int := (t.length : Int) :: (t.zip (Vaseda.works s t)).flatMap fun x => Vaseda.touchRow x.1 x.2
def fTrace (k : Int) (s : List Cmd) (t : List Bytes) (_ : Vaseda.Result) : List Int := match (index (k - 1) t.length).bind fun j => (Vaseda.works s t)[j]? with
  | none => [-3]
  | some w => (w.did.length : Int) :: Vaseda.nats w.did
def spTrace (K : PySem.W.Frag) (CP CRn : PySem.Addr) : Sp := fun vs H Q _ => ∃ r k s t res, vs = [.ref r, .int k] ∧ RunsAt K CP CRn H r s t res ∧ ∀ p H', Same H H' → H p = none → H' p = some (.lst (intsV (fTrace k s t res))) → Q (.ref p) H'
abbrev sToldRun : Stmt := top 67
abbrev sToldOrigins : Stmt := top 68
abbrev sToldTrace : Stmt := top 69
abbrev sToldHeld : Stmt := top 70
abbrev sToldTouched : Stmt := top 71
theorem scToldRun : FnScope ["run"] ["run"] (defScope sToldRun) := ⟨rfl, rfl, rfl, by decide +kernel, rfl, by decide +kernel, by decide +kernel⟩
theorem scToldOrigins : FnScope ["run", "found", "told", "line", "number"] ["run"] (defScope sToldOrigins) := ⟨rfl, rfl, rfl, by decide +kernel, rfl, by decide +kernel, by decide +kernel⟩
theorem scToldTrace : FnScope ["run", "line", "done"] ["run", "line"] (defScope sToldTrace) := ⟨rfl, rfl, rfl, by decide +kernel, rfl, by decide +kernel, by decide +kernel⟩
theorem scToldHeld : FnScope ["run"] ["run"] (defScope sToldHeld) := ⟨rfl, rfl, rfl, by decide +kernel, rfl, by decide +kernel, by decide +kernel⟩
theorem scToldTouched : FnScope ["run", "told", "passing"] ["run"] (defScope sToldTouched) := ⟨rfl, rfl, rfl, by decide +kernel, rfl, by decide +kernel, by decide +kernel⟩
theorem originRow_eq (o : Out) : Vaseda.originRow o = [(o.k : Int), outC o] := by
  unfold Vaseda.originRow outC
  cases o.c <;> rfl
theorem intsV_app (a b : List Int) : intsV (a ++ b) = intsV a ++ intsV b := by simp [intsV]
theorem intsV_len (a : List Int) : (intsV a).length = a.length := by simp [intsV]
theorem touchRow_eq (x : Bytes) (w : Work) : Vaseda.touchRow x w = [fateOf x w, (w.pre.length : Int), (w.post.length : Int)] := by
  unfold Vaseda.touchRow Vaseda.nats fateOf
  by_cases h1 : w.gone = true
  · rw [if_pos h1, if_pos h1] <;> rfl
  · rw [if_neg h1, if_neg h1]
    by_cases h2 : w.x = x
    · rw [if_pos h2, if_pos h2] <;> rfl
    · rw [if_neg h2, if_neg h2] <;> rfl
theorem nats_ints (l : List Nat) : intsV (Vaseda.nats l) = natsV l := by simp [intsV, Vaseda.nats, natsV]
theorem flat_take {α β : Type} (f : α → List β) {l : List α} {i : Nat} {x : α} (h : l[i]? = some x) : (l.take (i + 1)).flatMap f = (l.take i).flatMap f ++ f x := by
  rw [take_snoc h, List.flatMap_append]
  simp
theorem zip_at {t : List Bytes} {ws : List Work} {i : Nat} {x : Bytes} {w : Work} (h1 : t[i]? = some x) (h2 : ws[i]? = some w) : (t.zip ws)[i]? = some (x, w) := by
  rw [List.getElem?_zip_eq_some]
  exact ⟨h1, h2⟩
section
variable {P : Program} {w : World} {K : PySem.W.Frag} {mg : Str → Option Value} {base : Heap} {CP CRn CT : PySem.Addr}
theorem ok_told_run (F : GF K mg "told_run" sToldRun) (TR : RunT K mg CRn) (D1 : MD P w K mg base CX0 2 CRn "result" ["self"] (spResult K CP CRn)) (D2 : GD P w K mg base CX0 3 "told_text" ["lines"] (spToldText K)) : GD P w K mg base CX0 4 "told_run" ["run"] (spTold K CP CRn fRun) := by
  obtain ⟨f, fd, F, hm⟩ := F
  refine ⟨f, fd, F.ok scToldRun (fun vs H Q E h => ?_) (fun cdv A outer s H vs Q E hr h => ⟨_, pss_one (ps_ret (pe_g D2 hr pass0 (pa_cons (pe_m0 D1 TR.cl (hr.mono (by decide)) pass0 (pv 0)) pa_nil))), ?_⟩), hm, F.kp, F.binds fun _ _ _ _ _ _ us hl => match us, hl with | [_], _ => rfl⟩
  · obtain ⟨r, s, t, res, rfl, _⟩ := h
    rfl
  · obtain ⟨r, s, t, res, rfl, hR, q⟩ := h
    obtain ⟨dr, L, vs, h1, h2, h3⟩ := id hR.at_
    obtain ⟨e1, e2⟩ := hR.outs
    obtain ⟨o1, o2, o3⟩ := run_ok hR.ask hR.run
    refine ⟨_, rfl, r, dr, _, rfl, h1, rnF_no _ _ (by decide +kernel), r, _, t, _, _, rfl, hR.at_, hR.ws, fun q2 H2 s2 hq hl => ?_⟩
    rw [← outText_eq hR.run] at hl
    refine ⟨q2, Vaseda.outText res, rfl, SqL.of hl, by omega, fun x m => Nat.le_trans (o2 x m) (by decide), fun p H3 s3 hp hl3 => q p H3 (s2.trans s3) (none_of s2 hp) ?_⟩
    rw [hl3]
    unfold fRun Vaseda.outText
    rw [List.length_map]
theorem ok_told_origins (F : GF K mg "told_origins" sToldOrigins) (TR : RunT K mg CRn) (ml : mg "len" = none) (D1 : MD P w K mg base CX0 2 CRn "origins" ["self"] (spOrigins K CP CRn)) : GD P w K mg base CX0 3 "told_origins" ["run"] (spTold K CP CRn fOrig) := by
  obtain ⟨f, fd, F, hm⟩ := F
  refine ⟨f, fd, F.ok scToldOrigins (fun vs H Q E h => ?_) (fun cdv A outer s H vs Q E hr h => ⟨_, pss_cons (ps_set (i := 1) scToldOrigins.nd rfl (Or.inl rfl) (pe_m0 D1 TR.cl hr pass0 (pv 0)))
      (pss_cons (ps_set (i := 2) scToldOrigins.nd rfl (Or.inl rfl) (pe_lst (pa_cons (pe_callB call_len_seq (by rfl) ml boot_len (pa_cons (pv 1) pa_nil)) pa_nil)))
      (pss_cons (ps_for PassesOwn.never rfl (pi_list (pv 1)) (pg_tup (n := 2) rfl (pgs_cons (pg_name (i := 3) scToldOrigins.nd rfl (Or.inl rfl)) (pgs_cons (pg_name (i := 4) scToldOrigins.nd rfl (Or.inl rfl)) pgs_nil)))
        (pss_one (ps_expr (pe_bm PySem.F.plainAttrs_list PySem.F.slot_list_extend PySem.F.type_list_extend mt_extend (pv 2) (pa_cons (pe_lst (pa_cons (pv 3) (pa_cons (pv 4) pa_nil))) pa_nil)))))
      (pss_one (ps_ret (pv 2))))), ?_⟩), hm, F.kp, F.binds fun _ _ _ _ _ _ us hl => match us, hl with | [_], _ => rfl⟩
  · obtain ⟨r, s, t, res, rfl, _⟩ := h
    rfl
  · obtain ⟨r, s, t, res, rfl, hR, q⟩ := h
    obtain ⟨dr, L, vs, h1, h2, h3⟩ := id hR.at_
    obtain ⟨e1, e2⟩ := hR.outs
    refine ⟨_, rfl, r, dr, _, rfl, h1, rnF_no _ _ (by decide +kernel), r, _, t, _, _, rfl, hR.at_, hR.ws, fun q2 us H2 s2 hq hl hov => ?_⟩
    rw [← e1] at hov
    have hul := hov.1
    refine ⟨_, rfl, q2, _, rfl, Or.inl (SqL.of hl), by show 1 ≤ sizeLine; decide, fun pt hpt => ?_⟩
    have s3 := Same.upd (o := .lst [.int (us.length : Nat)]) hpt
    have hpt0 := none_of s2 hpt
    refine ⟨_, rfl, q2, rfl, ⟨_, SqL.of (s3 _ _ hl)⟩, for_list (K := K) (a := q2) (xs := us) (fun i σ H' => ∃ v3 v4, σ = [some (.ref r), some (.ref q2), some (.ref pt), v3, v4] ∧ Same H2 H' ∧ H' pt = some (.lst (intsV ((res.outs.length : Int) :: (res.outs.take i).flatMap Vaseda.originRow)))) ⟨none, none, rfl, s3, by rw [upd_same, hul] <;> rfl⟩
      (fun i σ H' _ ⟨_, _, _, s1, _⟩ => SqL.of (s1 _ _ hl)) ?_ ?_⟩
    · rintro i y σ H1 hi ⟨v3, v4, rfl, s1, hT⟩
      have hil := (List.getElem?_eq_some_iff.mp hi).1
      rw [hul] at hil
      have ho : res.outs[i]? = some res.outs[i] := List.getElem?_eq_getElem hil
      obtain ⟨tt, hv, sqt⟩ := hov.2 i _ ho
      rw [hi] at hv
      cases hv
      have hfl := flat_len Vaseda.originRow 2 (res.outs.take i) fun x _ => by rw [originRow_eq]; exact Nat.le_refl 2
      have htl : (res.outs.take i).length ≤ 60 := by rw [List.length_take]; omega
      have hmul : 2 * (res.outs.take i).length ≤ 2 * 60 := Nat.mul_le_mul_left _ htl
      refine ⟨tt, _, rfl, (Same.keepT s1).sq sqt, rfl, _, _, rfl, _, _, rfl, rfl, ?_⟩
      refine ⟨_, rfl, .inl ⟨rfl, _, SqL.of hT⟩, _, rfl, _, rfl, by show 2 ≤ sizeLine; decide, fun p2 hp2 => ?_⟩
      have s4 := Same.upd (o := .lst [.int ((res.outs[i].k : Nat) : Int), .int (outC res.outs[i])]) hp2
      refine ⟨pt, p2, _, _, rfl, rfl, s4 _ _ hT, upd_same, by rw [intsV_len, sizeLine_eq, List.length_cons]; show _ + 2 ≤ _; omega, ?_⟩
      refine ⟨_, _, rfl, Same.updD (s1.trans s4) hpt, ?_⟩
      rw [upd_same, flat_take _ ho, originRow_eq, ← List.cons_append, intsV_app] <;> rfl
    · rintro σ H1 ⟨v3, v4, rfl, s1, hT⟩
      rw [hul, List.take_length] at hT
      exact ⟨_, rfl, q pt H1 (s2.trans s1) hpt0 hT⟩
theorem ok_told_trace (F : GF K mg "told_trace" sToldTrace) (TR : RunT K mg CRn) (T : PassT K mg CP) (ml : mg "len" = none) (cN : GC mg "NO_LINE" (.int (-3))) : GD P w K mg base CX0 1 "told_trace" ["run", "line"] (spTrace K CP CRn) := by
  obtain ⟨f, fd, F, hm⟩ := F
  refine ⟨f, fd, F.ok scToldTrace (fun vs H Q E h => ?_) (fun cdv A outer s H vs Q E hr h => ⟨_, pss_cons (ps_if (PW.pt (pw_or (pt_cmpR op_lt (pv 1) L2.pe_int (nomark _)) (pw_or1 (pt_cmpR op_gt (pv 1) (pe_callB call_len_seq (by rfl) ml boot_len (pa_cons (pe_fld (pv 0) rfl) pa_nil)) (nomark _))))) (pss_one (ps_ret (pe_lst (pa_cons (pe_gc cN) pa_nil)))) pss_nil)
      (pss_cons (ps_set (i := 2) scToldTrace.nd rfl (Or.inl rfl) (pe_fld (pe_ix ix_list (pe_fld (pv 0) rfl) (pe_op op_sub (pv 1) L2.pe_int) (fun _ _ => rfl)) rfl))
      (pss_one (ps_ret (pe_op op_cat (pe_lst (pa_cons (pe_callB call_len_seq (by rfl) ml boot_len (pa_cons (pv 2) pa_nil)) pa_nil)) (pv 2))))), ?_⟩), hm, F.kp, F.binds fun _ _ _ _ _ _ us hl => match us, hl with | [_, _], _ => rfl⟩
  · obtain ⟨r, k, s, t, res, rfl, _⟩ := h
    rfl
  · obtain ⟨r, k, s, t, res, rfl, hR, q⟩ := h
    obtain ⟨dr, L, vs, h1, h2, h3⟩ := id hR.at_
    have hvl := h3.1
    have hwl : (Vaseda.works s t).length = t.length := works_len s t 1 []
    dsimp only [tSeq, tIfS]
    show tOr _ _ _ _ _
    refine orT (c := decide (k < 1)) (d := decide ((t.length : Int) < k)) (fun R rr => ⟨_, rfl, _, _, rfl, rfl, _, rfl, rr⟩) (fun _ R rr => ⟨_, rfl, _, rfl, r, CRn, dr, _, _, rfl, h1, TR.cl, TR.n_passed, rnF_passed _ _, L, _, rfl, Or.inl (SqL.of h2), _, _, rfl, rfl, _, rfl, ?_⟩) ?_
    · rw [hvl, hwl]
      exact rr
    · by_cases hk : 1 ≤ k ∧ k ≤ (t.length : Int)
      · obtain ⟨hk1, hk2⟩ := hk
        refine if_fl (by rw [Bool.or_eq_false_iff, decide_eq_false_iff_not, decide_eq_false_iff_not]; omega) ?_
        obtain ⟨j, hj⟩ : ∃ j : Nat, k - 1 = (j : Int) := ⟨(k - 1).toNat, by omega⟩
        have hjl : j < (Vaseda.works s t).length := by omega
        have hw : (Vaseda.works s t)[j]? = some (Vaseda.works s t)[j] := List.getElem?_eq_getElem hjl
        obtain ⟨p, A, B, D, last, x0, g1, g2, hP, _⟩ := h3.2 j _ hw
        obtain ⟨dx, hp⟩ := hP.obj
        have hd := hP.d
        have hdl := (hR.ws.ok j _ hw).did
        have hn := hR.ws.n16
        refine ⟨_, rfl, r, CRn, dr, _, _, rfl, h1, TR.cl, TR.n_passed, rnF_passed _ _, _, rfl, _, _, rfl, rfl, L, _, _, .ref p, rfl, rfl, SqL.of h2, by rw [hj]; exact atI_nat g1, p, CP, dx, _, _, rfl, hp, T.cl, T.n_done, pF_done _ _ _ _ _ _ _, ?_⟩
        refine ⟨_, rfl, D, _, rfl, Or.inl (SqL.of hd), by show 1 ≤ sizeLine; decide, fun p2 hp2 => ⟨_, rfl, p2, D, _, _, rfl, rfl, upd_same, Same.upd hp2 _ _ hd, by rw [natsV_len, sizeLine_eq]; show 1 + _ ≤ _; omega, fun p3 hp3 => ?_⟩⟩
        refine q p3 _ ((Same.upd hp2).trans (Same.upd hp3)) (none_of (Same.upd hp2) hp3) ?_
        have ef : fTrace k s t res = ((Vaseda.works s t)[j].did.length : Int) :: Vaseda.nats (Vaseda.works s t)[j].did := by
          have ei : index (k - 1) t.length = some j := by
            unfold index
            rw [hj, if_pos (by omega)]
            simp
          unfold fTrace
          rw [ei]
          show (match (Vaseda.works s t)[j]? with | none => _ | some w => _) = _
          rw [hw]
        rw [upd_same, ef, natsV_len]
        show some (HO.lst (V.int _ :: natsV _)) = some (HO.lst (V.int _ :: intsV (Vaseda.nats _)))
        rw [nats_ints]
      · refine if_tr (by rw [Bool.or_eq_true, decide_eq_true_eq, decide_eq_true_eq]; omega) ⟨by show 1 ≤ sizeLine; decide, fun p hp => q p _ (Same.upd hp) hp ?_⟩
        have ef : fTrace k s t res = [-3] := by
          have ei : index (k - 1) t.length = none := by
            unfold index
            rw [if_neg (by omega)]
          unfold fTrace
          rw [ei] <;> rfl
        rw [ef]
        exact upd_same
theorem ok_told_held (F : GF K mg "told_held" sToldHeld) (TR : RunT K mg CRn) (ml : mg "len" = none) (D1 : GD P w K mg base CX0 1 "octets_of" ["text"] spOctets) : GD P w K mg base CX0 2 "told_held" ["run"] (spTold K CP CRn fHeld) := by
  obtain ⟨f, fd, F, hm⟩ := F
  refine ⟨f, fd, F.ok scToldHeld (fun vs H Q E h => ?_) (fun cdv A outer s H vs Q E hr h => ⟨_, pss_one (ps_ret (pe_op op_cat (pe_lst (pa_cons (pe_callB call_len_str (by rfl) ml boot_len (pa_cons (pe_fld (pv 0) rfl) pa_nil)) pa_nil)) (pe_g D1 hr pass0 (pa_cons (pe_fld (pv 0) rfl) pa_nil)))), ?_⟩), hm, F.kp, F.binds fun _ _ _ _ _ _ us hl => match us, hl with | [_], _ => rfl⟩
  · obtain ⟨r, s, t, res, rfl, _⟩ := h
    rfl
  · obtain ⟨r, s, t, res, rfl, hR, q⟩ := h
    obtain ⟨dr, L, vs, h1, h2, h3⟩ := id hR.at_
    obtain ⟨o1, o2, o3⟩ := run_ok hR.ask hR.run
    refine ⟨_, rfl, r, CRn, dr, _, _, rfl, h1, TR.cl, TR.n_held, rnF_held _ _, _, rfl, by rw [sT_len, sizeLine_eq]; omega, by show 1 ≤ sizeLine; decide, fun p2 hp2 => ?_⟩
    have s2 := Same.upd (o := .lst [.int ((sT res.held).length : Nat)]) hp2
    refine ⟨_, rfl, r, CRn, dr, _, _, rfl, s2 _ _ h1, TR.cl, TR.n_held, rnF_held _ _, res.held, rfl, by omega, fun D H3 hD s3 hDl => ?_⟩
    refine ⟨p2, D, _, _, rfl, rfl, s3 _ _ upd_same, hDl, by rw [ofB_len, sizeLine_eq]; show 1 + _ ≤ _; omega, fun p3 hp3 => ?_⟩
    refine q p3 _ ((s2.trans s3).trans (Same.upd hp3)) (none_of (s2.trans s3) hp3) ?_
    rw [upd_same, sT_len, ofB_ints] <;> rfl
theorem ok_told_touched (F : GF K mg "told_touched" sToldTouched) (TR : RunT K mg CRn) (T : PassT K mg CP) (ml : mg "len" = none) (D1 : MD P w K mg base CX0 1 CP "fate" ["self"] (spFate CP)) : GD P w K mg base CX0 2 "told_touched" ["run"] (spTold K CP CRn fTouch) := by
  obtain ⟨f, fd, F, hm⟩ := F
  refine ⟨f, fd, F.ok scToldTouched (fun vs H Q E h => ?_) (fun cdv A outer s H vs Q E hr h => ⟨_, pss_cons (ps_set (i := 1) scToldTouched.nd rfl (Or.inl rfl) (pe_lst (pa_cons (pe_callB call_len_seq (by rfl) ml boot_len (pa_cons (pe_fld (pv 0) rfl) pa_nil)) pa_nil)))
      (pss_cons (ps_for PassesOwn.never rfl (pi_list (pe_fld (pv 0) rfl)) (pg_name (i := 2) scToldTouched.nd rfl (Or.inl rfl))
        (pss_one (ps_expr (pe_bm PySem.F.plainAttrs_list PySem.F.slot_list_extend PySem.F.type_list_extend mt_extend (pv 1) (pa_cons (pe_lst (pa_cons (pe_m0 D1 T.cl hr pass0 (pv 2)) (pa_cons (pe_callB call_len_seq (by rfl) ml boot_len (pa_cons (pe_fld (pv 2) rfl) pa_nil)) (pa_cons (pe_callB call_len_seq (by rfl) ml boot_len (pa_cons (pe_fld (pv 2) rfl) pa_nil)) pa_nil)))) pa_nil)))))
      (pss_one (ps_ret (pv 1)))), ?_⟩), hm, F.kp, F.binds fun _ _ _ _ _ _ us hl => match us, hl with | [_], _ => rfl⟩
  · obtain ⟨r, s, t, res, rfl, _⟩ := h
    rfl
  · obtain ⟨r, s, t, res, rfl, hR, q⟩ := h
    obtain ⟨dr, L, vs, h1, h2, h3⟩ := id hR.at_
    have hvl := h3.1
    have hwl : (Vaseda.works s t).length = t.length := works_len s t 1 []
    refine ⟨_, rfl, r, CRn, dr, _, _, rfl, h1, TR.cl, TR.n_passed, rnF_passed _ _, L, _, rfl, Or.inl (SqL.of h2), by show 1 ≤ sizeLine; decide, fun pt hpt => ?_⟩
    have s0 := Same.upd (o := .lst [.int (vs.length : Nat)]) hpt
    refine ⟨_, rfl, r, CRn, dr, _, _, rfl, s0 _ _ h1, TR.cl, TR.n_passed, rnF_passed _ _, L, rfl, ⟨_, SqL.of (s0 _ _ h2)⟩, for_list (K := K) (a := L) (xs := vs) (fun i σ H' => ∃ v2, σ = [some (.ref r), some (.ref pt), v2] ∧ Same H H' ∧ H' pt = some (.lst (intsV ((t.length : Int) :: ((t.zip (Vaseda.works s t)).take i).flatMap fun x => Vaseda.touchRow x.1 x.2)))) ⟨none, rfl, s0, by rw [upd_same, hvl, hwl] <;> rfl⟩
      (fun i σ H' _ ⟨_, _, s1, _⟩ => SqL.of (s1 _ _ h2)) ?_ ?_⟩
    · rintro i y σ H1 hi ⟨v2, rfl, s1, hT⟩
      have hil := (List.getElem?_eq_some_iff.mp hi).1
      rw [hvl] at hil
      have hw : (Vaseda.works s t)[i]? = some (Vaseda.works s t)[i] := List.getElem?_eq_getElem hil
      obtain ⟨p, A, B, D, last, x0, g1, g2, hP, _⟩ := h3.2 i _ hw
      rw [hi] at g1
      cases g1
      have hP1 := hP.same s1
      obtain ⟨⟨dx, hp⟩, ⟨va, ha, hav⟩, ⟨vb, hb, hbv⟩, _⟩ := id hP1
      have hz := zip_at g2 hw
      have hfl := flat_len (fun x : Bytes × Work => Vaseda.touchRow x.1 x.2) 3 ((t.zip (Vaseda.works s t)).take i) fun x _ => by rw [touchRow_eq]; exact Nat.le_refl 3
      have htl : ((t.zip (Vaseda.works s t)).take i).length ≤ 24 := by
        rw [List.length_take, List.length_zip]
        have := hR.few
        omega
      have hmul : 3 * ((t.zip (Vaseda.works s t)).take i).length ≤ 3 * 24 := Nat.mul_le_mul_left _ htl
      refine ⟨_, rfl, .inl ⟨rfl, _, SqL.of hT⟩, _, rfl, p, dx, _, rfl, hp, pF_no _ _ _ _ _ _ _ (by decide +kernel), p, i + 1, last, x0, _, A, B, D, rfl, ⟨dx, hp⟩, ?_⟩
      refine ⟨_, rfl, p, CP, dx, _, _, rfl, hp, T.cl, T.n_put_ahead, pF_put_ahead _ _ _ _ _ _ _, A, _, rfl, Or.inl (SqL.of ha), _, rfl, p, CP, dx, _, _, rfl, hp, T.cl, T.n_put_behind, pF_put_behind _ _ _ _ _ _ _, B, _, rfl, Or.inl (SqL.of hb), by show 3 ≤ sizeLine; decide, fun p2 hp2 => ?_⟩
      have s4 := Same.upd (o := .lst [.int (fateOf x0 (Vaseda.works s t)[i]), .int (va.length : Nat), .int (vb.length : Nat)]) hp2
      refine ⟨pt, p2, _, _, rfl, rfl, s4 _ _ hT, upd_same, by rw [intsV_len, sizeLine_eq, List.length_cons]; show _ + 3 ≤ _; omega, ?_⟩
      refine ⟨_, rfl, Same.updD (s1.trans s4) hpt, ?_⟩
      rw [upd_same, flat_take _ hz, touchRow_eq, ← List.cons_append, intsV_app, hav.1, hbv.1] <;> rfl
    · rintro σ H1 ⟨v2, rfl, s1, hT⟩
      have ez : (t.zip (Vaseda.works s t)).take vs.length = t.zip (Vaseda.works s t) := List.take_of_length_le (by rw [List.length_zip]; omega)
      rw [ez] at hT
      exact ⟨_, rfl, q pt H1 s1 hpt hT⟩
end
end Lsd
/-! Desk: __init__, load, shown, again, rest -/
namespace Lsd
open PySem PySem.Spec PyProof.Rows L2
open VasedBase hiding Tok
open Vaseda (Deed Cmd Work Out)
structure DeskT (K : PySem.W.Frag) (mg : Str → Option Value) (CD : PySem.Addr) : Prop where
  cl : Cls K CD
  gl : mg "Desk" = some (.ref CD)
  nC : NoAttr K CD "commands"
def dkF (v : V) : List (Str × V) := [("commands", v)]
theorem dkF_cmd (v : V) : (dkF v).lookup ("commands" : Str) = some v := lkp_here
theorem dkF_put (v u : V) : putF "commands" u (dkF v) = dkF u := putF_here
theorem dkF_no {m : Str} (v : V) (e : (m == ("commands" : Str)) = false) : (dkF v).lookup m = none := (lkp_past e).trans rfl
/-- a desk at d that holds a script, or none -/
def DeskAt (K : PySem.W.Frag) (CD : PySem.Addr) (H : Hp) (d : PySem.Addr) : Vaseda.Obj → Prop
  | none => ∃ dd, H d = some (.ins CD dd (dkF .non))
  | some s => ∃ dd a, H d = some (.ins CD dd (dkF (.ref a))) ∧ CmdsAt K H a s
theorem DeskAt.same {K : PySem.W.Frag} {CD : PySem.Addr} {H H' : Hp} {d : PySem.Addr} {o : Vaseda.Obj} (h : DeskAt K CD H d o) (s : Same H H') : DeskAt K CD H' d o := by
  cases o with
  | none => obtain ⟨dd, h1⟩ := h; exact ⟨dd, s _ _ h1⟩
  | some sc => obtain ⟨dd, a, h1, h2⟩ := h; exact ⟨dd, a, s _ _ h1, h2.same s⟩
abbrev sDesk (j : Nat) : Stmt := inClass (top 72) j
theorem scDeskInit : FnScope ["self"] ["self"] (defScope (sDesk 0)) := ⟨rfl, rfl, rfl, by decide +kernel, rfl, by decide +kernel, by decide +kernel⟩
theorem scLoad : FnScope ["self", "script", "found", "e"] ["self", "script"] (defScope (sDesk 1)) := ⟨rfl, rfl, rfl, by decide +kernel, rfl, by decide +kernel, by decide +kernel⟩
theorem scShown : FnScope ["self", "octets"] ["self"] (defScope (sDesk 2)) := ⟨rfl, rfl, rfl, by decide +kernel, rfl, by decide +kernel, by decide +kernel⟩
theorem scDAgain : FnScope ["self", "text", "many"] ["self", "text", "many"] (defScope (sDesk 3)) := ⟨rfl, rfl, rfl, by decide +kernel, rfl, by decide +kernel, by decide +kernel⟩
theorem scDRest : FnScope ["self", "text", "many"] ["self", "text"] (defScope (sDesk 4)) := ⟨rfl, rfl, rfl, by decide +kernel, rfl, by decide +kernel, by decide +kernel⟩
/-- d's field stands, or is new -/
def NewF (CD : PySem.Addr) (H H' : Hp) (d : PySem.Addr) : Prop := ∀ dd v, H' d = some (.ins CD dd (dkF v)) → H d = some (.ins CD dd (dkF v)) ∨ ∃ p, v = .ref p ∧ H p = none
theorem newF_same {CD : PySem.Addr} {H H' : Hp} {d : PySem.Addr} {o : HO} (hd : H d = some o) (s : Same H H') : NewF CD H H' d := fun dd v e => .inl (by
  rw [s _ _ hd] at e
  rw [hd]
  exact e)
theorem DeskAt.has {K : PySem.W.Frag} {CD : PySem.Addr} {H : Hp} {d : PySem.Addr} {o : Vaseda.Obj} (h : DeskAt K CD H d o) : ∃ dd v, H d = some (.ins CD dd (dkF v)) := by
  cases o with
  | none => obtain ⟨dd, h1⟩ := h; exact ⟨dd, _, h1⟩
  | some s => obtain ⟨dd, a, h1, _⟩ := h; exact ⟨dd, _, h1⟩
theorem DeskAt.newF {K : PySem.W.Frag} {CD : PySem.Addr} {H H' : Hp} {d : PySem.Addr} {o : Vaseda.Obj} (h : DeskAt K CD H d o) (s : Same H H') : NewF CD H H' d := by
  obtain ⟨dd, v, e⟩ := h.has
  exact newF_same e s
def spDeskInit (K : PySem.W.Frag) (CD : PySem.Addr) : Sp := fun vs H Q _ => ∃ d dd, vs = [.ref d] ∧ H d = some (.ins CD dd []) ∧ Q .non (upd H d (.ins CD dd (dkF .non)))
def spLoad (K : PySem.W.Frag) (CD : PySem.Addr) : Sp := fun vs H Q _ => ∃ d a o b, vs = [.ref d, .ref a] ∧ DeskAt K CD H d o ∧ SqL K H a (ofB b) ∧ b.length ≤ 10000 ∧ ∀ p H', Keep [d] H H' → H p = none → DeskAt K CD H' d (Vaseda.step o (.load b)).1 → NewF CD H H' d →
  H' p = some (.lst (intsV (VasedaNeutral.encode (Vaseda.step o (.load b)).2))) → Q (.ref p) H'
def spDShown (K : PySem.W.Frag) (CD : PySem.Addr) : Sp := fun vs H Q _ => ∃ d s, vs = [.ref d] ∧ DeskAt K CD H d (some s) ∧ ∀ p H', Same H H' → H p = none → H' p = some (.lst (intsV (textRow (Vaseda.shown s)))) → Q (.ref p) H'
/-- a text of lines at tx -/
structure TextAt (H : Hp) (tx : PySem.Addr) (t : List Bytes) : Prop where
  at_ : H tx = some (.lst (strsOf t))
  few : t.length ≤ 24
  line : ∀ x ∈ t, x.length ≤ 16
theorem TextAt.same {H H' : Hp} {tx : PySem.Addr} {t : List Bytes} (h : TextAt H tx t) (s : Same H H') : TextAt H' tx t := ⟨s _ _ h.at_, h.few, h.line⟩
def fAgain (n : Int) (s : List Cmd) (t : List Bytes) : Option (List Int) := if n < 0 ∨ 10 < n then some [-3] else (Vaseda.again s n.toNat t).map fun u => (u.length : Int) :: textRow (Vaseda.showText u)
def fRest (s : List Cmd) (t : List Bytes) : Option (List Int) := (Vaseda.restBy s 11 0 t).map fun o => match o with
  | some n => [1, (n : Int)]
  | none => [0]
/-- an answer, or too much -/
def Ans (CT : PySem.Addr) (E : XK) (Q : VK) (H : Hp) (o : Option (List Int)) : Prop := (o = none → TooK CT E [] H) ∧ ∀ l, o = some l → ∀ p H', Same H H' → H p = none → H' p = some (.lst (intsV l)) → Q (.ref p) H'
def spDAgain (K : PySem.W.Frag) (CD CT : PySem.Addr) : Sp := fun vs H Q E => ∃ d tx n s t, vs = [.ref d, .ref tx, .int n] ∧ DeskAt K CD H d (some s) ∧ TextAt H tx t ∧ Ans CT E Q H (fAgain n s t)
def spDRest (K : PySem.W.Frag) (CD CT : PySem.Addr) : Sp := fun vs H Q E => ∃ d tx s t, vs = [.ref d, .ref tx] ∧ DeskAt K CD H d (some s) ∧ TextAt H tx t ∧ Ans CT E Q H (fRest s t)
theorem again_ok {s : List Cmd} (hs : ∀ c ∈ s, cmdOk c) (h16 : s.length ≤ 16) : ∀ (n : Nat) (t u : List Bytes), t.length ≤ 60 → (∀ x ∈ t, x.length ≤ 16) → Vaseda.again s n t = some u → u.length ≤ 60 ∧ ∀ x ∈ u, x.length ≤ 16
  | 0, t, u, hl, hx, h => by
    cases h
    exact ⟨hl, hx⟩
  | n + 1, t, u, hl, hx, h => by
    have e : Vaseda.again s (n + 1) t = if 24 < t.length then none else (Vaseda.run s t).bind fun r => Vaseda.again s n (Vaseda.outText r) := rfl
    rw [e] at h
    split at h
    · cases h
    · cases er : Vaseda.run s t with
      | none => rw [er] at h; cases h
      | some r =>
        rw [er] at h
        obtain ⟨o1, o2, _⟩ := run_ok ⟨hs, h16, hx⟩ er
        exact again_ok hs h16 n _ u o1 o2 h
theorem xdF_code (c p : Int) : (xdF c p).lookup ("code" : Str) = some (.int c) := (lkp_past (by decide +kernel)).trans lkp_here
theorem xdF_place (c p : Int) : (xdF c p).lookup ("place" : Str) = some (.int p) := lkp_here
section
variable {X : Cx} {CX : CXT} {k : Nat} {x : Str} {ps : List Str} {sp : Sp} {E : L2.St → XK} {t : TA} {e : Expr} {es : List Expr} {p pos : Pos}
/-- f(e, ..) within a try -/
theorem pe_gS (D : GD X.prog X.w X.K X.mg X.base CX k x ps sp) (hr : Room k X.A) (hx : ∀ σ, PassesAt CX X σ (E σ)) (ha : PA X (e :: es) t) (hg : Gl X x := by rfl) (hdb : (x == ("__debug__" : Str)) = false := by decide)
    (he : starEach (e :: es) X.env = (false, eval e X.env) :: starEach es X.env := by rfl) (hpl : (backTo pos (starEach es X.env)).any (·.1) = false := by rfl) : PE X (.Call (.Name x p) (e :: es) [] pos) (tCallS sp E t) := by
  obtain ⟨f, fd, F, hm, hk, hb⟩ := D.ex
  exact L2.pe_callS F hr hg hm hk hb hx ha hdb he hpl
end
section
variable {P : Program} {w : World} {K : PySem.W.Frag} {mg : Str → Option Value} {base : Heap} {CF CD CT : PySem.Addr}
theorem ok_desk_init (F : InitF K CD "Desk.__init__" (sDesk 0)) (T : DeskT K mg CD) : MkD P w K mg base CX0 1 CD ["self"] (spDeskInit K CD) := by
  obtain ⟨f, fd, F, hm⟩ := F
  refine ⟨f, fd, F.ok scDeskInit (fun vs H Q E h => ?_) (fun cdv A outer s H vs Q E hr h => ⟨_, pss_one (ps_fld (pv 0) pe_non rfl), ?_⟩), hm, F.binds fun _ _ _ _ _ _ us hl => match us, hl with | [_], _ => rfl⟩
  · obtain ⟨d, dd, rfl, _⟩ := h
    rfl
  · obtain ⟨d, dd, rfl, hd, q⟩ := h
    exact ⟨_, rfl, d, CD, dd, _, rfl, hd, T.cl, T.nC, by show 0 < 1000; decide, q⟩
theorem ok_load (F : MF K CD "load" "Desk.load" (sDesk 1)) (T : DeskT K mg CD) (TF : FaultT K mg CF) (XF : XfC K CF) (ml : mg "len" = none) (DS : GN P w K mg base (L2.CX P w) 8 "read_script" ["script"] (spScriptN K CF)) : MD P w K mg base CX0 9 CD "load" ["self", "script"] (spLoad K CD) := by
  obtain ⟨f, fd, F, hm⟩ := F
  refine ⟨f, fd, F.ok scLoad (fun vs H Q E h => ?_) (fun cdv A outer s H vs Q E hr h => ⟨_, pss_cons (ps_try_as (i := 3) (tb := fun W => tAsg (tCallS (plain (spScriptN K CF)) (WE W) (tCons (tVar 1) tNil)) (gName 2))
        (ts := fun a cls d => tRet (tLst (tCons (tC (.int 0)) (tCons (tXf a cls d CF "code" (tVar 3)) (tCons (tXf a cls d CF "place" (tVar 3)) tNil))))) (Wout := fun _ _ _ _ => False) rfl rfl scLoad.nd rfl rfl ⟨rfl, by decide, .inl TF.gl⟩ takes0
        (fun W pn xe tk _ => pss_one (ps_set (i := 2) scLoad.nd rfl (Or.inl rfl) (by exact (pe_gS DS.gd hr (fun σ => passAt tk σ) (by exact (pa_cons (pv 1) pa_nil))))))
        (fun a oe cls d pn hz hf => pss_one (ps_ret (by exact (pe_lst (pa_cons L2.pe_int (pa_cons (pe_xf XF TF.nc hz hf (pv 3)) (pa_cons (pe_xf XF TF.np hz hf (pv 3)) pa_nil))))))))
      (pss_cons (ps_fld (pv 0) (pv 2) rfl) (pss_one (ps_ret (pe_lst (pa_cons L2.pe_int (pa_cons (pe_callB call_len_seq (by rfl) ml boot_len (pa_cons (pv 2) pa_nil)) pa_nil)))))), ?_⟩), hm, F.binds fun _ _ _ _ _ _ us hl => match us, hl with | [_, _], _ => rfl⟩
  · obtain ⟨d, a, o, b, rfl, _⟩ := h
    rfl
  · obtain ⟨d, a, o, b, rfl, hD, hS, hz, q⟩ := h
    refine ⟨_, rfl, a, b, rfl, hS, hz, fun f e dd H' kk hd => ?_, fun sc e m p vs H' s1 hp hl hcv => ?_⟩
    · have est : Vaseda.step o (.load b) = (o, faulty f) := by
        show (match Vaseda.read b with | .ok s => _ | .error f => _) = _
        rw [e]
      rw [est] at q
      have s1 := kk.same
      refine ⟨true, TF.te, fun _ a0 ha0 => ?_, fun z => nomatch z⟩
      refine ⟨_, rfl, rfl, rfl, dd, _, _, rfl, hd, xdF_code _ _, _, rfl, rfl, rfl, dd, _, _, rfl, hd, xdF_place _ _, by show 3 ≤ sizeLine; decide, fun p hp => ?_⟩
      exact q p _ (Keep.of (s1.trans (Same.upd hp))) (none_of s1 hp) (hD.same (s1.trans (Same.upd hp))) (hD.newF (s1.trans (Same.upd hp))) upd_same
    · have est : Vaseda.step o (.load b) = (some sc, ⟨1, Vaseda.nats [sc.length]⟩) := by
        show (match Vaseda.read b with | .ok s => _ | .error f => _) = _
        rw [e]
      rw [est] at q
      obtain ⟨w1, w2⟩ := read_wf e
      have hvl := hcv.1
      have hCA : CmdsAt K H' p sc := ⟨⟨vs, hl, hcv⟩, w1, w2⟩
      obtain ⟨dd, v0, hd⟩ : ∃ dd v0, H d = some (.ins CD dd (dkF v0)) := by
        cases o with
        | none => obtain ⟨dd, h1⟩ := hD; exact ⟨dd, _, h1⟩
        | some s0 => obtain ⟨dd, a0, h1, _⟩ := hD; exact ⟨dd, _, h1⟩
      have hd1 := s1 _ _ hd
      have npd : p ≠ d := fun z => by rw [z, hd1] at hl; cases hl
      refine ⟨_, rfl, _, rfl, d, CD, dd, _, rfl, hd1, T.cl, T.nC, by show 1 < 1000; decide, ?_⟩
      rw [dkF_put]
      have k2 : Keep [d] H' (upd H' d (.ins CD dd (dkF (.ref p)))) := keepp _ _
      have kt2 := KeepT.updi (o := .ins CD dd (dkF (.ref p))) hd1
      have hCA2 := hCA.keep k2 kt2 (by simpa using npd)
      refine ⟨_, rfl, p, _, rfl, Or.inl (SqL.of ((upd_ne npd).trans hl)), by show 2 ≤ sizeLine; decide, fun p2 hp2 => ?_⟩
      have s3 := Same.upd (o := .lst [.int 1, .int (vs.length : Nat)]) hp2
      have np2 : p2 ≠ d := fun z => by rw [z, upd_same] at hp2; cases hp2
      refine q p2 _ (((Keep.of s1).trans k2).trans (Keep.of s3)) (none_of s1 ((upd_ne np2).symm.trans hp2)) ⟨dd, p, s3 _ _ upd_same, hCA2.same s3⟩ (fun dd2 v e2 => ?_) ?_
      · rw [s3 _ _ upd_same] at e2
        cases e2
        exact .inr ⟨p, rfl, by assumption⟩
      rw [upd_same, hvl] <;> rfl
theorem ok_shown (F : MF K CD "shown" "Desk.shown" (sDesk 2)) (T : DeskT K mg CD) (ml : mg "len" = none) (D1 : GD P w K mg base CX0 3 "script_told" ["commands"] (spShown K)) (D2 : GD P w K mg base CX0 1 "octets_of" ["text"] spOctets) : MD P w K mg base CX0 4 CD "shown" ["self"] (spDShown K CD) := by
  obtain ⟨f, fd, F, hm⟩ := F
  refine ⟨f, fd, F.ok scShown (fun vs H Q E h => ?_) (fun cdv A outer s H vs Q E hr h => ⟨_, pss_cons (ps_set (i := 1) scShown.nd rfl (Or.inl rfl) (pe_g D2 (hr.mono (by decide)) pass0 (pa_cons (pe_g D1 hr pass0 (pa_cons (pe_fld (pv 0) rfl) pa_nil)) pa_nil)))
      (pss_one (ps_ret (pe_op op_cat (pe_lst (pa_cons (pe_callB call_len_seq (by rfl) ml boot_len (pa_cons (pv 1) pa_nil)) pa_nil)) (pv 1)))), ?_⟩), hm, F.binds fun _ _ _ _ _ _ us hl => match us, hl with | [_], _ => rfl⟩
  · obtain ⟨d, s, rfl, _⟩ := h
    rfl
  · obtain ⟨d, sc, rfl, ⟨dd, a, hd, hC⟩, q⟩ := h
    obtain ⟨⟨ys, hys, hcv⟩, hok, h16⟩ := id hC
    have hb : ∀ x ∈ sc.map Vaseda.showCmd, x.length ≤ 120 := fun x m => by
      obtain ⟨c, hc, rfl⟩ := List.mem_map.mp m
      exact showCmd_len (hok c hc)
    have hlen : (Vaseda.shown sc).length ≤ 120 * 16 := by
      have h1 := flat_len Vaseda.showCmd 120 sc fun c hc => showCmd_len (hok c hc)
      have h2 : 120 * sc.length ≤ 120 * 16 := Nat.mul_le_mul_left _ h16
      exact Nat.le_trans h1 h2
    refine ⟨_, rfl, d, CD, dd, _, _, rfl, hd, T.cl, T.nC, dkF_cmd _, a, ys, sc, rfl, SqL.of hys, hcv, hok, h16, fun H1 s1 => ⟨Vaseda.shown sc, rfl, by omega, fun D H2 hD s2 hDl => ?_⟩⟩
    refine ⟨_, rfl, D, _, rfl, Or.inl (SqL.of hDl), by show 1 ≤ sizeLine; decide, fun p2 hp2 => ⟨_, rfl, p2, D, _, _, rfl, rfl, upd_same, Same.upd hp2 _ _ hDl, by rw [ofB_len, sizeLine_eq]; show 1 + _ ≤ _; omega, fun p3 hp3 => ?_⟩⟩
    refine q p3 _ ((s1.trans s2).trans ((Same.upd hp2).trans (Same.upd hp3))) (none_of ((s1.trans s2).trans (Same.upd hp2)) hp3) ?_
    rw [upd_same, ofB_len, ofB_ints] <;> rfl
theorem ok_dagain (F : MF K CD "again" "Desk.again" (sDesk 3)) (T : DeskT K mg CD) (cN : GC mg "NO_LINE" (.int (-3))) (cM : GC mg "MOST_RUNS" (.int 10)) (D1 : GD P w K mg base (L2.CX P w) 7 "run_again" ["commands", "text", "many"] (spAgain K CT)) (D2 : GD P w K mg base CX0 3 "told_text" ["lines"] (spToldText K)) :
    MD P w K mg base (L2.CX P w) 8 CD "again" ["self", "text", "many"] (spDAgain K CD CT) := by
  obtain ⟨f, fd, F, hm⟩ := F
  refine ⟨f, fd, F.okX scDAgain (fun vs H Q E h => ?_) (fun cdv A outer s H vs Q E hr h => ⟨_, pss_cons (ps_if (PW.pt (pw_or (pt_cmpR op_lt (pv 2) L2.pe_int (nomark _)) (pw_or1 (pt_cmpR op_gt (pv 2) (pe_gc cM) (nomark _))))) (pss_one (ps_ret (pe_lst (pa_cons (pe_gc cN) pa_nil)))) pss_nil)
      (pss_one (ps_ret (pe_g D2 (hr.mono (by decide)) pass0 (pa_cons (pe_g D1 hr (passW (takes_of rfl rfl rfl rfl)) (pa_cons (pe_fld (pv 0) rfl) (pa_cons (pv 1) (pa_cons (pv 2) pa_nil)))) pa_nil)))), ?_⟩), hm, F.binds fun _ _ _ _ _ _ us hl => match us, hl with | [_, _, _], _ => rfl⟩
  · obtain ⟨d, tx, n, s, t, rfl, _⟩ := h
    rfl
  · obtain ⟨d, tx, n, sc, t, rfl, ⟨dd, a, hd, hC⟩, hT, q0, q1⟩ := h
    dsimp only [tSeq, tIfS]
    show tOr _ _ _ _ _
    refine orT (c := decide (n < 0)) (d := decide ((10 : Int) < n)) (fun R rr => ⟨_, rfl, _, _, rfl, rfl, _, rfl, rr⟩) (fun _ R rr => ⟨_, rfl, _, _, rfl, rfl, _, rfl, rr⟩) ?_
    unfold fAgain at q0 q1
    by_cases hn : n < 0 ∨ 10 < n
    · rw [if_pos hn] at q0 q1
      exact if_tr (by rw [Bool.or_eq_true, decide_eq_true_eq, decide_eq_true_eq]; exact hn) ⟨by show 1 ≤ sizeLine; decide, fun p hp => q1 _ rfl p _ (Same.upd hp) hp upd_same⟩
    · rw [if_neg hn] at q0 q1
      refine if_fl (by rw [Bool.or_eq_false_iff, decide_eq_false_iff_not, decide_eq_false_iff_not]; omega) ?_
      have en : n = ((n.toNat : Nat) : Int) := by omega
      refine ⟨_, rfl, d, CD, dd, _, _, rfl, hd, T.cl, T.nC, dkF_cmd _, _, rfl, _, rfl, a, tx, n.toNat, sc, t, by rw [← en] <;> rfl, hC, hT.at_, hT.line, by omega, fun e => q0 (by rw [e] <;> rfl), fun u e p H1 s1 hp => ?_⟩
      obtain ⟨g1, g2⟩ := again_ok hC.ok hC.few _ t u (Nat.le_trans hT.few (by decide)) hT.line e
      refine ⟨p, u, rfl, SqL.of hp, by omega, fun x m => Nat.le_trans (g2 x m) (by decide), fun p2 H2 s2 hp2 hl2 => ?_⟩
      exact q1 _ (by rw [e] <;> rfl) p2 H2 (s1.trans s2) (none_of s1 hp2) hl2
theorem ok_drest (F : MF K CD "rest" "Desk.rest" (sDesk 4)) (T : DeskT K mg CD) (cM : GC mg "MOST_RUNS" (.int 10)) (D1 : GD P w K mg base (L2.CX P w) 7 "runs_to_rest" ["commands", "text", "most"] (spToRest K CT)) : MD P w K mg base (L2.CX P w) 8 CD "rest" ["self", "text"] (spDRest K CD CT) := by
  obtain ⟨f, fd, F, hm⟩ := F
  refine ⟨f, fd, F.okX scDRest (fun vs H Q E h => ?_) (fun cdv A outer s H vs Q E hr h => ⟨_, pss_cons (ps_set (i := 2) scDRest.nd rfl (Or.inl rfl) (pe_g D1 hr (passW (takes_of rfl rfl rfl rfl)) (pa_cons (pe_fld (pv 0) rfl) (pa_cons (pv 1) (pa_cons (pe_gc cM) pa_nil)))))
      (pss_one (ps_ret (pe_ifExp (pt_cmpR op_ge (pv 2) L2.pe_int (nomark _)) (pe_lst (pa_cons L2.pe_int (pa_cons (pv 2) pa_nil))) (pe_lst (pa_cons L2.pe_int pa_nil))))), ?_⟩), hm, F.binds fun _ _ _ _ _ _ us hl => match us, hl with | [_, _], _ => rfl⟩
  · obtain ⟨d, tx, s, t, rfl, _⟩ := h
    rfl
  · obtain ⟨d, tx, sc, t, rfl, ⟨dd, a, hd, hC⟩, hT, q0, q1⟩ := h
    unfold fRest at q0 q1
    refine ⟨_, rfl, d, CD, dd, _, _, rfl, hd, T.cl, T.nC, dkF_cmd _, _, rfl, a, tx, sc, t, rfl, hC, hT.at_, hT.line, fun e => q0 (by rw [e] <;> rfl), fun o e H1 s1 => ?_⟩
    refine ⟨_, rfl, _, _, rfl, rfl, _, rfl, ?_⟩
    cases o with
    | none =>
      refine if_fl (by decide) ⟨by show 1 ≤ sizeLine; decide, fun p hp => ?_⟩
      exact q1 [0] (by rw [e] <;> rfl) p _ (s1.trans (Same.upd hp)) (none_of s1 hp) upd_same
    | some n =>
      refine if_tr (decide_eq_true (Int.natCast_nonneg n)) ⟨_, rfl, by show 2 ≤ sizeLine; decide, fun p hp => ?_⟩
      exact q1 [1, (n : Int)] (by rw [e] <;> rfl) p _ (s1.trans (Same.upd hp)) (none_of s1 hp) upd_same
end
end Lsd
/-! Desk.asked, Desk.answer -/
namespace Lsd
open PySem PySem.Spec PyProof.Rows L2
open VasedBase hiding Tok
open Vaseda (Deed Cmd Work Out)
def fAsk (w n : Int) (s : List Cmd) (t : List Bytes) : Option (List Int) :=
  if w = 7 then fAgain n s t else if w = 8 then fRest s t else (Vaseda.run s t).map fun res =>
    if w = 2 then fRun s t res else if w = 3 then fOrig s t res else if w = 4 then fTrace n s t res else if w = 5 then fHeld s t res else fTouch s t res
def spAsked (K : PySem.W.Frag) (CD CT : PySem.Addr) : Sp := fun vs H Q E => ∃ d tx w n s t, vs = [.ref d, .int w, .int n, .ref tx] ∧ DeskAt K CD H d (some s) ∧ TextAt H tx t ∧ Ans CT E Q H (fAsk w n s t)
theorem scAsked : FnScope ["self", "which", "number", "text", "run"] ["self", "which", "number", "text"] (defScope (sDesk 5)) := ⟨rfl, rfl, rfl, by decide +kernel, rfl, by decide +kernel, by decide +kernel⟩
theorem scAnswer : FnScope ["self", "which", "number", "octets", "text", "found"] ["self", "which", "number", "octets"] (defScope (sDesk 6)) := ⟨rfl, rfl, rfl, by decide +kernel, rfl, by decide +kernel, by decide +kernel⟩
def callOf (w n : Int) (b : Bytes) : Vaseda.Call := if w = 0 then .load b else if w = 1 then .shown else if w = 2 then .run b else if w = 3 then .origins b else if w = 4 then .trace n b else if w = 5 then .held b else if w = 6 then .touched b else if w = 7 then .again n b else .rest b
def askAns (w n : Int) (s : List Cmd) (b : Bytes) : List Int := match Vaseda.readText b with
  | none => [-4]
  | some t => (fAsk w n s t).getD [-7]
theorem enc_run (s : List Cmd) (b : Bytes) (f : List Bytes → Vaseda.Result → Answer) (g : List Cmd → List Bytes → Vaseda.Result → List Int) (h : ∀ t r, VasedaNeutral.encode (f t r) = g s t r) : VasedaNeutral.encode (Vaseda.withRun s b f) = match Vaseda.readText b with
    | none => [-4]
    | some t => ((Vaseda.run s t).map fun r => g s t r).getD [-7] := by
  unfold Vaseda.withRun Vaseda.withText
  cases Vaseda.readText b with
  | none => rfl
  | some t =>
    cases e : Vaseda.run s t with
    | none => simp only [e]; rfl
    | some r =>
      simp only [e]
      exact h t r
theorem ask_enc {w : Int} (h2 : 2 ≤ w) (h8 : w ≤ 8) (n : Int) (s : List Cmd) (b : Bytes) : VasedaNeutral.encode (Vaseda.looked s (callOf w n b)) = askAns w n s b := by
  have hw : w = 2 ∨ w = 3 ∨ w = 4 ∨ w = 5 ∨ w = 6 ∨ w = 7 ∨ w = 8 := by omega
  rcases hw with rfl | rfl | rfl | rfl | rfl | rfl | rfl
  · exact enc_run s b _ fRun fun t r => rfl
  · exact enc_run s b _ fOrig fun t r => rfl
  · refine enc_run s b _ (fTrace n) fun t r => ?_
    unfold fTrace
    cases (index (n - 1) t.length).bind fun j => (Vaseda.works s t)[j]? <;> rfl
  · exact enc_run s b _ fHeld fun t r => rfl
  · exact enc_run s b _ fTouch fun t r => rfl
  · show VasedaNeutral.encode (Vaseda.withText b fun t => if n < 0 ∨ (10 : Int) < n then one (-3) else match Vaseda.again s n.toNat t with | none => one (-7) | some u => ⟨(u.length : Int), textRow (Vaseda.showText u)⟩) = _
    unfold Vaseda.withText askAns
    cases Vaseda.readText b with
    | none => rfl
    | some t =>
      show VasedaNeutral.encode (if n < 0 ∨ (10 : Int) < n then one (-3) else _) = (fAgain n s t).getD [-7]
      unfold fAgain
      by_cases hn : n < 0 ∨ 10 < n
      · rw [if_pos hn, if_pos hn] <;> rfl
      · rw [if_neg hn, if_neg hn]
        cases Vaseda.again s n.toNat t <;> rfl
  · show VasedaNeutral.encode (Vaseda.withText b fun t => match Vaseda.restBy s 11 0 t with | none => one (-7) | some none => one 0 | some (some n) => ⟨1, Vaseda.nats [n]⟩) = _
    unfold Vaseda.withText askAns
    cases Vaseda.readText b with
    | none => rfl
    | some t =>
      show VasedaNeutral.encode (match Vaseda.restBy s 11 0 t with | none => one (-7) | some none => one 0 | some (some n) => ⟨1, Vaseda.nats [n]⟩) = (fRest s t).getD [-7]
      unfold fRest
      cases Vaseda.restBy s 11 0 t with
      | none => rfl
      | some o => cases o <;> rfl
theorem step_ask {w : Int} (h2 : 2 ≤ w) (h8 : w ≤ 8) (n : Int) (s : List Cmd) (b : Bytes) : Vaseda.step (some s) (callOf w n b) = (some s, Vaseda.looked s (callOf w n b)) := by
  have hw : w = 2 ∨ w = 3 ∨ w = 4 ∨ w = 5 ∨ w = 6 ∨ w = 7 ∨ w = 8 := by omega
  rcases hw with rfl | rfl | rfl | rfl | rfl | rfl | rfl <;> rfl
theorem step_none {w : Int} (h1 : 1 ≤ w) (h8 : w ≤ 8) (n : Int) (b : Bytes) : Vaseda.step none (callOf w n b) = (none, one (-1)) := by
  have hw : w = 1 ∨ w = 2 ∨ w = 3 ∨ w = 4 ∨ w = 5 ∨ w = 6 ∨ w = 7 ∨ w = 8 := by omega
  rcases hw with rfl | rfl | rfl | rfl | rfl | rfl | rfl | rfl <;> rfl
def spAnswer (K : PySem.W.Frag) (CD : PySem.Addr) : Sp := fun vs H Q _ => ∃ d oc w n o b, vs = [.ref d, .int w, .int n, .ref oc] ∧ DeskAt K CD H d o ∧ SqL K H oc (ofB b) ∧ b.length ≤ 10000 ∧ 0 ≤ w ∧ w ≤ 8 ∧ ∀ p H', Keep [d] H H' → H p = none → DeskAt K CD H' d (Vaseda.step o (callOf w n b)).1 → NewF CD H H' d →
  H' p = some (.lst (intsV (VasedaNeutral.encode (Vaseda.step o (callOf w n b)).2))) → Q (.ref p) H'
section
variable {X : Cx} {CX : CXT} {k : Nat} {C : PySem.Addr} {m : Str} {ps : List Str} {sp : Sp} {E : L2.St → XK} {t : TA} {ta : TE} {o e : Expr} {es : List Expr} {pos apos : Pos}
/-- o.m(e, ..) within a try -/
def tMS (C : PySem.Addr) (m : Str) (sp : Sp) (E : L2.St → XK) (ta : TE) (t : TA) : TE := fun σ H Q => ta σ H fun x H1 => ∃ a dx fs, x = .ref a ∧ H1 a = some (.ins C dx fs) ∧ fs.lookup m = none ∧ t σ H1 fun vs H2 => sp (x :: vs) H2 Q (E σ)
theorem pe_mS {pl : Sem Bool} (D : MD X.prog X.w X.K X.mg X.base CX k C m ps sp) (c : Cls X.K C) (hr : Room k X.A) (hx : ∀ σ, PassesAt CX X σ (E σ)) (he : PE X o ta) (ha : PA X (e :: es) t)
    (hst : starEach (e :: es) X.env = (false, eval e X.env) :: starEach es X.env := by rfl) (hpl : (backTo pos (starEach es X.env)).any (·.1) = false := by rfl)
    (ht : eval (.Call (.Attribute o m apos) (e :: es) [] pos) X.env = (do
      let ov ← eval o X.env
      standAt apos.atName
      let (f, first) ← holding [ov] (getMethod ov m pl)
      callWith pos f first (backTo pos (starEach (e :: es) X.env)) (backToKw pos (keywordEach [] X.env))) := by rfl) :
    PE X (.Call (.Attribute o m apos) (e :: es) [] pos) (tMS C m sp E ta t) := by
  obtain ⟨f, fd, F, hm, hb⟩ := D.ex
  refine ⟨fun pins s σ H Q I h => ?_⟩
  refine PySem.W.methodCall_KW (pl := pl) (thn (he.run pins s σ H _ I h) fun u s1 ⟨x, H1, I1, rx, a, dx, fs, ex, ea, l, q⟩ => ?_) ht
  subst ex
  obtain rfl : u = Value.ref a := rx
  refine getmeth_ok I1 ea c hm l ?_
  refine PySem.W.callWith_K (first := [.ref a]) (h₀ := X.base) I.ok.mod.kin hm.kp (thn (ha.run pos pins s1 σ H1 _ I1 q) fun us s2 ⟨vs, H2, I2, r, q2⟩ => ⟨I2.kIn, ?_⟩) hst hpl
  exact run_fnS (us := .ref a :: us) (vs := .ref a :: vs) F hr hb (hx σ) I2 (.cons rfl r) q2
end
section
variable {P : Program} {w : World} {K : PySem.W.Frag} {mg : Str → Option Value} {base : Heap} {CP CRn CD CT : PySem.Addr}
theorem ok_asked (F : MF K CD "asked" "Desk.asked" (sDesk 5)) (T : DeskT K mg CD) (TR : RunT K mg CRn) (D1 : MD P w K mg base (L2.CX P w) 8 CD "again" ["self", "text", "many"] (spDAgain K CD CT)) (D2 : MD P w K mg base (L2.CX P w) 8 CD "rest" ["self", "text"] (spDRest K CD CT))
    (D3 : MkD P w K mg base (L2.CX P w) 5 CRn ["self", "commands", "text"] (spRunInit K CP CRn CT)) (E2 : GD P w K mg base CX0 4 "told_run" ["run"] (spTold K CP CRn fRun)) (E3 : GD P w K mg base CX0 3 "told_origins" ["run"] (spTold K CP CRn fOrig)) (E4 : GD P w K mg base CX0 1 "told_trace" ["run", "line"] (spTrace K CP CRn))
    (E5 : GD P w K mg base CX0 2 "told_held" ["run"] (spTold K CP CRn fHeld)) (E6 : GD P w K mg base CX0 2 "told_touched" ["run"] (spTold K CP CRn fTouch)) : MD P w K mg base (L2.CX P w) 9 CD "asked" ["self", "which", "number", "text"] (spAsked K CD CT) := by
  obtain ⟨f, fd, F, hm⟩ := F
  refine ⟨f, fd, F.okX scAsked (fun vs H Q E h => ?_) (fun cdv A outer s H vs Q E hr h => ⟨_,
      pss_cons (ps_if (pt_cmpR op_eq (pv 1) L2.pe_int (nomark _)) (pss_one (ps_ret (pe_m D1 T.cl hr (passW (takes_of rfl rfl rfl rfl)) (pv 0) (pa_cons (pv 3) (pa_cons (pv 2) pa_nil))))) pss_nil)
      (pss_cons (ps_if (pt_cmpR op_eq (pv 1) L2.pe_int (nomark _)) (pss_one (ps_ret (pe_m D2 T.cl hr (passW (takes_of rfl rfl rfl rfl)) (pv 0) (pa_cons (pv 3) pa_nil)))) pss_nil)
      (pss_cons (ps_set (i := 4) scAsked.nd rfl (Or.inl rfl) (pe_mk D3 (hr.mono (by decide)) TR.gl (passW (takes_of rfl rfl rfl rfl)) (pa_cons (pe_fld (pv 0) rfl) (pa_cons (pv 3) pa_nil))))
      (pss_cons (ps_if (pt_cmpR op_eq (pv 1) L2.pe_int (nomark _)) (pss_one (ps_ret (pe_g E2 (hr.mono (by decide)) pass0 (pa_cons (pv 4) pa_nil)))) pss_nil)
      (pss_cons (ps_if (pt_cmpR op_eq (pv 1) L2.pe_int (nomark _)) (pss_one (ps_ret (pe_g E3 (hr.mono (by decide)) pass0 (pa_cons (pv 4) pa_nil)))) pss_nil)
      (pss_cons (ps_if (pt_cmpR op_eq (pv 1) L2.pe_int (nomark _)) (pss_one (ps_ret (pe_g E4 (hr.mono (by decide)) pass0 (pa_cons (pv 4) (pa_cons (pv 2) pa_nil))))) pss_nil)
      (pss_one (ps_ret (pe_ifExp (pt_cmpR op_eq (pv 1) L2.pe_int (nomark _)) (pe_g E5 (hr.mono (by decide)) pass0 (pa_cons (pv 4) pa_nil)) (pe_g E6 (hr.mono (by decide)) pass0 (pa_cons (pv 4) pa_nil)))))))))), ?_⟩), hm, F.binds fun _ _ _ _ _ _ us hl => match us, hl with | [_, _, _, _], _ => rfl⟩
  · obtain ⟨d, tx, w, n, s, t, rfl, _⟩ := h
    rfl
  · obtain ⟨d, tx, w, n, sc, t, rfl, hD, hT, q0, q1⟩ := h
    have hD' := hD
    obtain ⟨dd, a, hd, hC⟩ := hD'
    have eq1 : ∀ k : Int, w = k → decide (V.int w = V.int k) = true := fun k e => by rw [e]; exact decide_eq_true rfl
    have eq0 : ∀ k : Int, w ≠ k → decide (V.int w = V.int k) = false := fun k e => decide_eq_false fun z => e (V.int.inj z)
    unfold fAsk at q0 q1
    refine ⟨_, rfl, rfl, _, rfl, ?_⟩
    by_cases h7 : w = 7
    · rw [if_pos h7] at q0 q1
      exact if_tr (eq1 _ h7) ⟨_, rfl, d, dd, _, rfl, hd, dkF_no _ (by decide +kernel), _, rfl, _, rfl, d, tx, n, sc, t, rfl, hD, hT, q0, q1⟩
    rw [if_neg h7] at q0 q1
    refine if_fl (eq0 _ h7) ⟨_, rfl, rfl, _, rfl, ?_⟩
    by_cases h8 : w = 8
    · rw [if_pos h8] at q0 q1
      exact if_tr (eq1 _ h8) ⟨_, rfl, d, dd, _, rfl, hd, dkF_no _ (by decide +kernel), _, rfl, d, tx, sc, t, rfl, hD, hT, q0, q1⟩
    rw [if_neg h8] at q0 q1
    refine if_fl (eq0 _ h8) ⟨_, rfl, d, CD, dd, _, _, rfl, hd, T.cl, T.nC, dkF_cmd _, _, rfl, fun r dr hrn hdr hne => ?_⟩
    have sN := new_same (C := CRn) hrn hdr
    refine ⟨r, a, tx, dr, sc, t, rfl, upd_same, hC.same sN, sN _ _ hT.at_, hT.line, fun bad => ?_, fun res hl hrun H2 k2 hRV => ⟨rfl, ?_⟩⟩
    · have hnone : Vaseda.run sc t = none := by
        rcases bad with b | b
        · have := hT.few
          omega
        · exact b
      intro H' k'
      exact q0 (by rw [hnone] <;> rfl) H' (Keep.of (made_same hrn hdr k'))
    · have s2 := made_same hrn hdr k2
      have hRA : RunsAt K CP CRn H2 r sc t res := ⟨hRV, ⟨hC.ok, hC.few, hT.line⟩, hT.few, hrun⟩
      rw [hrun] at q1
      have q2 : ∀ l, (if w = 2 then fRun sc t res else if w = 3 then fOrig sc t res else if w = 4 then fTrace n sc t res else if w = 5 then fHeld sc t res else fTouch sc t res) = l → ∀ p H', Same H2 H' → H2 p = none → H' p = some (.lst (intsV l)) → Q (.ref p) H' := fun l e p H' s3 hp hl => q1 l (congrArg some e) p H' (s2.trans s3) (none_of s2 hp) hl
      refine ⟨_, rfl, rfl, _, rfl, ?_⟩
      by_cases h2 : w = 2
      · exact if_tr (eq1 _ h2) ⟨_, rfl, r, sc, t, res, rfl, hRA, q2 _ (if_pos h2)⟩
      rw [if_neg h2] at q2
      refine if_fl (eq0 _ h2) ⟨_, rfl, rfl, _, rfl, ?_⟩
      by_cases h3 : w = 3
      · exact if_tr (eq1 _ h3) ⟨_, rfl, r, sc, t, res, rfl, hRA, q2 _ (if_pos h3)⟩
      rw [if_neg h3] at q2
      refine if_fl (eq0 _ h3) ⟨_, rfl, rfl, _, rfl, ?_⟩
      by_cases h4 : w = 4
      · exact if_tr (eq1 _ h4) ⟨_, rfl, _, rfl, r, n, sc, t, res, rfl, hRA, q2 _ (if_pos h4)⟩
      rw [if_neg h4] at q2
      refine if_fl (eq0 _ h4) ⟨_, rfl, rfl, _, rfl, ?_⟩
      by_cases h5 : w = 5
      · exact if_tr (eq1 _ h5) ⟨_, rfl, r, sc, t, res, rfl, hRA, q2 _ (if_pos h5)⟩
      · exact if_fl (eq0 _ h5) ⟨_, rfl, r, sc, t, res, rfl, hRA, q2 _ (if_neg h5)⟩
theorem ok_answer (F : MF K CD "answer" "Desk.answer" (sDesk 6)) (T : DeskT K mg CD) (TT : TooT K mg CT) (cN : GC mg "NO_SCRIPT" (.int (-1))) (cS : GC mg "SHOWN" (.int 1)) (cT : GC mg "NO_TEXT" (.int (-4))) (cM : GC mg "TOO_MUCH" (.int (-7)))
    (D1 : MD P w K mg base CX0 9 CD "load" ["self", "script"] (spLoad K CD)) (D2 : MD P w K mg base CX0 4 CD "shown" ["self"] (spDShown K CD)) (D3 : GD P w K mg base CX0 3 "read_text" ["octets"] (spReadText K)) (D4 : MD P w K mg base (L2.CX P w) 9 CD "asked" ["self", "which", "number", "text"] (spAsked K CD CT)) :
    MD P w K mg base CX0 10 CD "answer" ["self", "which", "number", "octets"] (spAnswer K CD) := by
  obtain ⟨f, fd, F, hm⟩ := F
  refine ⟨f, fd, F.ok scAnswer (fun vs H Q E h => ?_) (fun cdv A outer s H vs Q E hr h => ⟨_,
      pss_cons (ps_if (pt_cmpR op_eq (pv 1) L2.pe_int (nomark _)) (pss_one (ps_ret (pe_m D1 T.cl hr pass0 (pv 0) (pa_cons (pv 3) pa_nil)))) pss_nil)
      (pss_cons (ps_if (pt_cmpR op_isN (pe_fld (pv 0) rfl) pe_non (nomark _)) (pss_one (ps_ret (pe_lst (pa_cons (pe_gc cN) pa_nil)))) pss_nil)
      (pss_cons (ps_if (pt_cmpR op_eq (pv 1) (pe_gc cS) (nomark _)) (pss_one (ps_ret (pe_m0 D2 T.cl (hr.mono (by decide)) pass0 (pv 0)))) pss_nil)
      (pss_cons (ps_set (i := 4) scAnswer.nd rfl (Or.inl rfl) (pe_g D3 (hr.mono (by decide)) pass0 (pa_cons (pv 3) pa_nil)))
      (pss_cons (ps_if (pt_cmpR op_isN (pv 4) pe_non (nomark _)) (pss_one (ps_ret (pe_lst (pa_cons (pe_gc cT) pa_nil)))) pss_nil)
      (pss_cons (ps_try_only (tb := fun W => tAsg (tMS CD "asked" (spAsked K CD CT) (WE W) (tVar 0) (tCons (tVar 1) (tCons (tVar 2) (tCons (tVar 4) tNil)))) (gName 5)) (ts := fun _ _ _ => tAsg (tLst (tCons (tC (.int (-7))) tNil)) (gName 5)) (Wout := fun _ _ _ _ => False) rfl rfl ⟨rfl, by decide, .inl TT.g⟩ takes0
        (fun W pn xe tk _ => pss_one (ps_set (i := 5) scAnswer.nd rfl (Or.inl rfl) (by exact (pe_mS D4 T.cl hr (fun σ => passAt tk σ) (pv 0) (by exact (pa_cons (pv 1) (pa_cons (pv 2) (pa_cons (pv 4) pa_nil))))))))
        (fun _ _ _ _ _ _ _ => pss_one (ps_set (i := 5) scAnswer.nd rfl (Or.inl rfl) (by exact (pe_lst (pa_cons (pe_gc cM) pa_nil))))))
      (pss_one (ps_ret (pv 5)))))))), ?_⟩), hm, F.binds fun _ _ _ _ _ _ us hl => match us, hl with | [_, _, _, _], _ => rfl⟩
  · obtain ⟨d, oc, w, n, o, b, rfl, _⟩ := h
    rfl
  · obtain ⟨d, oc, w, n, o, b, rfl, hD, hS, hz, hw0, hw8, q⟩ := h
    have eq1 : ∀ k : Int, w = k → decide (V.int w = V.int k) = true := fun k e => by rw [e]; exact decide_eq_true rfl
    have eq0 : ∀ k : Int, w ≠ k → decide (V.int w = V.int k) = false := fun k e => decide_eq_false fun z => e (V.int.inj z)
    obtain ⟨dd, v0, hd⟩ : ∃ dd v0, H d = some (.ins CD dd (dkF v0)) := by
      cases o with
      | none => obtain ⟨dd, h1⟩ := hD; exact ⟨dd, _, h1⟩
      | some s0 => obtain ⟨dd, a0, h1, _⟩ := hD; exact ⟨dd, _, h1⟩
    refine ⟨_, rfl, rfl, _, rfl, ?_⟩
    by_cases h0 : w = 0
    · have ec : callOf w n b = .load b := if_pos h0
      rw [ec] at q
      exact if_tr (eq1 _ h0) ⟨_, rfl, d, dd, _, rfl, hd, dkF_no _ (by decide +kernel), _, rfl, d, oc, o, b, rfl, hD, hS, hz, q⟩
    refine if_fl (eq0 _ h0) ?_
    cases o with
    | none =>
      obtain ⟨dd, hd⟩ := id hD
      rw [step_none (by omega) hw8] at q
      refine ⟨_, rfl, d, CD, dd, _, _, rfl, hd, T.cl, T.nC, dkF_cmd _, rfl, _, rfl, if_tr (by decide) ⟨by show 1 ≤ sizeLine; decide, fun p hp => ?_⟩⟩
      exact q p _ (Keep.of (Same.upd hp)) hp (hD.same (Same.upd hp)) (hD.newF (Same.upd hp)) upd_same
    | some sc =>
      obtain ⟨dd, a, hd, hC⟩ := id hD
      refine ⟨_, rfl, d, CD, dd, _, _, rfl, hd, T.cl, T.nC, dkF_cmd _, rfl, _, rfl, if_fl (decide_eq_false fun z => by cases z) ⟨_, rfl, rfl, _, rfl, ?_⟩⟩
      by_cases h1 : w = 1
      · have ec : Vaseda.step (some sc) (callOf w n b) = (some sc, textAnswer (Vaseda.shown sc)) := by rw [h1] <;> rfl
        rw [ec] at q
        exact if_tr (eq1 _ h1) ⟨_, rfl, d, dd, _, rfl, hd, dkF_no _ (by decide +kernel), d, sc, rfl, hD, fun p H1 s1 hp hl => q p H1 (Keep.of s1) hp (hD.same s1) (hD.newF s1) hl⟩
      · rw [step_ask (by omega) hw8] at q
        have ea := ask_enc (w := w) (by omega) hw8 n sc b
        unfold askAns at ea
        refine if_fl (eq0 _ h1) ⟨_, rfl, oc, b, rfl, hS, hz, fun e H1 s1 => ?_, fun t e tx H1 s1 htx hl => ?_⟩
        · rw [e] at ea
          refine ⟨_, rfl, rfl, _, rfl, if_tr (by decide) ⟨by show 1 ≤ sizeLine; decide, fun p hp => ?_⟩⟩
          refine q p _ (Keep.of (s1.trans (Same.upd hp))) (none_of s1 hp) (hD.same (s1.trans (Same.upd hp))) (hD.newF (s1.trans (Same.upd hp))) ?_
          show _ = some (HO.lst (intsV (VasedaNeutral.encode (Vaseda.looked sc (callOf w n b)))))
          rw [ea]
          exact upd_same
        · rw [e] at ea
          have ea : VasedaNeutral.encode (Vaseda.looked sc (callOf w n b)) = (fAsk w n sc t).getD [-7] := ea
          obtain ⟨t24, t16⟩ := text_ok e
          refine ⟨_, rfl, rfl, _, rfl, if_fl (decide_eq_false fun z => by cases z) ?_⟩
          refine ⟨_, rfl, d, dd, _, rfl, s1 _ _ hd, dkF_no _ (by decide +kernel), _, rfl, _, rfl, _, rfl, d, tx, w, n, sc, t, rfl, hD.same s1, ⟨hl, t24, t16⟩, fun en H' kk => ?_, fun l el p H2 s2 hp hl2 => ?_⟩
          · rw [en] at ea
            have s2 := kk.same
            refine ⟨true, TT.e, fun _ _ _ => ⟨by show 1 ≤ sizeLine; decide, fun p hp => ⟨_, rfl, ?_⟩⟩, fun z => nomatch z⟩
            refine q p _ (Keep.of ((s1.trans s2).trans (Same.upd hp))) (none_of (s1.trans s2) hp) (hD.same ((s1.trans s2).trans (Same.upd hp))) (hD.newF ((s1.trans s2).trans (Same.upd hp))) ?_
            show _ = some (HO.lst (intsV (VasedaNeutral.encode (Vaseda.looked sc (callOf w n b)))))
            rw [ea]
            exact upd_same
          · rw [el] at ea
            refine ⟨_, rfl, ?_⟩
            refine q p H2 (Keep.of (s1.trans s2)) (none_of s1 hp) (hD.same (s1.trans s2)) (hD.newF (s1.trans s2)) ?_
            show _ = some (HO.lst (intsV (VasedaNeutral.encode (Vaseda.looked sc (callOf w n b)))))
            rw [ea]
            exact hl2
end
end Lsd
/-! The calls' list: the mathematics -/
namespace Lsd
open PySem PySem.Spec PyProof.Rows L2
open VasedBase hiding Tok
/-- a call: its place, its number, its bytes -/
structure Ask where
  w : Int
  n : Int
  b : Bytes
def intsB (b : Bytes) : List Int := b.map fun c => (c.toNat : Int)
def flatQ (q : Ask) : List Int := q.w :: ((if q.w = 4 ∨ q.w = 7 then [q.n] else []) ++ (if q.w = 1 then [] else (q.b.length : Int) :: intsB q.b))
def rowQ (q : Ask) : List (List Int) := if q.w = 1 then [[1]] else [q.w :: (if q.w = 4 ∨ q.w = 7 then [q.n] else []), intsB q.b]
structure AskOk (q : Ask) : Prop where
  lo : 0 ≤ q.w
  hi : q.w ≤ 8
  len : q.b.length ≤ 8192
  one : q.w = 1 → q.b = []
  num : ¬ (q.w = 4 ∨ q.w = 7) → q.n = 0
theorem row_inv {r x s : List Int} (h : PyFlat.row r = some (x, s)) : r = (x.length : Int) :: (x ++ s) := by
  cases r with
  | nil => cases h
  | cons m r =>
    have h' : (if 0 ≤ m ∧ m.toNat ≤ r.length then some (r.take m.toNat, r.drop m.toNat) else none) = some (x, s) := h
    split at h'
    · rename_i c
      cases h'
      rw [List.take_append_drop, List.length_take, Nat.min_eq_left c.2]
      congr 1
      omega
    · cases h'
theorem bytes_inv : ∀ x : List Int, (x.all fun (z : Int) => VasedaNeutral.natural z 8) = true → intsB (VasedaNeutral.bytesOf x) = x
  | [], _ => rfl
  | z :: r, h => by
    rw [List.all_cons, Bool.and_eq_true] at h
    have ih := bytes_inv r h.2
    have hz := h.1
    unfold VasedaNeutral.natural at hz
    rw [Bool.and_eq_true, decide_eq_true_eq, decide_eq_true_eq] at hz
    have e : ((UInt8.ofNat z.toNat).toNat : Int) = z := by
      have h2 : z < 256 := hz.2
      rw [UInt8.toNat_ofNat_of_lt' (by show z.toNat < 256; omega)]
      omega
    show ((UInt8.ofNat z.toNat).toNat : Int) :: intsB (VasedaNeutral.bytesOf r) = z :: r
    rw [ih, e]
theorem bytes_back : ∀ b : Bytes, VasedaNeutral.bytesOf (intsB b) = b
  | [] => rfl
  | c :: r => by
    show UInt8.ofNat ((c.toNat : Int)).toNat :: VasedaNeutral.bytesOf (intsB r) = c :: r
    rw [bytes_back r, Int.toNat_natCast, UInt8.ofNat_toNat]
theorem bytes_are : ∀ b : Bytes, NeutralIO.bytes (intsB b) = true
  | [] => rfl
  | c :: r => by
    show ((decide (0 ≤ (c.toNat : Int)) && decide ((c.toNat : Int) ≤ 255)) && NeutralIO.bytes (intsB r)) = true
    rw [bytes_are r, Bool.and_true, Bool.and_eq_true, decide_eq_true_eq, decide_eq_true_eq]
    have := c.toNat_lt
    omega
theorem bytesOf_len (x : List Int) : (VasedaNeutral.bytesOf x).length = x.length := by simp [VasedaNeutral.bytesOf]
/-- the three forms of a call -/
theorem call_one {shape : Int → Option (Nat × Nat)} {p : Int} {r t : List Int} {c : List (List Int)} (hs : shape p = some (0, 1)) (h : PyFlat.call shape (p :: r) = some (c, t)) : ∃ x, c = [[p], x] ∧ r = (x.length : Int) :: (x ++ t) := by
  have h : (match shape p with | none => none | some (n, k) => if r.length < n then none else match PyFlat.rows k (r.drop n) with | none => none | some (xs, t) => some ((p :: r.take n) :: xs, t)) = some (c, t) := h
  rw [hs] at h
  have h' : (match PyFlat.row r with | none => none | some (x, s) => some ([p] :: [x], s)) = some (c, t) := by
    have e : (if r.length < 0 then none else match PyFlat.rows 1 (r.drop 0) with | none => none | some (xs, t) => some ((p :: r.take 0) :: xs, t)) = some (c, t) := h
    rw [if_neg (Nat.not_lt_zero _), List.drop_zero] at e
    have er : PyFlat.rows 1 r = match PyFlat.row r with | none => none | some (x, s) => some ([x], s) := rfl
    rw [er] at e
    cases q : PyFlat.row r with
    | none => rw [q] at e; cases e
    | some z =>
      rw [q] at e
      exact e
  cases q : PyFlat.row r with
  | none => rw [q] at h'; cases h'
  | some z =>
    obtain ⟨x, s⟩ := z
    rw [q] at h'
    cases h'
    exact ⟨x, rfl, row_inv q⟩
theorem call_zero {shape : Int → Option (Nat × Nat)} {p : Int} {r t : List Int} {c : List (List Int)} (hs : shape p = some (0, 0)) (h : PyFlat.call shape (p :: r) = some (c, t)) : c = [[p]] ∧ r = t := by
  have h : (match shape p with | none => none | some (n, k) => if r.length < n then none else match PyFlat.rows k (r.drop n) with | none => none | some (xs, t) => some ((p :: r.take n) :: xs, t)) = some (c, t) := h
  rw [hs] at h
  have e : (if r.length < 0 then none else some ((p :: r.take 0) :: [], r.drop 0)) = some (c, t) := h
  rw [if_neg (Nat.not_lt_zero _), List.drop_zero] at e
  cases e
  exact ⟨rfl, rfl⟩
theorem call_num {shape : Int → Option (Nat × Nat)} {p : Int} {r t : List Int} {c : List (List Int)} (hs : shape p = some (1, 1)) (h : PyFlat.call shape (p :: r) = some (c, t)) : ∃ n x, c = [[p, n], x] ∧ r = n :: (x.length : Int) :: (x ++ t) := by
  have h : (match shape p with | none => none | some (n, k) => if r.length < n then none else match PyFlat.rows k (r.drop n) with | none => none | some (xs, t) => some ((p :: r.take n) :: xs, t)) = some (c, t) := h
  rw [hs] at h
  cases r with
  | nil => cases h
  | cons n r =>
    have e : (if (n :: r).length < 1 then none else match PyFlat.rows 1 r with | none => none | some (xs, t) => some ((p :: [n]) :: xs, t)) = some (c, t) := h
    rw [if_neg (by rw [List.length_cons]; omega)] at e
    have er : PyFlat.rows 1 r = match PyFlat.row r with | none => none | some (x, s) => some ([x], s) := rfl
    rw [er] at e
    cases q : PyFlat.row r with
    | none => rw [q] at e; cases e
    | some z =>
      obtain ⟨x, s⟩ := z
      rw [q] at e
      cases e
      exact ⟨n, x, rfl, by rw [row_inv q]⟩
theorem shape_some {p : Int} {z : Nat × Nat} (h : PyVaseda.shape p = some z) : p = 0 ∨ p = 1 ∨ p = 2 ∨ p = 3 ∨ p = 4 ∨ p = 5 ∨ p = 6 ∨ p = 7 ∨ p = 8 := by
  by_cases h0 : p = 0
  · exact .inl h0
  by_cases h1 : p = 1
  · exact .inr (.inl h1)
  by_cases h2 : p = 2
  · exact .inr (.inr (.inl h2))
  by_cases h3 : p = 3
  · exact .inr (.inr (.inr (.inl h3)))
  by_cases h4 : p = 4
  · exact .inr (.inr (.inr (.inr (.inl h4))))
  by_cases h5 : p = 5
  · exact .inr (.inr (.inr (.inr (.inr (.inl h5)))))
  by_cases h6 : p = 6
  · exact .inr (.inr (.inr (.inr (.inr (.inr (.inl h6))))))
  by_cases h7 : p = 7
  · exact .inr (.inr (.inr (.inr (.inr (.inr (.inr (.inl h7)))))))
  by_cases h8 : p = 8
  · exact .inr (.inr (.inr (.inr (.inr (.inr (.inr (.inr h8)))))))
  unfold PyVaseda.shape at h
  rw [if_neg h0, if_neg h1, if_neg h2, if_neg h3, if_neg h4, if_neg h5, if_neg h6, if_neg h7, if_neg h8] at h
  cases h
/-- a call of bytes alone -/
theorem plain_inv {p : Int} {r t : List Int} {c : List (List Int)} (hs : PyVaseda.shape p = some (0, 1)) (hp : 0 ≤ p ∧ p ≤ 8 ∧ p ≠ 1 ∧ p ≠ 4 ∧ p ≠ 7) (h : PyFlat.call PyVaseda.shape (p :: r) = some (c, t)) (ha : ∀ x, c = [[p], x] → ((x.all fun (z : Int) => VasedaNeutral.natural z 8) && decide (x.length ≤ 8192)) = true) :
    ∃ q, AskOk q ∧ c = rowQ q ∧ p :: r = flatQ q ++ t := by
  obtain ⟨x, ec, er⟩ := call_one hs h
  have hx := ha x ec
  rw [Bool.and_eq_true, decide_eq_true_eq] at hx
  obtain ⟨h0, h8, h1, h4, h7⟩ := hp
  have n47 : ¬ (p = 4 ∨ p = 7) := fun z => z.elim h4 h7
  refine ⟨⟨p, 0, VasedaNeutral.bytesOf x⟩, ⟨h0, h8, by show (VasedaNeutral.bytesOf x).length ≤ 8192; rw [bytesOf_len]; exact hx.2, fun z => absurd z h1, fun _ => rfl⟩, ?_, ?_⟩
  · unfold rowQ
    rw [if_neg h1, if_neg n47, ec]
    show _ = [[p], intsB (VasedaNeutral.bytesOf x)]
    rw [bytes_inv x hx.1]
  · unfold flatQ
    rw [if_neg h1, if_neg n47, er]
    show _ = (p :: ([] ++ (((VasedaNeutral.bytesOf x).length : Int) :: intsB (VasedaNeutral.bytesOf x)))) ++ t
    rw [bytes_inv x hx.1, bytesOf_len]
    simp
theorem num_inv {p : Int} {r t : List Int} {c : List (List Int)} (hs : PyVaseda.shape p = some (1, 1)) (hp : p = 4 ∨ p = 7) (h : PyFlat.call PyVaseda.shape (p :: r) = some (c, t)) (ha : ∀ n x, c = [[p, n], x] → (VasedaNeutral.whole60 n && ((x.all fun (z : Int) => VasedaNeutral.natural z 8) && decide (x.length ≤ 8192))) = true) :
    ∃ q, AskOk q ∧ c = rowQ q ∧ p :: r = flatQ q ++ t := by
  obtain ⟨n, x, ec, er⟩ := call_num hs h
  have hx := ha n x ec
  rw [Bool.and_eq_true, Bool.and_eq_true, decide_eq_true_eq] at hx
  have h1 : p ≠ 1 := by omega
  refine ⟨⟨p, n, VasedaNeutral.bytesOf x⟩, ⟨by show 0 ≤ p; omega, by show p ≤ 8; omega, by show (VasedaNeutral.bytesOf x).length ≤ 8192; rw [bytesOf_len]; exact hx.2.2, fun z => absurd z h1, fun z => absurd hp z⟩, ?_, ?_⟩
  · unfold rowQ
    rw [if_neg h1, if_pos hp, ec]
    show _ = [[p, n], intsB (VasedaNeutral.bytesOf x)]
    rw [bytes_inv x hx.2.1]
  · unfold flatQ
    rw [if_neg h1, if_pos hp, er]
    show _ = (p :: ([n] ++ (((VasedaNeutral.bytesOf x).length : Int) :: intsB (VasedaNeutral.bytesOf x)))) ++ t
    rw [bytes_inv x hx.2.1, bytesOf_len]
    simp
theorem call_inv {p : Int} {r t : List Int} {c : List (List Int)} (h : PyFlat.call PyVaseda.shape (p :: r) = some (c, t)) (ha : VasedaNeutral.asked1 (PyVaseda.whole c) = true) : ∃ q, AskOk q ∧ c = rowQ q ∧ p :: r = flatQ q ++ t := by
  have hsh : ∃ z, PyVaseda.shape p = some z := by
    cases e : PyVaseda.shape p with
    | none =>
      have h : (match PyVaseda.shape p with | none => none | some (n, k) => if r.length < n then none else match PyFlat.rows k (r.drop n) with | none => none | some (xs, t) => some ((p :: r.take n) :: xs, t)) = some (c, t) := h
      rw [e] at h
      cases h
    | some z => exact ⟨z, rfl⟩
  obtain ⟨z, hz⟩ := hsh
  rcases shape_some hz with rfl | rfl | rfl | rfl | rfl | rfl | rfl | rfl | rfl
  · exact plain_inv rfl (by decide) h fun x e => by rw [e] at ha; exact ha
  · obtain ⟨e1, e2⟩ := call_zero (p := 1) rfl h
    refine ⟨⟨1, 0, []⟩, ⟨by decide, by decide, Nat.zero_le _, fun _ => rfl, fun _ => rfl⟩, ?_, ?_⟩
    · rw [e1] <;> rfl
    · rw [e2] <;> rfl
  · exact plain_inv rfl (by decide) h fun x e => by rw [e] at ha; exact ha
  · exact plain_inv rfl (by decide) h fun x e => by rw [e] at ha; exact ha
  · exact num_inv rfl (.inl rfl) h fun n x e => by rw [e] at ha; exact ha
  · exact plain_inv rfl (by decide) h fun x e => by rw [e] at ha; exact ha
  · exact plain_inv rfl (by decide) h fun x e => by rw [e] at ha; exact ha
  · exact num_inv rfl (.inr rfl) h fun n x e => by rw [e] at ha; exact ha
  · exact plain_inv rfl (by decide) h fun x e => by rw [e] at ha; exact ha
theorem calls_inv : ∀ (f : Nat) (l : List Int) (raw : List (List (List Int))), PyFlat.calls PyVaseda.shape f l = some raw → (∀ c ∈ raw, VasedaNeutral.asked1 (PyVaseda.whole c) = true) → ∃ qs : List Ask, l = qs.flatMap flatQ ∧ raw = qs.map rowQ ∧ ∀ q ∈ qs, AskOk q
  | _, [], raw, h, _ => by
    unfold PyFlat.calls at h
    cases h
    exact ⟨[], rfl, rfl, fun q m => absurd m (by simp)⟩
  | 0, p :: r, raw, h, _ => by cases h
  | f + 1, p :: r, raw, h, ha => by
    have e : (match PyFlat.call PyVaseda.shape (p :: r) with | none => none | some (c, t) => match PyFlat.calls PyVaseda.shape f t with | none => none | some cs => some (c :: cs)) = some raw := h
    cases q : PyFlat.call PyVaseda.shape (p :: r) with
    | none => rw [q] at e; cases e
    | some z =>
      obtain ⟨c, t⟩ := z
      rw [q] at e
      have e : (match PyFlat.calls PyVaseda.shape f t with | none => none | some cs => some (c :: cs)) = some raw := e
      cases q2 : PyFlat.calls PyVaseda.shape f t with
      | none => rw [q2] at e; cases e
      | some cs =>
        rw [q2] at e
        cases e
        obtain ⟨q0, o0, e0, f0⟩ := call_inv q (ha c (List.mem_cons_self ..))
        obtain ⟨qs, e1, e2, e3⟩ := calls_inv f t cs q2 fun c2 m => ha c2 (List.mem_cons_of_mem _ m)
        refine ⟨q0 :: qs, ?_, ?_, fun q m => ?_⟩
        · rw [List.flatMap_cons, ← e1]
          exact f0
        · rw [List.map_cons, e0, e2]
        · rcases List.mem_cons.mp m with rfl | m
          · exact o0
          · exact e3 q m
theorem whole_row {q : Ask} (h : AskOk q) : PyVaseda.whole (rowQ q) = rowQ q := by
  obtain ⟨w, n, b⟩ := q
  obtain ⟨h0, h8, _, _, _⟩ := h
  have hw : w = 0 ∨ w = 1 ∨ w = 2 ∨ w = 3 ∨ w = 4 ∨ w = 5 ∨ w = 6 ∨ w = 7 ∨ w = 8 := by
    have h0' : 0 ≤ w := h0
    have h8' : w ≤ 8 := h8
    omega
  rcases hw with rfl | rfl | rfl | rfl | rfl | rfl | rfl | rfl | rfl <;> rfl
def qCall (q : Ask) : Vaseda.Call := callOf q.w q.n q.b
theorem row_call {q : Ask} (h : AskOk q) : VasedaNeutral.callOf (rowQ q) = some (qCall q) := by
  obtain ⟨w, n, b⟩ := q
  obtain ⟨h0, h8, _, _, _⟩ := h
  have hw : w = 0 ∨ w = 1 ∨ w = 2 ∨ w = 3 ∨ w = 4 ∨ w = 5 ∨ w = 6 ∨ w = 7 ∨ w = 8 := by
    have h0' : 0 ≤ w := h0
    have h8' : w ≤ 8 := h8
    omega
  have hb := bytes_are b
  have hk := bytes_back b
  rcases hw with rfl | rfl | rfl | rfl | rfl | rfl | rfl | rfl | rfl
  · show (if NeutralIO.bytes (intsB b) = true then some (Vaseda.Call.load (VasedaNeutral.bytesOf (intsB b))) else none) = _
    rw [if_pos hb, hk] <;> rfl
  · rfl
  · show (if NeutralIO.bytes (intsB b) = true then some (Vaseda.Call.run (VasedaNeutral.bytesOf (intsB b))) else none) = _
    rw [if_pos hb, hk] <;> rfl
  · show (if NeutralIO.bytes (intsB b) = true then some (Vaseda.Call.origins (VasedaNeutral.bytesOf (intsB b))) else none) = _
    rw [if_pos hb, hk] <;> rfl
  · show (if NeutralIO.bytes (intsB b) = true then some (Vaseda.Call.trace n (VasedaNeutral.bytesOf (intsB b))) else none) = _
    rw [if_pos hb, hk] <;> rfl
  · show (if NeutralIO.bytes (intsB b) = true then some (Vaseda.Call.held (VasedaNeutral.bytesOf (intsB b))) else none) = _
    rw [if_pos hb, hk] <;> rfl
  · show (if NeutralIO.bytes (intsB b) = true then some (Vaseda.Call.touched (VasedaNeutral.bytesOf (intsB b))) else none) = _
    rw [if_pos hb, hk] <;> rfl
  · show (if NeutralIO.bytes (intsB b) = true then some (Vaseda.Call.again n (VasedaNeutral.bytesOf (intsB b))) else none) = _
    rw [if_pos hb, hk] <;> rfl
  · show (if NeutralIO.bytes (intsB b) = true then some (Vaseda.Call.rest (VasedaNeutral.bytesOf (intsB b))) else none) = _
    rw [if_pos hb, hk] <;> rfl
/-! ### played -/
def stepQ (o : Vaseda.Obj) (q : Ask) : Vaseda.Obj := (Vaseda.step o (qCall q)).1
def ansQ (o : Vaseda.Obj) (q : Ask) : List Int := VasedaNeutral.encode (Vaseda.step o (qCall q)).2
def objQ (qs : List Ask) : Vaseda.Obj := qs.foldl stepQ none
def playQ : Vaseda.Obj → List Ask → List (List Int)
  | _, [] => []
  | o, q :: r => ansQ o q :: playQ (stepQ o q) r
theorem playQ_snoc : ∀ (qs : List Ask) (o : Vaseda.Obj) (q : Ask), playQ o (qs ++ [q]) = playQ o qs ++ [ansQ (qs.foldl stepQ o) q]
  | [], _, _ => rfl
  | p :: r, o, q => by
    show ansQ o p :: playQ (stepQ o p) (r ++ [q]) = ansQ o p :: (playQ (stepQ o p) r ++ [_])
    rw [playQ_snoc r] <;> rfl
theorem played_eq : ∀ (qs : List Ask) (o : Vaseda.Obj), (∀ q ∈ qs, AskOk q) → PyFlat.played VasedaNeutral.step o (qs.map rowQ) = playQ o qs
  | [], _, _ => rfl
  | q :: r, o, h => by
    have e : VasedaNeutral.step o (rowQ q) = (stepQ o q, ansQ o q) := by
      unfold VasedaNeutral.step
      rw [row_call (h q (List.mem_cons_self ..))] <;> rfl
    show (VasedaNeutral.step o (rowQ q)).2 :: PyFlat.played VasedaNeutral.step (VasedaNeutral.step o (rowQ q)).1 (r.map rowQ) = _
    rw [e, played_eq r _ fun q2 m => h q2 (List.mem_cons_of_mem _ m)] <;> rfl
theorem told_snoc (l : List (List Int)) (x : List Int) : PyFlat.told (l ++ [x]) = PyFlat.told l ++ ((x.length : Int) :: x) := by
  unfold PyFlat.told
  rw [List.flatMap_append]
  simp
theorem told_app (l m : List (List Int)) : PyFlat.told (l ++ m) = PyFlat.told l ++ PyFlat.told m := by
  unfold PyFlat.told
  rw [List.flatMap_append]
theorem playQ_take : ∀ (qs : List Ask) (o : Vaseda.Obj) (i : Nat), ∃ m, playQ o qs = playQ o (qs.take i) ++ m
  | [], _, i => ⟨[], by rw [List.take_nil] <;> rfl⟩
  | q :: r, o, 0 => ⟨playQ o (q :: r), rfl⟩
  | q :: r, o, i + 1 => by
    obtain ⟨m, e⟩ := playQ_take r (stepQ o q) i
    refine ⟨m, ?_⟩
    show ansQ o q :: playQ (stepQ o q) r = ansQ o q :: (playQ (stepQ o q) (r.take i) ++ m)
    rw [e]
theorem told_take (qs : List Ask) (i : Nat) : (PyFlat.told (playQ none (qs.take i))).length ≤ (PyFlat.told (playQ none qs)).length := by
  obtain ⟨m, e⟩ := playQ_take qs none i
  rw [e, told_app, List.length_append]
  omega
theorem asked_inv {l : List Int} (h : PyVaseda.answers_asked l = true) : ∃ qs : List Ask, l = qs.flatMap flatQ ∧ (∀ q ∈ qs, AskOk q) ∧ PyVaseda.answers l = PyFlat.told (playQ none qs) ∧ (PyFlat.told (playQ none qs)).length ≤ 10000000 := by
  unfold PyVaseda.answers_asked at h
  cases e : PyFlat.calls PyVaseda.shape l.length l with
  | none => rw [e] at h; cases h
  | some raw =>
    rw [e] at h
    have h : (!raw.isEmpty && PyFlat.atMost 40 raw && PyInside.calls PyVaseda.bound raw && VasedaNeutral.asked (raw.map PyVaseda.whole) && PyFlat.short 10000000 (PyVaseda.answers l)) = true := h
    rw [Bool.and_eq_true, Bool.and_eq_true] at h
    obtain ⟨⟨_, h2⟩, h3⟩ := h
    unfold VasedaNeutral.asked at h2
    rw [Bool.and_eq_true, List.all_eq_true] at h2
    obtain ⟨qs, e1, e2, e3⟩ := calls_inv l.length l raw e fun c m => h2.1 _ (List.mem_map_of_mem m)
    have ew : raw.map PyVaseda.whole = qs.map rowQ := by
      rw [e2, List.map_map]
      apply List.map_congr_left
      intro q m
      exact whole_row (e3 q m)
    have ea : PyVaseda.answers l = PyFlat.told (playQ none qs) := by
      unfold PyVaseda.answers PyVaseda.calls
      rw [e]
      show PyFlat.told (PyFlat.played VasedaNeutral.step VasedaNeutral.start (raw.map PyVaseda.whole)) = _
      rw [ew]
      exact congrArg PyFlat.told (played_eq qs none e3)
    refine ⟨qs, e1, e3, ea, ?_⟩
    unfold PyFlat.short at h3
    rw [decide_eq_true_eq, ea] at h3
    exact h3
end Lsd
/-! answers -/
namespace Lsd
open PySem PySem.Spec PyProof.Rows L2
open VasedBase hiding Tok
abbrev sAnswers : Stmt := top 73
theorem scAnswers : FnScope ["calls", "desk", "found", "at", "which", "number", "octets", "told"] ["calls"] (defScope sAnswers) := ⟨rfl, rfl, rfl, by decide +kernel, rfl, by decide +kernel, by decide +kernel⟩
def headQ (q : Ask) : List Int := q.w :: (if q.w = 4 ∨ q.w = 7 then [q.n] else [])
def posQ (qs : List Ask) (i : Nat) : Nat := ((qs.take i).flatMap flatQ).length
theorem flatQ_head (q : Ask) : flatQ q = headQ q ++ (if q.w = 1 then [] else (q.b.length : Int) :: intsB q.b) := by unfold flatQ headQ; rw [List.cons_append]
theorem intsB_ofB (b : Bytes) : intsV (intsB b) = ofB b := by simp [intsV, intsB, ofB]
theorem flat_split {qs : List Ask} {i : Nat} {q : Ask} (h : qs[i]? = some q) : qs.flatMap flatQ = (qs.take i).flatMap flatQ ++ (flatQ q ++ (qs.drop (i + 1)).flatMap flatQ) := by
  obtain ⟨hi, e⟩ := List.getElem?_eq_some_iff.mp h
  have ed : qs.drop i = q :: qs.drop (i + 1) := by rw [← e, List.drop_eq_getElem_cons hi]
  have e2 : qs.flatMap flatQ = (qs.take i ++ qs.drop i).flatMap flatQ := by rw [List.take_append_drop]
  rw [e2, List.flatMap_append, ed, List.flatMap_cons]
theorem posQ_succ {qs : List Ask} {i : Nat} {q : Ask} (h : qs[i]? = some q) : posQ qs (i + 1) = posQ qs i + (flatQ q).length := by
  unfold posQ
  rw [flat_take flatQ h, List.length_append]
theorem at_pre {l pre rest : List Int} {j : Nat} {x : Int} (e : l = pre ++ rest) (h : rest[j]? = some x) : (intsV l)[pre.length + j]? = some (V.int x) := by
  subst e
  unfold intsV
  rw [List.getElem?_map, List.getElem?_append_right (by omega), Nat.add_sub_cancel_left, h] <;> rfl
theorem cut_pre {l pre mid post : List Int} {x y : Int} (e : l = pre ++ (mid ++ post)) (hx : x = ((pre.length : Nat) : Int)) (hy : y = ((pre.length + mid.length : Nat) : Int)) : cutV (intsV l) (some x) (some y) = intsV mid := by
  subst e
  subst hx
  subst hy
  unfold cutV
  rw [HT.sIx_nat, HT.sIx_nat, intsV_len, Nat.min_eq_left (by rw [List.length_append, List.length_append]; omega), Nat.min_eq_left (by rw [List.length_append]; omega), Nat.add_sub_cancel_left]
  unfold intsV
  rw [← List.map_drop, ← List.map_take, List.drop_left, List.take_left]
theorem num_in (w : Int) : inV (.int w) [.int 4, .int 7] = decide (w = 4 ∨ w = 7) := by
  unfold inV
  rw [Bool.eq_iff_iff]
  simp only [List.any_cons, List.any_nil, eqV, Bool.or_eq_true, beq_iff_eq, decide_eq_true_eq]
  constructor
  · rintro (h | h | h)
    · exact .inl (by omega)
    · exact .inr (by omega)
    · cases h
  · rintro (h | h)
    · exact .inl (by omega)
    · exact .inr (.inl (by omega))
def spAns (K : PySem.W.Frag) : Sp := fun vs H Q _ => ∃ a l, vs = [.ref a] ∧ SqL K H a (intsV l) ∧ PyVaseda.answers_asked l = true ∧ ∀ H' p, H' p = some (.lst (intsV (PyVaseda.answers l))) → Q (.ref p) H'
def toldUp (qs : List Ask) (i : Nat) : List Int := PyFlat.told (playQ none (qs.take i))
theorem toldUp_succ {qs : List Ask} {i : Nat} {q : Ask} (h : qs[i]? = some q) : toldUp qs (i + 1) = toldUp qs i ++ (((ansQ (objQ (qs.take i)) q).length : Int) :: ansQ (objQ (qs.take i)) q) := by
  unfold toldUp
  rw [take_snoc h, playQ_snoc, told_snoc] <;> rfl
theorem objQ_succ {qs : List Ask} {i : Nat} {q : Ask} (h : qs[i]? = some q) : objQ (qs.take (i + 1)) = stepQ (objQ (qs.take i)) q := by
  unfold objQ
  rw [take_snoc h, List.foldl_append] <;> rfl
/-- d's field is not p -/
def NotF (CD : PySem.Addr) (H : Hp) (d p : PySem.Addr) : Prop := ∀ dd v, H d = some (.ins CD dd (dkF v)) → v ≠ .ref p
theorem DeskAt.keepF {K : PySem.W.Frag} {CD : PySem.Addr} {H H' : Hp} {d p : PySem.Addr} {o : Vaseda.Obj} (h : DeskAt K CD H d o) (k : Keep [p] H H') (kt : KeepT H H') (n : d ≠ p) (nf : NotF CD H d p) : DeskAt K CD H' d o := by
  cases o with
  | none => obtain ⟨dd, h1⟩ := h; exact ⟨dd, k _ _ h1 (by simpa using n)⟩
  | some sc =>
    obtain ⟨dd, a, h1, h2⟩ := h
    have na : a ≠ p := fun z => nf _ _ h1 (by rw [z])
    exact ⟨dd, a, k _ _ h1 (by simpa using n), h2.keep k kt (by simpa using na)⟩
def AnsS (K : PySem.W.Frag) (CD a d pf : PySem.Addr) (qs : List Ask) (H0 : Hp) (i : Nat) (σ : L2.St) (H' : Hp) : Prop := i ≤ qs.length ∧ (∃ v4 v5 v6 v7, σ = [some (.ref a), some (.ref d), some (.ref pf), some (.int ((posQ qs i : Nat) : Int)), v4, v5, v6, v7]) ∧ Same H0 H' ∧ DeskAt K CD H' d (objQ (qs.take i)) ∧ H' pf = some (.lst (intsV (toldUp qs i))) ∧ NotF CD H' d pf
section
variable {P : Program} {w : World} {K : PySem.W.Frag} {mg : Str → Option Value} {base : Heap} {CD : PySem.Addr}
theorem ok_answers {f : PySem.Addr} {fd : FuncData} (F : Fun K "answers" "answers" sAnswers f fd) (T : DeskT K mg CD) (ml : mg "len" = none) (cS : GC mg "SHOWN" (.int 1)) (cN : GT K mg "WITH_NUMBER" [.int 4, .int 7]) (D0 : MkD P w K mg base CX0 1 CD ["self"] (spDeskInit K CD)) (D1 : MD P w K mg base CX0 10 CD "answer" ["self", "which", "number", "octets"] (spAnswer K CD)) :
    FnOk P w K mg base CX0 11 f fd ["calls"] (spAns K) := by
  obtain ⟨fI, fdI, FI, MI, bI⟩ := D0.ex
  refine F.ok scAnswers (fun vs H Q E h => ?_) (fun cdv A outer s H vs Q E hr h => ⟨_,
      pss_cons (ps_set (i := 1) scAnswers.nd rfl (Or.inl rfl) (L2.pe_make0 MI FI (hr.mono (by decide)) rfl T.gl bI .nil pass0))
      (pss_cons (ps_set (i := 2) scAnswers.nd rfl (Or.inl rfl) (pe_lst pa_nil))
      (pss_cons (ps_set (i := 3) scAnswers.nd rfl (Or.inl rfl) L2.pe_int)
      (pss_cons (ps_while PassesOwn.never (pt_cmpR op_lt (pv 3) (pe_callB call_len_seq (by rfl) ml boot_len (pa_cons (pv 0) pa_nil)) (nomark _))
        (pss_cons (ps_set (i := 4) scAnswers.nd rfl (Or.inl rfl) (pe_ix ix_list (pv 0) (pv 3) (fun _ _ => rfl)))
        (pss_cons (ps_aug (i := 3) scAnswers.nd rfl (Or.inl rfl) L2.pe_int ip_add)
        (pss_cons (ps_set (i := 5) scAnswers.nd rfl (Or.inl rfl) L2.pe_int)
        (C8.pss_cut (ps_if (pt_cmpR op_in_seq (pv 4) (pe_gt cN) (by rfl)) (pss_cons (ps_set (i := 5) scAnswers.nd rfl (Or.inl rfl) (pe_ix ix_list (pv 0) (pv 3) (fun _ _ => rfl))) (pss_one (ps_aug (i := 3) scAnswers.nd rfl (Or.inl rfl) L2.pe_int ip_add))) pss_nil)
        (pss_cons (ps_set (i := 6) scAnswers.nd rfl (Or.inl rfl) (pe_lst pa_nil))
        (C8.pss_cut (ps_if (pt_cmpR op_ne (pv 4) (pe_gc cS) (nomark _)) (pss_cons (ps_set (i := 6) scAnswers.nd rfl (Or.inl rfl) (pe_slice sl_list (pv 0) (po_some (pe_op op_add (pv 3) L2.pe_int)) (po_some (pe_op op_add (pe_op op_add (pv 3) L2.pe_int) (pe_ix ix_list (pv 0) (pv 3) (fun _ _ => rfl))))))
          (pss_one (ps_aug (i := 3) scAnswers.nd rfl (Or.inl rfl) (pe_op op_add L2.pe_int (pe_ix ix_list (pv 0) (pv 3) (fun _ _ => rfl))) ip_add))) pss_nil)
        (pss_cons (ps_set (i := 7) scAnswers.nd rfl (Or.inl rfl) (pe_m D1 T.cl hr pass0 (pv 1) (pa_cons (pv 4) (pa_cons (pv 5) (pa_cons (pv 6) pa_nil)))))
        (pss_cons (ps_expr (pe_bm PySem.F.plainAttrs_list PySem.F.slot_list_append PySem.F.type_list_append mt_append (pv 2) (pa_cons (pe_callB call_len_seq (by rfl) ml boot_len (pa_cons (pv 7) pa_nil)) pa_nil)))
        (pss_one (ps_expr (pe_bm PySem.F.plainAttrs_list PySem.F.slot_list_extend PySem.F.type_list_extend mt_extend (pv 2) (pa_cons (pv 7) pa_nil)))))))))))))
      (pss_one (ps_ret (pv 2)))))), ?_⟩)
  · obtain ⟨a, l, rfl, _⟩ := h
    rfl
  · obtain ⟨a, l, rfl, hS, hask, q⟩ := h
    obtain ⟨qs, el, hok, ea, hlen⟩ := asked_inv hask
    have hlp : posQ qs qs.length = l.length := by unfold posQ; rw [List.take_length, ← el]
    intro d dd hd hdd hne
    refine ⟨d, dd, rfl, upd_same, rfl, ?_⟩
    refine ⟨by show 0 ≤ sizeLine; decide, fun pf hpf => ?_⟩
    have s0 : Same H (upd (upd (upd (upd H dd (.own d)) d (.ins CD dd [])) d (.ins CD dd (dkF .non))) pf (.lst [])) := fun b o e => by
      have n1 := ne_of_none e hd
      have n2 := ne_of_none e hdd
      have n3 : b ≠ pf := fun z => by rw [← z, upd_ne n1, upd_ne n1, upd_ne n2, e] at hpf; cases hpf
      rw [upd_ne n3, upd_ne n1, upd_ne n1, upd_ne n2]
      exact e
    have npd : pf ≠ d := fun z => by rw [z, upd_same] at hpf; cases hpf
    have hd0 : DeskAt K CD (upd (upd (upd (upd H dd (.own d)) d (.ins CD dd [])) d (.ins CD dd (dkF .non))) pf (.lst [])) d (objQ (qs.take 0)) := ⟨dd, by rw [upd_ne (Ne.symm npd)]; exact upd_same⟩
    have hp0 : upd (upd (upd (upd H dd (.own d)) d (.ins CD dd [])) d (.ins CD dd (dkF .non))) pf (.lst []) pf = some (.lst (intsV (toldUp qs 0))) := upd_same
    have hn0 : NotF CD (upd (upd (upd (upd H dd (.own d)) d (.ins CD dd [])) d (.ins CD dd (dkF .non))) pf (.lst [])) d pf := fun d2 v e => by
      rw [upd_ne (Ne.symm npd), upd_same] at e
      cases e
      exact fun z => nomatch z
    have hpF : H pf = none := by
      cases e : H pf with
      | none => rfl
      | some o =>
        rw [upd_ne (ne_of_none e hd), upd_ne (ne_of_none e hd), upd_ne (ne_of_none e hdd), e] at hpf
        cases hpf
    generalize upd (upd (upd (upd H dd (.own d)) d (.ins CD dd [])) d (.ins CD dd (dkF .non))) pf (.lst []) = H0 at s0 hd0 hp0 hn0 ⊢
    refine ⟨loopW (AnsS K CD a d pf qs H) (fun i => qs.length - i), ⟨_, 0, ⟨Nat.zero_le _, ⟨none, none, none, none, rfl⟩, s0, hd0, hp0, hn0⟩, rfl⟩, ?_⟩
    rintro m σ H1 ⟨i, ⟨hi, ⟨v4, v5, v6, v7, rfl⟩, s1, hD, hF, hN⟩, rfl⟩
    have hS1 := s1.seq hS
    refine ⟨_, rfl, _, rfl, a, _, rfl, Or.inl hS1, _, _, rfl, rfl, _, rfl, ?_⟩
    rw [intsV_len]
    rcases Nat.lt_or_ge i qs.length with hlt | hge
    · obtain ⟨qq, hq⟩ : ∃ qq, qs[i]? = some qq := ⟨_, List.getElem?_eq_getElem hlt⟩
      have hqo := hok qq (List.mem_of_getElem? hq)
      have es := flat_split hq
      rw [← el] at es
      have ep := posQ_succ hq
      have ehd := flatQ_head qq
      have hpl : posQ qs i < l.length := by
        rw [es, List.length_append, List.length_append, ehd]
        show (List.flatMap flatQ (List.take i qs)).length < _
        simp [headQ]
        omega
      refine if_tr (decide_eq_true (by omega)) ?_
      refine ⟨nextW (AnsS K CD a d pf qs H) (fun i => qs.length - i) i, nextW_ok _ _ i, ?_⟩
      have hg0 : (intsV l)[posQ qs i]? = some (.int qq.w) := at_pre (j := 0) es rfl
      refine ⟨_, rfl, _, rfl, _, _, _, _, rfl, rfl, hS1, atI_nat hg0, ?_⟩
      refine ⟨_, rfl, _, _, rfl, rfl, ?_⟩
      refine ⟨fun σ' H' => H' = H1 ∧ ∃ v6 v7, σ' = [some (.ref a), some (.ref d), some (.ref pf), some (.int ((posQ qs i + (headQ qq).length : Nat) : Int)), some (.int qq.w), some (.int qq.n), v6, v7], ?_, ?_⟩
      · refine ⟨_, rfl, fun aB kB => ⟨aB, _, rfl, .inr kB.sq, rfl, by decide, _, rfl, ?_⟩⟩
        rw [num_in]
        by_cases hn : qq.w = 4 ∨ qq.w = 7
        · have hh : headQ qq = [qq.w, qq.n] := by unfold headQ; rw [if_pos hn]
          have es2 : l = (qs.take i).flatMap flatQ ++ (qq.w :: qq.n :: ((if qq.w = 1 then [] else (qq.b.length : Int) :: intsB qq.b) ++ (qs.drop (i + 1)).flatMap flatQ)) := by
            rw [es, ehd, hh] <;> rfl
          have hg1 : (intsV l)[posQ qs i + 1]? = some (.int qq.n) := at_pre (j := 1) es2 rfl
          refine if_tr (decide_eq_true hn) ⟨_, rfl, _, rfl, _, _, _, _, rfl, rfl, hS1, by show atI _ ((posQ qs i + 1 : Nat) : Int) = _; exact atI_nat hg1, ?_⟩
          refine ⟨_, rfl, _, _, rfl, rfl, rfl, v6, v7, ?_⟩
          rw [hh]
          rfl
        · have hh : headQ qq = [qq.w] := by unfold headQ; rw [if_neg hn]
          refine if_fl (decide_eq_false hn) ⟨rfl, v6, v7, ?_⟩
          rw [hh, hqo.num hn]
          rfl
      · rintro σ' H2 ⟨rfl, v6, v7, rfl⟩
        refine ⟨by show 0 ≤ sizeLine; decide, fun oc hoc => ?_⟩
        refine ⟨fun σ' H' => ∃ oc, σ' = [some (.ref a), some (.ref d), some (.ref pf), some (.int ((posQ qs (i + 1) : Nat) : Int)), some (.int qq.w), some (.int qq.n), some (.ref oc), v7] ∧ Same H2 H' ∧ SqL K H' oc (ofB qq.b), ?_, ?_⟩
        · refine ⟨_, rfl, rfl, _, rfl, ?_⟩
          have s2 := Same.upd (o := .lst []) hoc
          by_cases h1 : qq.w = 1
          · have hb : qq.b = [] := hqo.one h1
            refine if_fl (by simp [h1]) ⟨oc, ?_, s2, SqL.of (upd_same.trans (by rw [hb] <;> rfl))⟩
            have e2 : posQ qs (i + 1) = posQ qs i + (headQ qq).length := by
              rw [ep, ehd, if_pos h1, List.append_nil]
            rw [e2]
            rfl
          · have es3 : l = ((qs.take i).flatMap flatQ ++ headQ qq) ++ ((qq.b.length : Int) :: (intsB qq.b ++ (qs.drop (i + 1)).flatMap flatQ)) := by
              rw [es, ehd, if_neg h1]
              simp
            have es4 : l = ((qs.take i).flatMap flatQ ++ headQ qq ++ [(qq.b.length : Int)]) ++ (intsB qq.b ++ (qs.drop (i + 1)).flatMap flatQ) := by
              rw [es3]
              simp
            have hlb : (intsB qq.b).length = qq.b.length := by unfold intsB; rw [List.length_map]
            have epre : ((qs.take i).flatMap flatQ ++ headQ qq).length = posQ qs i + (headQ qq).length := List.length_append
            have hg2 : (intsV l)[posQ qs i + (headQ qq).length]? = some (.int (qq.b.length : Int)) := by
              have := at_pre (j := 0) es3 rfl
              rw [epre] at this
              exact this
            have hcut := cut_pre es4 (x := ((posQ qs i + (headQ qq).length : Nat) : Int) + 1) (y := ((posQ qs i + (headQ qq).length : Nat) : Int) + 1 + (qq.b.length : Int)) (by rw [List.length_append, epre] <;> rfl) (by rw [List.length_append, epre, hlb] <;> rfl)
            have e2 : posQ qs (i + 1) = posQ qs i + (headQ qq).length + (1 + qq.b.length) := by
              rw [ep, ehd, if_neg h1, List.length_append, List.length_cons, hlb]
              omega
            have hS2 := s2.seq hS1
            refine if_tr (by simp [h1]) ?_
            refine ⟨_, rfl, _, rfl, _, _, rfl, rfl, _, rfl, _, rfl, _, _, rfl, rfl, _, rfl, _, rfl, _, _, _, _, rfl, rfl, hS2, atI_nat hg2, _, _, rfl, rfl, _, rfl, a, intsV l, rfl, hS2, fun oc2 hoc2 => ?_⟩
            rw [hcut]
            have s3 := Same.upd (o := .lst (intsV (intsB qq.b))) hoc2
            refine ⟨_, rfl, _, rfl, _, rfl, _, _, _, _, rfl, rfl, s3.seq hS2, atI_nat hg2, _, _, rfl, rfl, _, _, rfl, rfl, oc2, ?_, s2.trans s3, SqL.of (upd_same.trans (by rw [intsB_ofB] <;> rfl))⟩
            rw [e2]
            rfl
        · rintro σ' H3 ⟨oc, rfl, s3, hoc3⟩
          have hD3 := hD.same s3
          have hF3 := s3 _ _ hF
          obtain ⟨dd3, v0, hd3⟩ : ∃ dd v0, H3 d = some (.ins CD dd (dkF v0)) := by
            cases e : objQ (qs.take i) with
            | none => rw [e] at hD3; obtain ⟨dd, h1⟩ := hD3; exact ⟨dd, _, h1⟩
            | some s0 => rw [e] at hD3; obtain ⟨dd, a0, h1, _⟩ := hD3; exact ⟨dd, _, h1⟩
          refine ⟨_, rfl, d, dd3, _, rfl, hd3, dkF_no _ (by decide +kernel), _, rfl, _, rfl, _, rfl, d, oc, qq.w, qq.n, objQ (qs.take i), qq.b, rfl, hD3, hoc3, Nat.le_trans hqo.len (by decide), hqo.lo, hqo.hi, fun p H4 k4 hp4 hD4 hn4 hl4 => ?_⟩
          have hF4 := k4 _ _ hF3 (by simpa using npd)
          have npp : p ≠ pf := fun z => by rw [z, hF3] at hp4; cases hp4
          have npd4 : p ≠ d := fun z => by rw [z, hd3] at hp4; cases hp4
          have s4 : Same H H4 := Keep.outer hd (s1.trans s3) k4
          have eto := toldUp_succ hq
          have hle : (toldUp qs (i + 1)).length ≤ 10000000 := Nat.le_trans (told_take qs (i + 1)) hlen
          have hto : (toldUp qs (i + 1)).length = (toldUp qs i).length + ((ansQ (objQ (qs.take i)) qq).length + 1) := by
            rw [eto, List.length_append, List.length_cons]
          refine ⟨_, rfl, .inl ⟨rfl, _, SqL.of hF4⟩, _, rfl, p, _, rfl, Or.inl (SqL.of hl4), pf, _, _, rfl, rfl, hF4, by rw [intsV_len, sizeLine_eq]; omega, ?_⟩
          have hN4 : NotF CD H4 d pf := fun d2 v e => by
            rcases hn4 _ _ e with h3 | ⟨p2, rfl, hp2⟩
            · obtain ⟨d1, v1, e1⟩ := hD.has
              have e3 := s3 _ _ e1
              rw [h3] at e3
              cases e3
              exact hN _ _ e1
            · intro z
              cases z
              rw [hF3] at hp2
              cases hp2
          have kF : Keep [pf] H4 (upd (upd H4 pf (.lst (intsV (toldUp qs i) ++ [.int ((intsV (ansQ (objQ (qs.take i)) qq)).length : Nat)]))) pf (.lst ((intsV (toldUp qs i) ++ [.int ((intsV (ansQ (objQ (qs.take i)) qq)).length : Nat)]) ++ intsV (ansQ (objQ (qs.take i)) qq)))) := (keepp _ _).trans (keepp _ _)
          have ktF : KeepT H4 (upd (upd H4 pf (.lst (intsV (toldUp qs i) ++ [.int ((intsV (ansQ (objQ (qs.take i)) qq)).length : Nat)]))) pf (.lst ((intsV (toldUp qs i) ++ [.int ((intsV (ansQ (objQ (qs.take i)) qq)).length : Nat)]) ++ intsV (ansQ (objQ (qs.take i)) qq)))) := (KeepT.updl hF4).trans (KeepT.updl upd_same)
          refine ⟨_, rfl, .inl ⟨rfl, _, SqL.of upd_same⟩, _, rfl, pf, p, _, _, rfl, rfl, upd_same, (upd_ne npp).trans hl4, by rw [List.length_append, intsV_len]; show _ + 1 + (intsV (ansQ (objQ (qs.take i)) qq)).length ≤ _; rw [intsV_len, sizeLine_eq]; omega, ?_⟩
          refine ⟨i + 1, ⟨hlt, ⟨_, _, _, _, rfl⟩, Same.updD (Same.updD s4 hpF) hpF, ?_, ?_, ?_⟩, by show qs.length - (i + 1) < qs.length - i; omega⟩
          · rw [objQ_succ hq]
            exact hD4.keepF kF ktF (Ne.symm npd) hN4
          · rw [upd_same, eto, intsV_app, intsV_len, List.append_assoc] <;> rfl
          · intro d2 v e
            rw [upd_ne (Ne.symm npd), upd_ne (Ne.symm npd)] at e
            exact hN4 _ _ e
    · have ei : i = qs.length := Nat.le_antisymm hi hge
      subst ei
      rw [hlp]
      refine if_fl (decide_eq_false (by omega)) ⟨_, rfl, ?_⟩
      refine q H1 pf ?_
      rw [hF, ea]
      unfold toldUp
      rw [List.take_length] <;> rfl
end
end Lsd
/-! The end: what the top has written -/
namespace Lsd
open PySem PySem.Spec PyProof.Rows L2
open VasedBase hiding Tok
section
variable {K : PySem.W.Frag} {h : Heap} {mg : Str → Option Value}
theorem gf_mk {x : Str} {st : Stmt} {f : PySem.Addr} {oc kV dc pm cd ct : Value} {od an : Option PySem.Addr} {sl : Array (Option Value)} (X : K.In h) (G : h.Ns mainGlobals mg) (a : PySem.W.nsIn K mainGlobals x = some (some (.ref f)))
    (l : K.lookup f = some ⟨oc, od, .func (PySem.W.fnOf x x (defArgs st) (defBody st) (defScope st) .none kV dc pm an cd ct), sl⟩) (c : PySem.W.codeIn K cd x = true) (k : PySem.W.keepIn K (.ref f) = true) : GF K mg x st :=
  ⟨f, _, fun_mk (st := st) l c k, PySem.W.mg_of X G a⟩
theorem mf_mk {C f : PySem.Addr} {m q : Str} {st : Stmt} {oc kV dc pm cd ct : Value} {od an : Option PySem.Addr} {sl : Array (Option Value)} (a : PySem.W.findIn K (.ref C) m = some (some (.ref f))) (i : PySem.W.isFn K (.ref f) = true)
    (l : K.lookup f = some ⟨oc, od, .func (PySem.W.fnOf m q (defArgs st) (defBody st) (defScope st) .none kV dc pm an cd ct), sl⟩) (c : PySem.W.codeIn K cd q = true) (k : PySem.W.keepIn K (.ref f) = true) : MF K C m q st :=
  ⟨f, _, fun_mk (st := st) l c k, ⟨a, i, k⟩⟩
theorem if_mk {C f : PySem.Addr} {q : Str} {st : Stmt} {oc kV dc pm cd ct : Value} {od an : Option PySem.Addr} {sl : Array (Option Value)} (mk : PySem.W.makesIn K C = true) (a : PySem.W.findIn K (.ref C) "__init__" = some (some (.ref f))) (i : PySem.W.isFn K (.ref f) = true)
    (kc : PySem.W.keepIn K (.ref C) = true) (l : K.lookup f = some ⟨oc, od, .func (PySem.W.fnOf "__init__" q (defArgs st) (defBody st) (defScope st) .none kV dc pm an cd ct), sl⟩) (c : PySem.W.codeIn K cd q = true) (k : PySem.W.keepIn K (.ref f) = true) : InitF K C q st :=
  ⟨f, _, fun_mk (st := st) l c k, ⟨mk, a, i, kc⟩⟩
theorem gc_int {x : Str} {n : Int} {t : Nat} (X : K.In h) (G : h.Ns mainGlobals mg) (a : PySem.W.nsIn K mainGlobals x = some (some (.int n t))) : GC mg x (.int n) := ⟨_, PySem.W.mg_of X G a, t, rfl⟩
theorem gc_str {x s : Str} {t : Nat} (X : K.In h) (G : h.Ns mainGlobals mg) (a : PySem.W.nsIn K mainGlobals x = some (some (.str s t))) : GC mg x (.str s) := ⟨_, PySem.W.mg_of X G a, t, rfl⟩
theorem gt_mk {x : Str} {xs : List V} {a : PySem.Addr} {d : Option PySem.Addr} {its : Array Value} {n : Nat} {sl : Array (Option Value)} (X : K.In h) (G : h.Ns mainGlobals mg) (e : PySem.W.nsIn K mainGlobals x = some (some (.ref a)))
    (l : K.lookup a = some ⟨.type "tuple", d, .seq its n, sl⟩) (hv : Vals xs its.toList) (hs : its.size ≤ 1000) : GT K mg x xs :=
  ⟨a, PySem.W.mg_of X G e, _, its, n, l, rfl, rfl, Nat.le_trans hs (by decide), hv⟩
theorem lit_own : ([.str "if", .str "all", .str "line", .str "from", .str "to", .str "last", .str "has", .str "is", .str "not", .str "delete", .str "before", .str "after", .str "change", .str "swap", .str "first", .str "keep", .str "bring", .str "trade", .str "skip", .str "stop", .str "none"] : List V) = strsOf RESERVED := by decide +kernel
theorem lit_alone : ([.str "delete", .str "keep", .str "bring", .str "trade", .str "stop"] : List V) = strsOf aloneW := by decide +kernel
theorem lit_letters : ([.str "before", .str "after", .str "change"] : List V) = strsOf lettersW := by decide +kernel
theorem lit_two : ([.str "swap", .str "first"] : List V) = strsOf twoW := by decide +kernel
/-- an error of the class at S is what «except S» names -/
theorem exm_own {S : PySem.Addr} (h1 : PySem.W.subIn K (.ref S) (.type "BaseException") = some true) (h2 : PySem.W.isClsIn K S = true) (h3 : PySem.W.typeIn K (.ref S) = some (.type "type")) (h4 : PySem.W.subIn K (.ref S) (.ref S) = some true) :
    PySem.W.exmOne K (.ref S) (.ref S) = some true := by
  have e1 : (PySem.W.subIn K (.ref S) (.type "BaseException") == some true) = true := by rw [h1] <;> rfl
  have e2 : ((PySem.W.clsIn K S).isSome && PySem.W.typeIn K (.ref S) == some (.type "type")) = true := by
    have h2' : (PySem.W.clsIn K S).isSome = true := h2
    rw [h2', h3] <;> rfl
  show (if (PySem.W.subIn K (.ref S) (.type "BaseException") == some true) = true then (if ((PySem.W.clsIn K S).isSome && PySem.W.typeIn K (.ref S) == some (.type "type")) = true then PySem.W.subIn K (.ref S) (.ref S) else none) else none) = some true
  rw [if_pos e1, if_pos e2]
  exact h4
theorem nob_mk (X : K.In h) (e : PySem.W.nsIn K PySem.cStatics PySem.sharingNotToldKey = some none) : NoB K := e
theorem cls_mk {C : PySem.Addr} (pg : PySem.W.plainGet K C Str.empty = true) (hd : PySem.W.hasDictIn K C = true) (po : PySem.W.plainOver K C = true) (sa : PySem.W.findIn K (.ref C) "__setattr__" = some (some (.builtin "object.__setattr__"))) : Cls K C := ⟨pg, hd, po, sa⟩
end
end Lsd
/-! The chain of all defs, printed by gen_z.py -/
namespace Lsd
open PySem PySem.Spec PyProof.Rows L2
open VasedBase hiding Tok
section
variable {P : Program} {w : World} {K : PySem.W.Frag} {h : Heap} {mg : Str → Option Value}
theorem reader_mk {CR : PySem.Addr} {f0 : PySem.Addr} {oc0 kV0 dc0 pm0 cd0 ct0 : Value} {od0 an0 : Option PySem.Addr} {sl0 : Array (Option Value)} {f1 : PySem.Addr} {oc1 kV1 dc1 pm1 cd1 ct1 : Value} {od1 an1 : Option PySem.Addr} {sl1 : Array (Option Value)} {f2 : PySem.Addr} {oc2 kV2 dc2 pm2 cd2 ct2 : Value} {od2 an2 : Option PySem.Addr} {sl2 : Array (Option Value)} {f3 : PySem.Addr} {oc3 kV3 dc3 pm3 cd3 ct3 : Value} {od3 an3 : Option PySem.Addr} {sl3 : Array (Option Value)} {f4 : PySem.Addr} {oc4 kV4 dc4 pm4 cd4 ct4 : Value} {od4 an4 : Option PySem.Addr} {sl4 : Array (Option Value)} {f5 : PySem.Addr} {oc5 kV5 dc5 pm5 cd5 ct5 : Value} {od5 an5 : Option PySem.Addr} {sl5 : Array (Option Value)} {f6 : PySem.Addr} {oc6 kV6 dc6 pm6 cd6 ct6 : Value} {od6 an6 : Option PySem.Addr} {sl6 : Array (Option Value)} {f7 : PySem.Addr} {oc7 kV7 dc7 pm7 cd7 ct7 : Value} {od7 an7 : Option PySem.Addr} {sl7 : Array (Option Value)} {f8 : PySem.Addr} {oc8 kV8 dc8 pm8 cd8 ct8 : Value} {od8 an8 : Option PySem.Addr} {sl8 : Array (Option Value)} (X : K.In h) (G : h.Ns mainGlobals mg)
    (aC : PySem.W.nsIn K mainGlobals "Reader" = some (some (.ref CR)))
    (pg : PySem.W.plainGet K CR Str.empty = true)
    (hd : PySem.W.hasDictIn K CR = true)
    (po : PySem.W.plainOver K CR = true)
    (sa : PySem.W.findIn K (.ref CR) "__setattr__" = some (some (.builtin "object.__setattr__")))
    (nT : PySem.W.findIn K (.ref CR) "tokens" = some none)
    (nH : PySem.W.findIn K (.ref CR) "here" = some none)
    (mk : PySem.W.makesIn K CR = true)
    (kc : PySem.W.keepIn K (.ref CR) = true)
    (a0 : PySem.W.findIn K (.ref CR) "__init__" = some (some (.ref f0)))
    (i0 : PySem.W.isFn K (.ref f0) = true)
    (l0 : K.lookup f0 = some ⟨oc0, od0, .func (PySem.W.fnOf "__init__" "Reader.__init__" (defArgs (sReader 0)) (defBody (sReader 0)) (defScope (sReader 0)) .none kV0 dc0 pm0 an0 cd0 ct0), sl0⟩)
    (c0 : PySem.W.codeIn K cd0 "Reader.__init__" = true)
    (k0 : PySem.W.keepIn K (.ref f0) = true)
    (a1 : PySem.W.findIn K (.ref CR) "ahead" = some (some (.ref f1)))
    (i1 : PySem.W.isFn K (.ref f1) = true)
    (l1 : K.lookup f1 = some ⟨oc1, od1, .func (PySem.W.fnOf "ahead" "Reader.ahead" (defArgs (sReader 1)) (defBody (sReader 1)) (defScope (sReader 1)) .none kV1 dc1 pm1 an1 cd1 ct1), sl1⟩)
    (c1 : PySem.W.codeIn K cd1 "Reader.ahead" = true)
    (k1 : PySem.W.keepIn K (.ref f1) = true)
    (a2 : PySem.W.findIn K (.ref CR) "take" = some (some (.ref f2)))
    (i2 : PySem.W.isFn K (.ref f2) = true)
    (l2 : K.lookup f2 = some ⟨oc2, od2, .func (PySem.W.fnOf "take" "Reader.take" (defArgs (sReader 3)) (defBody (sReader 3)) (defScope (sReader 3)) .none kV2 dc2 pm2 an2 cd2 ct2), sl2⟩)
    (c2 : PySem.W.codeIn K cd2 "Reader.take" = true)
    (k2 : PySem.W.keepIn K (.ref f2) = true)
    (a3 : PySem.W.findIn K (.ref CR) "is_word" = some (some (.ref f3)))
    (i3 : PySem.W.isFn K (.ref f3) = true)
    (l3 : K.lookup f3 = some ⟨oc3, od3, .func (PySem.W.fnOf "is_word" "Reader.is_word" (defArgs (sReader 2)) (defBody (sReader 2)) (defScope (sReader 2)) .none kV3 dc3 pm3 an3 cd3 ct3), sl3⟩)
    (c3 : PySem.W.codeIn K cd3 "Reader.is_word" = true)
    (k3 : PySem.W.keepIn K (.ref f3) = true)
    (a4 : PySem.W.findIn K (.ref CR) "take_one_of" = some (some (.ref f4)))
    (i4 : PySem.W.isFn K (.ref f4) = true)
    (l4 : K.lookup f4 = some ⟨oc4, od4, .func (PySem.W.fnOf "take_one_of" "Reader.take_one_of" (defArgs (sReader 4)) (defBody (sReader 4)) (defScope (sReader 4)) .none kV4 dc4 pm4 an4 cd4 ct4), sl4⟩)
    (c4 : PySem.W.codeIn K cd4 "Reader.take_one_of" = true)
    (k4 : PySem.W.keepIn K (.ref f4) = true)
    (a5 : PySem.W.findIn K (.ref CR) "take_end_of_command" = some (some (.ref f5)))
    (i5 : PySem.W.isFn K (.ref f5) = true)
    (l5 : K.lookup f5 = some ⟨oc5, od5, .func (PySem.W.fnOf "take_end_of_command" "Reader.take_end_of_command" (defArgs (sReader 5)) (defBody (sReader 5)) (defScope (sReader 5)) .none kV5 dc5 pm5 an5 cd5 ct5), sl5⟩)
    (c5 : PySem.W.codeIn K cd5 "Reader.take_end_of_command" = true)
    (k5 : PySem.W.keepIn K (.ref f5) = true)
    (a6 : PySem.W.findIn K (.ref CR) "take_number" = some (some (.ref f6)))
    (i6 : PySem.W.isFn K (.ref f6) = true)
    (l6 : K.lookup f6 = some ⟨oc6, od6, .func (PySem.W.fnOf "take_number" "Reader.take_number" (defArgs (sReader 8)) (defBody (sReader 8)) (defScope (sReader 8)) .none kV6 dc6 pm6 an6 cd6 ct6), sl6⟩)
    (c6 : PySem.W.codeIn K cd6 "Reader.take_number" = true)
    (k6 : PySem.W.keepIn K (.ref f6) = true)
    (a7 : PySem.W.findIn K (.ref CR) "take_letters" = some (some (.ref f7)))
    (i7 : PySem.W.isFn K (.ref f7) = true)
    (l7 : K.lookup f7 = some ⟨oc7, od7, .func (PySem.W.fnOf "take_letters" "Reader.take_letters" (defArgs (sReader 6)) (defBody (sReader 6)) (defScope (sReader 6)) .none kV7 dc7 pm7 an7 cd7 ct7), sl7⟩)
    (c7 : PySem.W.codeIn K cd7 "Reader.take_letters" = true)
    (k7 : PySem.W.keepIn K (.ref f7) = true)
    (a8 : PySem.W.findIn K (.ref CR) "take_letters_or_none" = some (some (.ref f8)))
    (i8 : PySem.W.isFn K (.ref f8) = true)
    (l8 : K.lookup f8 = some ⟨oc8, od8, .func (PySem.W.fnOf "take_letters_or_none" "Reader.take_letters_or_none" (defArgs (sReader 7)) (defBody (sReader 7)) (defScope (sReader 7)) .none kV8 dc8 pm8 an8 cd8 ct8), sl8⟩)
    (c8 : PySem.W.codeIn K cd8 "Reader.take_letters_or_none" = true)
    (k8 : PySem.W.keepIn K (.ref f8) = true) :
    ∃ CR : PySem.Addr, ReaderT K mg CR ∧ InitF K CR "Reader.__init__" (sReader 0) ∧ MF K CR "ahead" "Reader.ahead" (sReader 1) ∧ MF K CR "take" "Reader.take" (sReader 3) ∧ MF K CR "is_word" "Reader.is_word" (sReader 2) ∧ MF K CR "take_one_of" "Reader.take_one_of" (sReader 4) ∧ MF K CR "take_end_of_command" "Reader.take_end_of_command" (sReader 5) ∧ MF K CR "take_number" "Reader.take_number" (sReader 8) ∧ MF K CR "take_letters" "Reader.take_letters" (sReader 6) ∧ MF K CR "take_letters_or_none" "Reader.take_letters_or_none" (sReader 7) :=
  ⟨CR, ⟨⟨pg, hd, po, sa⟩, nT, nH, PySem.W.mg_of X G aC⟩, if_mk (st := sReader 0) mk a0 i0 kc l0 c0 k0, mf_mk (st := sReader 1) a1 i1 l1 c1 k1, mf_mk (st := sReader 3) a2 i2 l2 c2 k2, mf_mk (st := sReader 2) a3 i3 l3 c3 k3, mf_mk (st := sReader 4) a4 i4 l4 c4 k4, mf_mk (st := sReader 5) a5 i5 l5 c5 k5, mf_mk (st := sReader 8) a6 i6 l6 c6 k6, mf_mk (st := sReader 6) a7 i7 l7 c7 k7, mf_mk (st := sReader 7) a8 i8 l8 c8 k8⟩
theorem pass_mk {CP : PySem.Addr} {f0 : PySem.Addr} {oc0 kV0 dc0 pm0 cd0 ct0 : Value} {od0 an0 : Option PySem.Addr} {sl0 : Array (Option Value)} {f1 : PySem.Addr} {oc1 kV1 dc1 pm1 cd1 ct1 : Value} {od1 an1 : Option PySem.Addr} {sl1 : Array (Option Value)} {f2 : PySem.Addr} {oc2 kV2 dc2 pm2 cd2 ct2 : Value} {od2 an2 : Option PySem.Addr} {sl2 : Array (Option Value)} {f3 : PySem.Addr} {oc3 kV3 dc3 pm3 cd3 ct3 : Value} {od3 an3 : Option PySem.Addr} {sl3 : Array (Option Value)} {f4 : PySem.Addr} {oc4 kV4 dc4 pm4 cd4 ct4 : Value} {od4 an4 : Option PySem.Addr} {sl4 : Array (Option Value)} {f5 : PySem.Addr} {oc5 kV5 dc5 pm5 cd5 ct5 : Value} {od5 an5 : Option PySem.Addr} {sl5 : Array (Option Value)} {f6 : PySem.Addr} {oc6 kV6 dc6 pm6 cd6 ct6 : Value} {od6 an6 : Option PySem.Addr} {sl6 : Array (Option Value)} {f7 : PySem.Addr} {oc7 kV7 dc7 pm7 cd7 ct7 : Value} {od7 an7 : Option PySem.Addr} {sl7 : Array (Option Value)} (X : K.In h) (G : h.Ns mainGlobals mg)
    (aC : PySem.W.nsIn K mainGlobals "Passing" = some (some (.ref CP)))
    (pg : PySem.W.plainGet K CP Str.empty = true)
    (hd : PySem.W.hasDictIn K CP = true)
    (po : PySem.W.plainOver K CP = true)
    (sa : PySem.W.findIn K (.ref CP) "__setattr__" = some (some (.builtin "object.__setattr__")))
    (n_number : PySem.W.findIn K (.ref CP) "number" = some none)
    (n_is_last : PySem.W.findIn K (.ref CP) "is_last" = some none)
    (n_first : PySem.W.findIn K (.ref CP) "first" = some none)
    (n_line : PySem.W.findIn K (.ref CP) "line" = some none)
    (n_put_ahead : PySem.W.findIn K (.ref CP) "put_ahead" = some none)
    (n_put_behind : PySem.W.findIn K (.ref CP) "put_behind" = some none)
    (n_done : PySem.W.findIn K (.ref CP) "done" = some none)
    (n_is_deleted : PySem.W.findIn K (.ref CP) "is_deleted" = some none)
    (n_is_over : PySem.W.findIn K (.ref CP) "is_over" = some none)
    (n_left_out : PySem.W.findIn K (.ref CP) "left_out" = some none)
    (mk : PySem.W.makesIn K CP = true)
    (kc : PySem.W.keepIn K (.ref CP) = true)
    (a0 : PySem.W.findIn K (.ref CP) "__init__" = some (some (.ref f0)))
    (i0 : PySem.W.isFn K (.ref f0) = true)
    (l0 : K.lookup f0 = some ⟨oc0, od0, .func (PySem.W.fnOf "__init__" "Passing.__init__" (defArgs (sPass 0)) (defBody (sPass 0)) (defScope (sPass 0)) .none kV0 dc0 pm0 an0 cd0 ct0), sl0⟩)
    (c0 : PySem.W.codeIn K cd0 "Passing.__init__" = true)
    (k0 : PySem.W.keepIn K (.ref f0) = true)
    (a1 : PySem.W.findIn K (.ref CP) "holds_plainly" = some (some (.ref f1)))
    (i1 : PySem.W.isFn K (.ref f1) = true)
    (l1 : K.lookup f1 = some ⟨oc1, od1, .func (PySem.W.fnOf "holds_plainly" "Passing.holds_plainly" (defArgs (sPass 2)) (defBody (sPass 2)) (defScope (sPass 2)) .none kV1 dc1 pm1 an1 cd1 ct1), sl1⟩)
    (c1 : PySem.W.codeIn K cd1 "Passing.holds_plainly" = true)
    (k1 : PySem.W.keepIn K (.ref f1) = true)
    (a2 : PySem.W.findIn K (.ref CP) "holds" = some (some (.ref f2)))
    (i2 : PySem.W.isFn K (.ref f2) = true)
    (l2 : K.lookup f2 = some ⟨oc2, od2, .func (PySem.W.fnOf "holds" "Passing.holds" (defArgs (sPass 1)) (defBody (sPass 1)) (defScope (sPass 1)) .none kV2 dc2 pm2 an2 cd2 ct2), sl2⟩)
    (c2 : PySem.W.codeIn K cd2 "Passing.holds" = true)
    (k2 : PySem.W.keepIn K (.ref f2) = true)
    (a3 : PySem.W.findIn K (.ref CP) "becomes" = some (some (.ref f3)))
    (i3 : PySem.W.isFn K (.ref f3) = true)
    (l3 : K.lookup f3 = some ⟨oc3, od3, .func (PySem.W.fnOf "becomes" "Passing.becomes" (defArgs (sPass 3)) (defBody (sPass 3)) (defScope (sPass 3)) .none kV3 dc3 pm3 an3 cd3 ct3), sl3⟩)
    (c3 : PySem.W.codeIn K cd3 "Passing.becomes" = true)
    (k3 : PySem.W.keepIn K (.ref f3) = true)
    (a4 : PySem.W.findIn K (.ref CP) "end" = some (some (.ref f4)))
    (i4 : PySem.W.isFn K (.ref f4) = true)
    (l4 : K.lookup f4 = some ⟨oc4, od4, .func (PySem.W.fnOf "end" "Passing.end" (defArgs (sPass 5)) (defBody (sPass 5)) (defScope (sPass 5)) .none kV4 dc4 pm4 an4 cd4 ct4), sl4⟩)
    (c4 : PySem.W.codeIn K cd4 "Passing.end" = true)
    (k4 : PySem.W.keepIn K (.ref f4) = true)
    (a5 : PySem.W.findIn K (.ref CP) "lines" = some (some (.ref f5)))
    (i5 : PySem.W.isFn K (.ref f5) = true)
    (l5 : K.lookup f5 = some ⟨oc5, od5, .func (PySem.W.fnOf "lines" "Passing.lines" (defArgs (sPass 6)) (defBody (sPass 6)) (defScope (sPass 6)) .none kV5 dc5 pm5 an5 cd5 ct5), sl5⟩)
    (c5 : PySem.W.codeIn K cd5 "Passing.lines" = true)
    (k5 : PySem.W.keepIn K (.ref f5) = true)
    (a6 : PySem.W.findIn K (.ref CP) "fate" = some (some (.ref f6)))
    (i6 : PySem.W.isFn K (.ref f6) = true)
    (l6 : K.lookup f6 = some ⟨oc6, od6, .func (PySem.W.fnOf "fate" "Passing.fate" (defArgs (sPass 7)) (defBody (sPass 7)) (defScope (sPass 7)) .none kV6 dc6 pm6 an6 cd6 ct6), sl6⟩)
    (c6 : PySem.W.codeIn K cd6 "Passing.fate" = true)
    (k6 : PySem.W.keepIn K (.ref f6) = true)
    (a7 : PySem.W.findIn K (.ref CP) "change" = some (some (.ref f7)))
    (i7 : PySem.W.isFn K (.ref f7) = true)
    (l7 : K.lookup f7 = some ⟨oc7, od7, .func (PySem.W.fnOf "change" "Passing.change" (defArgs (sPass 4)) (defBody (sPass 4)) (defScope (sPass 4)) .none kV7 dc7 pm7 an7 cd7 ct7), sl7⟩)
    (c7 : PySem.W.codeIn K cd7 "Passing.change" = true)
    (k7 : PySem.W.keepIn K (.ref f7) = true) :
    ∃ CP : PySem.Addr, PassT K mg CP ∧ InitF K CP "Passing.__init__" (sPass 0) ∧ MF K CP "holds_plainly" "Passing.holds_plainly" (sPass 2) ∧ MF K CP "holds" "Passing.holds" (sPass 1) ∧ MF K CP "becomes" "Passing.becomes" (sPass 3) ∧ MF K CP "end" "Passing.end" (sPass 5) ∧ MF K CP "lines" "Passing.lines" (sPass 6) ∧ MF K CP "fate" "Passing.fate" (sPass 7) ∧ MF K CP "change" "Passing.change" (sPass 4) :=
  ⟨CP, ⟨⟨pg, hd, po, sa⟩, PySem.W.mg_of X G aC, n_number, n_is_last, n_first, n_line, n_put_ahead, n_put_behind, n_done, n_is_deleted, n_is_over, n_left_out⟩, if_mk (st := sPass 0) mk a0 i0 kc l0 c0 k0, mf_mk (st := sPass 2) a1 i1 l1 c1 k1, mf_mk (st := sPass 1) a2 i2 l2 c2 k2, mf_mk (st := sPass 3) a3 i3 l3 c3 k3, mf_mk (st := sPass 5) a4 i4 l4 c4 k4, mf_mk (st := sPass 6) a5 i5 l5 c5 k5, mf_mk (st := sPass 7) a6 i6 l6 c6 k6, mf_mk (st := sPass 4) a7 i7 l7 c7 k7⟩
theorem run_mk {CRn : PySem.Addr} {f0 : PySem.Addr} {oc0 kV0 dc0 pm0 cd0 ct0 : Value} {od0 an0 : Option PySem.Addr} {sl0 : Array (Option Value)} {f1 : PySem.Addr} {oc1 kV1 dc1 pm1 cd1 ct1 : Value} {od1 an1 : Option PySem.Addr} {sl1 : Array (Option Value)} {f2 : PySem.Addr} {oc2 kV2 dc2 pm2 cd2 ct2 : Value} {od2 an2 : Option PySem.Addr} {sl2 : Array (Option Value)} {f3 : PySem.Addr} {oc3 kV3 dc3 pm3 cd3 ct3 : Value} {od3 an3 : Option PySem.Addr} {sl3 : Array (Option Value)} {f4 : PySem.Addr} {oc4 kV4 dc4 pm4 cd4 ct4 : Value} {od4 an4 : Option PySem.Addr} {sl4 : Array (Option Value)} (X : K.In h) (G : h.Ns mainGlobals mg)
    (aC : PySem.W.nsIn K mainGlobals "Run" = some (some (.ref CRn)))
    (pg : PySem.W.plainGet K CRn Str.empty = true)
    (hd : PySem.W.hasDictIn K CRn = true)
    (po : PySem.W.plainOver K CRn = true)
    (sa : PySem.W.findIn K (.ref CRn) "__setattr__" = some (some (.builtin "object.__setattr__")))
    (n_held : PySem.W.findIn K (.ref CRn) "held" = some none)
    (n_passed : PySem.W.findIn K (.ref CRn) "passed" = some none)
    (mk : PySem.W.makesIn K CRn = true)
    (kc : PySem.W.keepIn K (.ref CRn) = true)
    (a0 : PySem.W.findIn K (.ref CRn) "__init__" = some (some (.ref f0)))
    (i0 : PySem.W.isFn K (.ref f0) = true)
    (l0 : K.lookup f0 = some ⟨oc0, od0, .func (PySem.W.fnOf "__init__" "Run.__init__" (defArgs (sRun 0)) (defBody (sRun 0)) (defScope (sRun 0)) .none kV0 dc0 pm0 an0 cd0 ct0), sl0⟩)
    (c0 : PySem.W.codeIn K cd0 "Run.__init__" = true)
    (k0 : PySem.W.keepIn K (.ref f0) = true)
    (a1 : PySem.W.findIn K (.ref CRn) "act" = some (some (.ref f1)))
    (i1 : PySem.W.isFn K (.ref f1) = true)
    (l1 : K.lookup f1 = some ⟨oc1, od1, .func (PySem.W.fnOf "act" "Run.act" (defArgs (sRun 2)) (defBody (sRun 2)) (defScope (sRun 2)) .none kV1 dc1 pm1 an1 cd1 ct1), sl1⟩)
    (c1 : PySem.W.codeIn K cd1 "Run.act" = true)
    (k1 : PySem.W.keepIn K (.ref f1) = true)
    (a2 : PySem.W.findIn K (.ref CRn) "pass_by" = some (some (.ref f2)))
    (i2 : PySem.W.isFn K (.ref f2) = true)
    (l2 : K.lookup f2 = some ⟨oc2, od2, .func (PySem.W.fnOf "pass_by" "Run.pass_by" (defArgs (sRun 1)) (defBody (sRun 1)) (defScope (sRun 1)) .none kV2 dc2 pm2 an2 cd2 ct2), sl2⟩)
    (c2 : PySem.W.codeIn K cd2 "Run.pass_by" = true)
    (k2 : PySem.W.keepIn K (.ref f2) = true)
    (a3 : PySem.W.findIn K (.ref CRn) "result" = some (some (.ref f3)))
    (i3 : PySem.W.isFn K (.ref f3) = true)
    (l3 : K.lookup f3 = some ⟨oc3, od3, .func (PySem.W.fnOf "result" "Run.result" (defArgs (sRun 3)) (defBody (sRun 3)) (defScope (sRun 3)) .none kV3 dc3 pm3 an3 cd3 ct3), sl3⟩)
    (c3 : PySem.W.codeIn K cd3 "Run.result" = true)
    (k3 : PySem.W.keepIn K (.ref f3) = true)
    (a4 : PySem.W.findIn K (.ref CRn) "origins" = some (some (.ref f4)))
    (i4 : PySem.W.isFn K (.ref f4) = true)
    (l4 : K.lookup f4 = some ⟨oc4, od4, .func (PySem.W.fnOf "origins" "Run.origins" (defArgs (sRun 4)) (defBody (sRun 4)) (defScope (sRun 4)) .none kV4 dc4 pm4 an4 cd4 ct4), sl4⟩)
    (c4 : PySem.W.codeIn K cd4 "Run.origins" = true)
    (k4 : PySem.W.keepIn K (.ref f4) = true) :
    ∃ CRn : PySem.Addr, RunT K mg CRn ∧ InitF K CRn "Run.__init__" (sRun 0) ∧ MF K CRn "act" "Run.act" (sRun 2) ∧ MF K CRn "pass_by" "Run.pass_by" (sRun 1) ∧ MF K CRn "result" "Run.result" (sRun 3) ∧ MF K CRn "origins" "Run.origins" (sRun 4) :=
  ⟨CRn, ⟨⟨pg, hd, po, sa⟩, PySem.W.mg_of X G aC, n_held, n_passed⟩, if_mk (st := sRun 0) mk a0 i0 kc l0 c0 k0, mf_mk (st := sRun 2) a1 i1 l1 c1 k1, mf_mk (st := sRun 1) a2 i2 l2 c2 k2, mf_mk (st := sRun 3) a3 i3 l3 c3 k3, mf_mk (st := sRun 4) a4 i4 l4 c4 k4⟩
theorem desk_mk {CD : PySem.Addr} {f0 : PySem.Addr} {oc0 kV0 dc0 pm0 cd0 ct0 : Value} {od0 an0 : Option PySem.Addr} {sl0 : Array (Option Value)} {f1 : PySem.Addr} {oc1 kV1 dc1 pm1 cd1 ct1 : Value} {od1 an1 : Option PySem.Addr} {sl1 : Array (Option Value)} {f2 : PySem.Addr} {oc2 kV2 dc2 pm2 cd2 ct2 : Value} {od2 an2 : Option PySem.Addr} {sl2 : Array (Option Value)} {f3 : PySem.Addr} {oc3 kV3 dc3 pm3 cd3 ct3 : Value} {od3 an3 : Option PySem.Addr} {sl3 : Array (Option Value)} {f4 : PySem.Addr} {oc4 kV4 dc4 pm4 cd4 ct4 : Value} {od4 an4 : Option PySem.Addr} {sl4 : Array (Option Value)} {f5 : PySem.Addr} {oc5 kV5 dc5 pm5 cd5 ct5 : Value} {od5 an5 : Option PySem.Addr} {sl5 : Array (Option Value)} {f6 : PySem.Addr} {oc6 kV6 dc6 pm6 cd6 ct6 : Value} {od6 an6 : Option PySem.Addr} {sl6 : Array (Option Value)} (X : K.In h) (G : h.Ns mainGlobals mg)
    (aC : PySem.W.nsIn K mainGlobals "Desk" = some (some (.ref CD)))
    (pg : PySem.W.plainGet K CD Str.empty = true)
    (hd : PySem.W.hasDictIn K CD = true)
    (po : PySem.W.plainOver K CD = true)
    (sa : PySem.W.findIn K (.ref CD) "__setattr__" = some (some (.builtin "object.__setattr__")))
    (nC : PySem.W.findIn K (.ref CD) "commands" = some none)
    (mk : PySem.W.makesIn K CD = true)
    (kc : PySem.W.keepIn K (.ref CD) = true)
    (a0 : PySem.W.findIn K (.ref CD) "__init__" = some (some (.ref f0)))
    (i0 : PySem.W.isFn K (.ref f0) = true)
    (l0 : K.lookup f0 = some ⟨oc0, od0, .func (PySem.W.fnOf "__init__" "Desk.__init__" (defArgs (sDesk 0)) (defBody (sDesk 0)) (defScope (sDesk 0)) .none kV0 dc0 pm0 an0 cd0 ct0), sl0⟩)
    (c0 : PySem.W.codeIn K cd0 "Desk.__init__" = true)
    (k0 : PySem.W.keepIn K (.ref f0) = true)
    (a1 : PySem.W.findIn K (.ref CD) "load" = some (some (.ref f1)))
    (i1 : PySem.W.isFn K (.ref f1) = true)
    (l1 : K.lookup f1 = some ⟨oc1, od1, .func (PySem.W.fnOf "load" "Desk.load" (defArgs (sDesk 1)) (defBody (sDesk 1)) (defScope (sDesk 1)) .none kV1 dc1 pm1 an1 cd1 ct1), sl1⟩)
    (c1 : PySem.W.codeIn K cd1 "Desk.load" = true)
    (k1 : PySem.W.keepIn K (.ref f1) = true)
    (a2 : PySem.W.findIn K (.ref CD) "shown" = some (some (.ref f2)))
    (i2 : PySem.W.isFn K (.ref f2) = true)
    (l2 : K.lookup f2 = some ⟨oc2, od2, .func (PySem.W.fnOf "shown" "Desk.shown" (defArgs (sDesk 2)) (defBody (sDesk 2)) (defScope (sDesk 2)) .none kV2 dc2 pm2 an2 cd2 ct2), sl2⟩)
    (c2 : PySem.W.codeIn K cd2 "Desk.shown" = true)
    (k2 : PySem.W.keepIn K (.ref f2) = true)
    (a3 : PySem.W.findIn K (.ref CD) "again" = some (some (.ref f3)))
    (i3 : PySem.W.isFn K (.ref f3) = true)
    (l3 : K.lookup f3 = some ⟨oc3, od3, .func (PySem.W.fnOf "again" "Desk.again" (defArgs (sDesk 3)) (defBody (sDesk 3)) (defScope (sDesk 3)) .none kV3 dc3 pm3 an3 cd3 ct3), sl3⟩)
    (c3 : PySem.W.codeIn K cd3 "Desk.again" = true)
    (k3 : PySem.W.keepIn K (.ref f3) = true)
    (a4 : PySem.W.findIn K (.ref CD) "rest" = some (some (.ref f4)))
    (i4 : PySem.W.isFn K (.ref f4) = true)
    (l4 : K.lookup f4 = some ⟨oc4, od4, .func (PySem.W.fnOf "rest" "Desk.rest" (defArgs (sDesk 4)) (defBody (sDesk 4)) (defScope (sDesk 4)) .none kV4 dc4 pm4 an4 cd4 ct4), sl4⟩)
    (c4 : PySem.W.codeIn K cd4 "Desk.rest" = true)
    (k4 : PySem.W.keepIn K (.ref f4) = true)
    (a5 : PySem.W.findIn K (.ref CD) "asked" = some (some (.ref f5)))
    (i5 : PySem.W.isFn K (.ref f5) = true)
    (l5 : K.lookup f5 = some ⟨oc5, od5, .func (PySem.W.fnOf "asked" "Desk.asked" (defArgs (sDesk 5)) (defBody (sDesk 5)) (defScope (sDesk 5)) .none kV5 dc5 pm5 an5 cd5 ct5), sl5⟩)
    (c5 : PySem.W.codeIn K cd5 "Desk.asked" = true)
    (k5 : PySem.W.keepIn K (.ref f5) = true)
    (a6 : PySem.W.findIn K (.ref CD) "answer" = some (some (.ref f6)))
    (i6 : PySem.W.isFn K (.ref f6) = true)
    (l6 : K.lookup f6 = some ⟨oc6, od6, .func (PySem.W.fnOf "answer" "Desk.answer" (defArgs (sDesk 6)) (defBody (sDesk 6)) (defScope (sDesk 6)) .none kV6 dc6 pm6 an6 cd6 ct6), sl6⟩)
    (c6 : PySem.W.codeIn K cd6 "Desk.answer" = true)
    (k6 : PySem.W.keepIn K (.ref f6) = true) :
    ∃ CD : PySem.Addr, DeskT K mg CD ∧ InitF K CD "Desk.__init__" (sDesk 0) ∧ MF K CD "load" "Desk.load" (sDesk 1) ∧ MF K CD "shown" "Desk.shown" (sDesk 2) ∧ MF K CD "again" "Desk.again" (sDesk 3) ∧ MF K CD "rest" "Desk.rest" (sDesk 4) ∧ MF K CD "asked" "Desk.asked" (sDesk 5) ∧ MF K CD "answer" "Desk.answer" (sDesk 6) :=
  ⟨CD, ⟨⟨pg, hd, po, sa⟩, PySem.W.mg_of X G aC, nC⟩, if_mk (st := sDesk 0) mk a0 i0 kc l0 c0 k0, mf_mk (st := sDesk 1) a1 i1 l1 c1 k1, mf_mk (st := sDesk 2) a2 i2 l2 c2 k2, mf_mk (st := sDesk 3) a3 i3 l3 c3 k3, mf_mk (st := sDesk 4) a4 i4 l4 c4 k4, mf_mk (st := sDesk 5) a5 i5 l5 c5 k5, mf_mk (st := sDesk 6) a6 i6 l6 c6 k6⟩
theorem fault_mk {CF f0 : PySem.Addr} {oc0 kV0 dc0 pm0 cd0 ct0 : Value} {od0 an0 : Option PySem.Addr} {sl0 : Array (Option Value)} (X : K.In h) (G : h.Ns mainGlobals mg)
    (aC : PySem.W.nsIn K mainGlobals "Fault" = some (some (.ref CF)))
    (xL : ∃ nm q N bs bm sn sub ab col dd k0 k1 k2 k3 k5, K.lookup CF = some (excClassObj nm q CF N bs bm true sn sub ab col dd k0 k1 k2 k3 k5 "ValueError.__new__") ∧ PySem.HandSPX.refsVE bm = true)
    (sa : PySem.W.findIn K (.ref CF) "__setattr__" = some (some (.builtin "object.__setattr__")))
    (bF : PySem.W.subIn K (.ref CF) (.type "BaseException") = some true)
    (tF : PySem.W.typeIn K (.ref CF) = some (.type "type"))
    (kC : PySem.W.keepIn K (.ref CF) = true)
    (nc : PySem.W.findIn K (.ref CF) "code" = some none)
    (np : PySem.W.findIn K (.ref CF) "place" = some none)
    (ve : PySem.W.nsIn K mainGlobals "ValueError" = some none)
    (vV : PySem.W.findCls K (.type "ValueError") (.type "type") "__init__" = some (.val (.builtin "ValueError.__init__")))
    (iF : PySem.W.isClsIn K CF = true)
    (sF : PySem.W.subIn K (.ref CF) (.ref CF) = some true)
    (a0 : PySem.W.findIn K (.ref CF) "__init__" = some (some (.ref f0)))
    (t0 : PySem.W.typeIn K (.ref f0) = some (.type "function"))
    (l0 : K.lookup f0 = some ⟨oc0, od0, .func (PySem.W.fnOf "__init__" "Fault.__init__" (defArgs (sFault)) (defBody (sFault)) (defScope (sFault)) .none kV0 dc0 pm0 an0 cd0 ct0), sl0⟩)
    (c0 : PySem.W.codeIn K cd0 "Fault.__init__" = true)
    (k0 : PySem.W.keepIn K (.ref f0) = true)
    (ga : PySem.W.findIn K (.ref CF) "__getattribute__" = some (some (.builtin "BaseException.__getattribute__")))
    (gg : PySem.W.findIn K (.ref CF) "__getattr__" = some none)
    (hC : PySem.W.hasDictIn K CF = true) :
    ∃ CF : PySem.Addr, FaultT K mg CF ∧ FaultF K CF sFault ∧ XfC K CF :=
  ⟨CF, ⟨⟨xL, sa, bF, tF, kC⟩, PySem.W.mg_of X G aC, nc, np, PySem.W.mg_none_of X G ve, vV, exm_own bF iF tF sF⟩, ⟨f0, _, fun_mk (st := sFault) l0 c0 k0, a0, t0⟩, ⟨ga, gg, bF, hC⟩⟩
theorem toomuch_mk {CT : PySem.Addr} (X : K.In h) (G : h.Ns mainGlobals mg)
    (aC : PySem.W.nsIn K mainGlobals "TooMuch" = some (some (.ref CT)))
    (xC : PySem.W.excIn K CT [.type "ValueError", .type "Exception", .type "BaseException", .type "object"] "ValueError.__new__" = true)
    (kC : PySem.W.keepIn K (.ref CT) = true)
    (bC : PySem.W.subIn K (.ref CT) (.type "BaseException") = some true)
    (tC : PySem.W.typeIn K (.ref CT) = some (.type "type"))
    (iC : PySem.W.isClsIn K CT = true)
    (sC : PySem.W.subIn K (.ref CT) (.ref CT) = some true) :
    ∃ CT : PySem.Addr, TooT K mg CT :=
  ⟨CT, ⟨PySem.W.mg_of X G aC, xC, kC, bC, tC, exm_own bC iC tC sC⟩⟩
theorem all_mk {fa CF CR CP CRn CT CD : PySem.Addr} (hfa : mg "answers" = some (.ref fa))
    (g_is_small : GF K mg "is_small" sIsSmall)
    (g_is_digit : GF K mg "is_digit" sIsDigit)
    (g_end_of_word : GF K mg "end_of_word" sEndWord)
    (n_len : mg "len" = none)
    (g_end_of_number : GF K mg "end_of_number" sEndNumber)
    (g_end_of_remark : GF K mg "end_of_remark" sEndRemark)
    (c_LINE_END : GC mg "LINE_END" (.int 10))
    (g_letters_of : GF K mg "letters_of" sLetters)
    (c_SMALL : GC mg "SMALL" (.str smallS))
    (g_octets_of : GF K mg "octets_of" sOctets)
    (n_ord : mg "ord" = none)
    (TF : FaultT K mg CF)
    (FF : FaultF K CF sFault)
    (g_number_of : GF K mg "number_of" sNumberOf)
    (g_word_at : GF K mg "word_at" sWordAt)
    (c_LONGEST_WORD : GC mg "LONGEST_WORD" (.int 8))
    (g_number_at : GF K mg "number_at" sNumberAt)
    (c_MOST_FIGURES : GC mg "MOST_FIGURES" (.int 10))
    (c_GREATEST : GC mg "GREATEST" (.int 1000000000))
    (g_token_at : GF K mg "token_at" sTokenAt)
    (c_SEMICOLON : GC mg "SEMICOLON" (.int 59))
    (g_tokens_of : GF K mg "tokens_of" sTokensOf)
    (c_LONGEST_SCRIPT : GC mg "LONGEST_SCRIPT" (.int 4096))
    (t_BLANKS : GT K mg "BLANKS" [.int 32, .int 9, .int 10])
    (c_REMARK : GC mg "REMARK" (.int 35))
    (m_CR_ahead : MF K CR "ahead" "Reader.ahead" (sReader 1))
    (TRd : ReaderT K mg CR)
    (m_CR_take : MF K CR "take" "Reader.take" (sReader 3))
    (m_CR_is_word : MF K CR "is_word" "Reader.is_word" (sReader 2))
    (m_CR_take_one_of : MF K CR "take_one_of" "Reader.take_one_of" (sReader 4))
    (m_CR_take_end_of_command : MF K CR "take_end_of_command" "Reader.take_end_of_command" (sReader 5))
    (m_CR_take_number : MF K CR "take_number" "Reader.take_number" (sReader 8))
    (m_CR_take_letters : MF K CR "take_letters" "Reader.take_letters" (sReader 6))
    (t_OWN_WORDS : GT K mg "OWN_WORDS" (strsOf RESERVED))
    (m_CR_take_letters_or_none : MF K CR "take_letters_or_none" "Reader.take_letters_or_none" (sReader 7))
    (i_CR : InitF K CR "Reader.__init__" (sReader 0))
    (g_read_plain_address : GF K mg "read_plain_address" sPlain)
    (c_MOST_LINE : GC mg "MOST_LINE" (.int 99))
    (g_read_address : GF K mg "read_address" sAddress)
    (n_range : mg "range" = none)
    (c_MOST_NOTS : GC mg "MOST_NOTS" (.int 3))
    (g_read_deed : GF K mg "read_deed" sDeed)
    (t_ALONE : GT K mg "ALONE" (strsOf aloneW))
    (t_WITH_LETTERS : GT K mg "WITH_LETTERS" (strsOf lettersW))
    (t_WITH_TWO : GT K mg "WITH_TWO" (strsOf twoW))
    (c_MOST_SKIP : GC mg "MOST_SKIP" (.int 9))
    (g_read_command : GF K mg "read_command" sCommand)
    (t_ALL : GT K mg "ALL" [.str "all"])
    (g_read_script : GF K mg "read_script" sScript)
    (c_MOST_COMMANDS : GC mg "MOST_COMMANDS" (.int 16))
    (g_address_words : GF K mg "address_words" sAddrWords)
    (n_str : mg "str" = none)
    (g_deed_words : GF K mg "deed_words" sDeedWords)
    (g_command_told : GF K mg "command_told" sCmdTold)
    (g_script_told : GF K mg "script_told" sScriptTold)
    (g_cut : GF K mg "cut" sCut)
    (g_is_line : GF K mg "is_line" sIsLine)
    (n_all : mg "all" = none)
    (c_LONGEST_LINE : GC mg "LONGEST_LINE" (.int 16))
    (g_read_text : GF K mg "read_text" sReadText)
    (c_MOST_LINES : GC mg "MOST_LINES" (.int 24))
    (g_text_octets : GF K mg "text_octets" sTextOctets)
    (g_told_text : GF K mg "told_text" sToldText)
    (i_CP : InitF K CP "Passing.__init__" (sPass 0))
    (TP : PassT K mg CP)
    (m_CP_holds_plainly : MF K CP "holds_plainly" "Passing.holds_plainly" (sPass 2))
    (m_CP_holds : MF K CP "holds" "Passing.holds" (sPass 1))
    (m_CP_becomes : MF K CP "becomes" "Passing.becomes" (sPass 3))
    (TT : TooT K mg CT)
    (m_CP_end : MF K CP "end" "Passing.end" (sPass 5))
    (m_CP_lines : MF K CP "lines" "Passing.lines" (sPass 6))
    (c_NO_COMMAND : GC mg "NO_COMMAND" (.int (-1)))
    (m_CP_fate : MF K CP "fate" "Passing.fate" (sPass 7))
    (n_int : mg "int" = none)
    (m_CP_change : MF K CP "change" "Passing.change" (sPass 4))
    (nB : NoB K)
    (m_CRn_act : MF K CRn "act" "Run.act" (sRun 2))
    (TRn : RunT K mg CRn)
    (m_CRn_pass_by : MF K CRn "pass_by" "Run.pass_by" (sRun 1))
    (n_enumerate : mg "enumerate" = none)
    (m_CRn_result : MF K CRn "result" "Run.result" (sRun 3))
    (m_CRn_origins : MF K CRn "origins" "Run.origins" (sRun 4))
    (i_CRn : InitF K CRn "Run.__init__" (sRun 0))
    (c_MOST_RESULT : GC mg "MOST_RESULT" (.int 60))
    (g_run_again : GF K mg "run_again" sAgain)
    (g_runs_to_rest : GF K mg "runs_to_rest" sToRest)
    (g_told_run : GF K mg "told_run" sToldRun)
    (g_told_origins : GF K mg "told_origins" sToldOrigins)
    (g_told_trace : GF K mg "told_trace" sToldTrace)
    (c_NO_LINE : GC mg "NO_LINE" (.int (-3)))
    (g_told_held : GF K mg "told_held" sToldHeld)
    (g_told_touched : GF K mg "told_touched" sToldTouched)
    (i_CD : InitF K CD "Desk.__init__" (sDesk 0))
    (TD : DeskT K mg CD)
    (m_CD_load : MF K CD "load" "Desk.load" (sDesk 1))
    (XF : XfC K CF)
    (m_CD_shown : MF K CD "shown" "Desk.shown" (sDesk 2))
    (m_CD_again : MF K CD "again" "Desk.again" (sDesk 3))
    (c_MOST_RUNS : GC mg "MOST_RUNS" (.int 10))
    (m_CD_rest : MF K CD "rest" "Desk.rest" (sDesk 4))
    (m_CD_asked : MF K CD "asked" "Desk.asked" (sDesk 5))
    (m_CD_answer : MF K CD "answer" "Desk.answer" (sDesk 6))
    (c_NO_SCRIPT : GC mg "NO_SCRIPT" (.int (-1)))
    (c_SHOWN : GC mg "SHOWN" (.int 1))
    (c_NO_TEXT : GC mg "NO_TEXT" (.int (-4)))
    (c_TOO_MUCH : GC mg "TOO_MUCH" (.int (-7)))
    (t_WITH_NUMBER : GT K mg "WITH_NUMBER" [.int 4, .int 7])
    (g_answers : GF K mg "answers" sAnswers) :
    ∃ fd : FuncData, (∀ (s : Shared) (us : List Value), us.length = (["calls"] : List Str).length → BindsTo s fd ⟨us, []⟩ ((["calls"] : List Str).zip us)) ∧ ∀ base : Heap, K.In base → base.Ns mainGlobals mg → FnOk P w K mg base CX0 11 fa fd ["calls"] (spAns K) := by
  obtain ⟨f, fd, F, hm⟩ := g_answers
  have e := hfa.symm.trans hm
  cases e
  refine ⟨fd, ?_, fun base _ _ => ?_⟩
  · obtain ⟨oc, od, kV, dc, pm, an, cd, ct, sl, rfl, l, c⟩ := F.ex
    exact fun s us hu => match us, hu with | [_], _ => .of_eq rfl
  have d_is_small : GD P w K mg base CX0 1 "is_small" ["octet"] (spByte isLetter) := ok_is_small g_is_small
  have d_is_digit : GD P w K mg base CX0 1 "is_digit" ["octet"] (spByte isDigit) := ok_is_digit g_is_digit
  have d_end_of_word : GD P w K mg base CX0 2 "end_of_word" ["script", "at"] (spWalk K isLetter) := ok_end_of_word g_end_of_word n_len d_is_small
  have d_end_of_number : GD P w K mg base CX0 2 "end_of_number" ["script", "at"] (spWalk K isDigit) := ok_end_of_number g_end_of_number n_len d_is_digit
  have d_end_of_remark : GD P w K mg base CX0 1 "end_of_remark" ["script", "at"] (spWalk K (· != 10)) := ok_end_of_remark g_end_of_remark n_len c_LINE_END
  have d_letters_of : GN P w K mg base CX0 1 "letters_of" ["octets"] (spLetters K) := ok_letters_of g_letters_of c_SMALL
  have d_octets_of : GD P w K mg base CX0 1 "octets_of" ["text"] spOctets := ok_octets_of g_octets_of n_ord
  have d_fault : FaultD P w K mg base CF (spFault CF) := ok_fault TF FF
  have d_number_of : GD P w K mg base CX0 1 "number_of" ["octets"] (spNumberOf K) := ok_number_of g_number_of
  have d_word_at : GN P w K mg base (L2.CX P w) 3 "word_at" ["script", "at"] (spTokenAt K CF isLetter) := ok_word_at g_word_at TF d_fault d_end_of_word d_letters_of c_LONGEST_WORD
  have d_number_at : GD P w K mg base (L2.CX P w) 3 "number_at" ["script", "at"] (spNumberAt K CF) := ok_number_at g_number_at TF d_fault d_end_of_number d_number_of c_MOST_FIGURES c_GREATEST
  have d_token_at : GN P w K mg base (L2.CX P w) 4 "token_at" ["script", "at"] (spTokenAt K CF fun _ => true) := ok_token_at g_token_at TF d_fault d_is_small d_is_digit d_word_at d_number_at c_SEMICOLON
  have d_tokens_of : GN P w K mg base (L2.CX P w) 5 "tokens_of" ["script"] (spTokens K CF) := ok_tokens_of g_tokens_of TF d_fault d_end_of_remark d_token_at n_len c_LONGEST_SCRIPT t_BLANKS c_REMARK
  have d_ahead : MD P w K mg base CX0 1 CR "ahead" ["self"] (spAhead K CR) := ok_ahead m_CR_ahead TRd
  have d_take : MD P w K mg base CX0 2 CR "take" ["self"] (spTake K CR) := ok_take m_CR_take TRd d_ahead
  have d_is_word : MD P w K mg base CX0 2 CR "is_word" ["self", "word"] (spIsWord K CR) := ok_is_word m_CR_is_word TRd d_ahead
  have d_take_one : MD P w K mg base (L2.CX P w) 3 CR "take_one_of" ["self", "words"] (spTakeOne K CR CF) := ok_take_one m_CR_take_one_of TRd TF d_fault d_ahead d_take
  have d_take_end : MD P w K mg base (L2.CX P w) 3 CR "take_end_of_command" ["self"] (spTakeEnd K CR CF) := ok_take_end m_CR_take_end_of_command TRd TF d_fault d_ahead d_take
  have d_take_number : MD P w K mg base (L2.CX P w) 3 CR "take_number" ["self", "least", "most"] (spTakeNumber K CR CF) := ok_take_number m_CR_take_number TRd TF d_fault d_ahead d_take
  have d_take_letters : MN P w K mg base (L2.CX P w) 3 CR "take_letters" ["self"] (spLettersN K CR CF) := ok_take_letters m_CR_take_letters TRd TF d_fault d_ahead d_take t_OWN_WORDS
  have d_take_instead : MN P w K mg base (L2.CX P w) 4 CR "take_letters_or_none" ["self"] (spInsteadN K CR CF) := ok_take_instead m_CR_take_letters_or_none TRd d_is_word d_take d_take_letters
  have d_reader_init : MkN P w K mg base (L2.CX P w) 6 CR ["self", "script"] (spReaderInit K CR CF) := ok_reader_init i_CR TRd d_tokens_of
  have d_plain : GD P w K mg base (L2.CX P w) 4 "read_plain_address" ["reader"] (spAddr K CR CF plainAddr) := ok_plain g_read_plain_address TRd d_take_one d_take_number (letters0 d_take_letters) c_MOST_LINE
  have d_address : GD P w K mg base (L2.CX P w) 5 "read_address" ["reader"] (spAddress K CR CF) := ok_address g_read_address TRd TF d_fault d_ahead d_is_word d_take d_plain n_range c_MOST_NOTS
  have d_deed : GN P w K mg base (L2.CX P w) 5 "read_deed" ["reader"] (spDeed K CR CF) := ok_deed g_read_deed TRd d_take_one d_take_number d_take_letters d_take_instead t_ALONE t_WITH_LETTERS t_WITH_TWO c_MOST_SKIP
  have d_command : GN P w K mg base (L2.CX P w) 6 "read_command" ["reader"] (spCommand K CR CF) := ok_command g_read_command TRd d_is_word d_take d_address d_deed d_take_end t_ALL
  have d_script : GN P w K mg base (L2.CX P w) 8 "read_script" ["script"] (spScriptN K CF) := ok_script g_read_script TRd TF d_fault d_reader_init d_ahead d_command n_len c_MOST_COMMANDS
  have d_address_words : GD P w K mg base CX0 1 "address_words" ["address"] (spAddrWords K) := ok_address_words g_address_words n_str
  have d_deed_words : GD P w K mg base CX0 1 "deed_words" ["deed"] (spDeedWords K) := ok_deed_words g_deed_words n_str
  have d_command_told : GD P w K mg base CX0 2 "command_told" ["command"] (spCmdTold K) := ok_command_told g_command_told d_address_words d_deed_words t_ALL
  have d_script_told : GD P w K mg base CX0 3 "script_told" ["commands"] (spShown K) := ok_script_told g_script_told d_command_told
  have d_cut : GD P w K mg base CX0 1 "cut" ["octets"] (spCut K) := ok_cut g_cut c_LINE_END
  have d_is_line : GD P w K mg base CX0 2 "is_line" ["octets"] (spIsLine K) := ok_is_line g_is_line n_len n_all c_LONGEST_LINE d_is_small
  have d_read_text : GD P w K mg base CX0 3 "read_text" ["octets"] (spReadText K) := ok_read_text g_read_text n_len n_all c_MOST_LINES d_cut d_is_line d_letters_of
  have d_text_octets : GD P w K mg base CX0 2 "text_octets" ["lines"] (spTextOctets K) := ok_text_octets g_text_octets c_LINE_END d_octets_of
  have d_told_text : GD P w K mg base CX0 3 "told_text" ["lines"] (spToldText K) := ok_told_text g_told_text n_len d_text_octets
  have d_pass_init : MkD P w K mg base CX0 1 CP ["self", "number", "is_last", "line"] (spPassInit K CP) := ok_pass_init i_CP TP
  have d_holds_plainly : MD P w K mg base CX0 1 CP "holds_plainly" ["self", "address"] (spHoldsP K CP) := ok_holds_plainly m_CP_holds_plainly TP
  have d_holds : MD P w K mg base CX0 2 CP "holds" ["self", "address"] (spHolds K CP) := ok_holds m_CP_holds TP d_holds_plainly
  have d_becomes : MD P w K mg base (L2.CX P w) 1 CP "becomes" ["self", "line"] (spBecomes CP CT) := ok_becomes m_CP_becomes TP TT n_len c_LONGEST_LINE
  have d_end : MD P w K mg base CX0 1 CP "end" ["self", "is_deleted"] (spEnd CP) := ok_end m_CP_end TP
  have d_lines : MD P w K mg base CX0 1 CP "lines" ["self"] (spLines K CP) := ok_lines m_CP_lines TP c_NO_COMMAND
  have d_fate : MD P w K mg base CX0 1 CP "fate" ["self"] (spFate CP) := ok_fate m_CP_fate TP n_int
  have d_change : MD P w K mg base (L2.CX P w) 2 CP "change" ["self", "deed"] (spChange K CP CT) := ok_change m_CP_change TP nB d_becomes
  have d_act : MD P w K mg base (L2.CX P w) 3 CRn "act" ["self", "number", "deed", "passing"] (spAct K CP CRn CT) := ok_act m_CRn_act TRn TP d_end d_change
  have d_pass_by : MD P w K mg base (L2.CX P w) 4 CRn "pass_by" ["self", "commands", "passing"] (spPassBy K CP CRn CT) := ok_pass_by m_CRn_pass_by TRn TP n_enumerate d_holds d_act
  have d_result : MD P w K mg base CX0 2 CRn "result" ["self"] (spResult K CP CRn) := ok_result m_CRn_result TRn TP d_lines
  have d_origins : MD P w K mg base CX0 2 CRn "origins" ["self"] (spOrigins K CP CRn) := ok_origins m_CRn_origins TRn TP d_lines
  have d_run_init : MkD P w K mg base (L2.CX P w) 5 CRn ["self", "commands", "text"] (spRunInit K CP CRn CT) := ok_run_init i_CRn TRn TP TT n_len n_enumerate c_MOST_LINES c_MOST_RESULT d_pass_init d_pass_by d_result
  have d_run_again : GD P w K mg base (L2.CX P w) 7 "run_again" ["commands", "text", "many"] (spAgain K CT) := ok_run_again g_run_again TRn n_range d_run_init d_result
  have d_runs_to_rest : GD P w K mg base (L2.CX P w) 7 "runs_to_rest" ["commands", "text", "most"] (spToRest K CT) := ok_runs_to_rest g_runs_to_rest TRn n_range d_run_init d_result
  have d_told_run : GD P w K mg base CX0 4 "told_run" ["run"] (spTold K CP CRn fRun) := ok_told_run g_told_run TRn d_result d_told_text
  have d_told_origins : GD P w K mg base CX0 3 "told_origins" ["run"] (spTold K CP CRn fOrig) := ok_told_origins g_told_origins TRn n_len d_origins
  have d_told_trace : GD P w K mg base CX0 1 "told_trace" ["run", "line"] (spTrace K CP CRn) := ok_told_trace g_told_trace TRn TP n_len c_NO_LINE
  have d_told_held : GD P w K mg base CX0 2 "told_held" ["run"] (spTold K CP CRn fHeld) := ok_told_held g_told_held TRn n_len d_octets_of
  have d_told_touched : GD P w K mg base CX0 2 "told_touched" ["run"] (spTold K CP CRn fTouch) := ok_told_touched g_told_touched TRn TP n_len d_fate
  have d_desk_init : MkD P w K mg base CX0 1 CD ["self"] (spDeskInit K CD) := ok_desk_init i_CD TD
  have d_load : MD P w K mg base CX0 9 CD "load" ["self", "script"] (spLoad K CD) := ok_load m_CD_load TD TF XF n_len d_script
  have d_shown : MD P w K mg base CX0 4 CD "shown" ["self"] (spDShown K CD) := ok_shown m_CD_shown TD n_len d_script_told d_octets_of
  have d_dagain : MD P w K mg base (L2.CX P w) 8 CD "again" ["self", "text", "many"] (spDAgain K CD CT) := ok_dagain m_CD_again TD c_NO_LINE c_MOST_RUNS d_run_again d_told_text
  have d_drest : MD P w K mg base (L2.CX P w) 8 CD "rest" ["self", "text"] (spDRest K CD CT) := ok_drest m_CD_rest TD c_MOST_RUNS d_runs_to_rest
  have d_asked : MD P w K mg base (L2.CX P w) 9 CD "asked" ["self", "which", "number", "text"] (spAsked K CD CT) := ok_asked m_CD_asked TD TRn d_dagain d_drest d_run_init d_told_run d_told_origins d_told_trace d_told_held d_told_touched
  have d_answer : MD P w K mg base CX0 10 CD "answer" ["self", "which", "number", "octets"] (spAnswer K CD) := ok_answer m_CD_answer TD TT c_NO_SCRIPT c_SHOWN c_NO_TEXT c_TOO_MUCH d_load d_shown d_read_text d_asked
  exact ok_answers F TD n_len c_SHOWN t_WITH_NUMBER d_desk_init d_answer
end
end Lsd
open PySem PySem.W PyProof.Rows
set_option maxRecDepth 100000 in
set_option maxHeartbeats 40000000 in
theorem PySem.Challenge.cw_linescriptsdesk_s01_answers_holds : PySem.Challenge.rw_linescriptsdesk_s01_answers.Holds := by
  w_on; k_headS; (case hw => exact ⟨[.list [.int 1]], by decide +kernel, by decide +kernel⟩)
  k_fillS
  refine L2.walk_specK (r := PySem.Challenge.rw_linescriptsdesk_s01_answers) (k := 11) (CX := L2.CX0) (ps := ["calls"]) (sp := Lsd.spAns) (by decide +kernel) rfl rfl ⟨rfl, by decide, by decide⟩ (fun w h Y => PySem.W.kIn_of Y) ?F ?S (fun _ _ _ _ z => z)
  case F =>
    intro w mg fa h Y KX G hmg
    obtain ⟨CF, TF, FF, XF⟩ := Lsd.fault_mk KX G (by k_is) ⟨_, _, _, _, _, _, _, _, _, _, _, _, _, _, _, (by k_is), (by decide +kernel)⟩ (by k_is) (by k_is) (by k_is) (by k_is) (by k_is) (by k_is) (by k_is) (by k_is) (by k_is) (by k_is) (by k_is) (by k_is) (by k_is) (by k_is) (by k_is) (by k_is) (by k_is) (by k_is)
    obtain ⟨CT, TT⟩ := Lsd.toomuch_mk KX G (by k_is) (by k_exc) (by k_is) (by k_is) (by k_is) (by k_is) (by k_is)
    obtain ⟨CR, TRd, i_CR, m_CR_ahead, m_CR_take, m_CR_is_word, m_CR_take_one_of, m_CR_take_end_of_command, m_CR_take_number, m_CR_take_letters, m_CR_take_letters_or_none⟩ := Lsd.reader_mk KX G (by k_is) (by k_is) (by k_is) (by k_is) (by k_is) (by k_is) (by k_is) (by k_is) (by k_is) (by k_is) (by k_is) (by k_is) (by k_is) (by k_is) (by k_is) (by k_is) (by k_is) (by k_is) (by k_is) (by k_is) (by k_is) (by k_is) (by k_is) (by k_is) (by k_is) (by k_is) (by k_is) (by k_is) (by k_is) (by k_is) (by k_is) (by k_is) (by k_is) (by k_is) (by k_is) (by k_is) (by k_is) (by k_is) (by k_is) (by k_is) (by k_is) (by k_is) (by k_is) (by k_is) (by k_is) (by k_is) (by k_is) (by k_is) (by k_is) (by k_is) (by k_is) (by k_is) (by k_is) (by k_is)
    obtain ⟨CP, TP, i_CP, m_CP_holds_plainly, m_CP_holds, m_CP_becomes, m_CP_end, m_CP_lines, m_CP_fate, m_CP_change⟩ := Lsd.pass_mk KX G (by k_is) (by k_is) (by k_is) (by k_is) (by k_is) (by k_is) (by k_is) (by k_is) (by k_is) (by k_is) (by k_is) (by k_is) (by k_is) (by k_is) (by k_is) (by k_is) (by k_is) (by k_is) (by k_is) (by k_is) (by k_is) (by k_is) (by k_is) (by k_is) (by k_is) (by k_is) (by k_is) (by k_is) (by k_is) (by k_is) (by k_is) (by k_is) (by k_is) (by k_is) (by k_is) (by k_is) (by k_is) (by k_is) (by k_is) (by k_is) (by k_is) (by k_is) (by k_is) (by k_is) (by k_is) (by k_is) (by k_is) (by k_is) (by k_is) (by k_is) (by k_is) (by k_is) (by k_is) (by k_is) (by k_is) (by k_is) (by k_is)
    obtain ⟨CRn, TRn, i_CRn, m_CRn_act, m_CRn_pass_by, m_CRn_result, m_CRn_origins⟩ := Lsd.run_mk KX G (by k_is) (by k_is) (by k_is) (by k_is) (by k_is) (by k_is) (by k_is) (by k_is) (by k_is) (by k_is) (by k_is) (by k_is) (by k_is) (by k_is) (by k_is) (by k_is) (by k_is) (by k_is) (by k_is) (by k_is) (by k_is) (by k_is) (by k_is) (by k_is) (by k_is) (by k_is) (by k_is) (by k_is) (by k_is) (by k_is) (by k_is) (by k_is) (by k_is) (by k_is)
    obtain ⟨CD, TD, i_CD, m_CD_load, m_CD_shown, m_CD_again, m_CD_rest, m_CD_asked, m_CD_answer⟩ := Lsd.desk_mk KX G (by k_is) (by k_is) (by k_is) (by k_is) (by k_is) (by k_is) (by k_is) (by k_is) (by k_is) (by k_is) (by k_is) (by k_is) (by k_is) (by k_is) (by k_is) (by k_is) (by k_is) (by k_is) (by k_is) (by k_is) (by k_is) (by k_is) (by k_is) (by k_is) (by k_is) (by k_is) (by k_is) (by k_is) (by k_is) (by k_is) (by k_is) (by k_is) (by k_is) (by k_is) (by k_is) (by k_is) (by k_is) (by k_is) (by k_is) (by k_is) (by k_is) (by k_is) (by k_is)
    have g_is_small := Lsd.gf_mk (x := "is_small") (st := Lsd.sIsSmall) KX G (by k_is) (by k_is) (by k_is) (by k_is)
    have g_is_digit := Lsd.gf_mk (x := "is_digit") (st := Lsd.sIsDigit) KX G (by k_is) (by k_is) (by k_is) (by k_is)
    have g_end_of_word := Lsd.gf_mk (x := "end_of_word") (st := Lsd.sEndWord) KX G (by k_is) (by k_is) (by k_is) (by k_is)
    have g_end_of_number := Lsd.gf_mk (x := "end_of_number") (st := Lsd.sEndNumber) KX G (by k_is) (by k_is) (by k_is) (by k_is)
    have g_end_of_remark := Lsd.gf_mk (x := "end_of_remark") (st := Lsd.sEndRemark) KX G (by k_is) (by k_is) (by k_is) (by k_is)
    have g_letters_of := Lsd.gf_mk (x := "letters_of") (st := Lsd.sLetters) KX G (by k_is) (by k_is) (by k_is) (by k_is)
    have g_octets_of := Lsd.gf_mk (x := "octets_of") (st := Lsd.sOctets) KX G (by k_is) (by k_is) (by k_is) (by k_is)
    have g_number_of := Lsd.gf_mk (x := "number_of") (st := Lsd.sNumberOf) KX G (by k_is) (by k_is) (by k_is) (by k_is)
    have g_word_at := Lsd.gf_mk (x := "word_at") (st := Lsd.sWordAt) KX G (by k_is) (by k_is) (by k_is) (by k_is)
    have g_number_at := Lsd.gf_mk (x := "number_at") (st := Lsd.sNumberAt) KX G (by k_is) (by k_is) (by k_is) (by k_is)
    have g_token_at := Lsd.gf_mk (x := "token_at") (st := Lsd.sTokenAt) KX G (by k_is) (by k_is) (by k_is) (by k_is)
    have g_tokens_of := Lsd.gf_mk (x := "tokens_of") (st := Lsd.sTokensOf) KX G (by k_is) (by k_is) (by k_is) (by k_is)
    have g_read_plain_address := Lsd.gf_mk (x := "read_plain_address") (st := Lsd.sPlain) KX G (by k_is) (by k_is) (by k_is) (by k_is)
    have g_read_address := Lsd.gf_mk (x := "read_address") (st := Lsd.sAddress) KX G (by k_is) (by k_is) (by k_is) (by k_is)
    have g_read_deed := Lsd.gf_mk (x := "read_deed") (st := Lsd.sDeed) KX G (by k_is) (by k_is) (by k_is) (by k_is)
    have g_read_command := Lsd.gf_mk (x := "read_command") (st := Lsd.sCommand) KX G (by k_is) (by k_is) (by k_is) (by k_is)
    have g_read_script := Lsd.gf_mk (x := "read_script") (st := Lsd.sScript) KX G (by k_is) (by k_is) (by k_is) (by k_is)
    have g_address_words := Lsd.gf_mk (x := "address_words") (st := Lsd.sAddrWords) KX G (by k_is) (by k_is) (by k_is) (by k_is)
    have g_deed_words := Lsd.gf_mk (x := "deed_words") (st := Lsd.sDeedWords) KX G (by k_is) (by k_is) (by k_is) (by k_is)
    have g_command_told := Lsd.gf_mk (x := "command_told") (st := Lsd.sCmdTold) KX G (by k_is) (by k_is) (by k_is) (by k_is)
    have g_script_told := Lsd.gf_mk (x := "script_told") (st := Lsd.sScriptTold) KX G (by k_is) (by k_is) (by k_is) (by k_is)
    have g_cut := Lsd.gf_mk (x := "cut") (st := Lsd.sCut) KX G (by k_is) (by k_is) (by k_is) (by k_is)
    have g_is_line := Lsd.gf_mk (x := "is_line") (st := Lsd.sIsLine) KX G (by k_is) (by k_is) (by k_is) (by k_is)
    have g_read_text := Lsd.gf_mk (x := "read_text") (st := Lsd.sReadText) KX G (by k_is) (by k_is) (by k_is) (by k_is)
    have g_text_octets := Lsd.gf_mk (x := "text_octets") (st := Lsd.sTextOctets) KX G (by k_is) (by k_is) (by k_is) (by k_is)
    have g_told_text := Lsd.gf_mk (x := "told_text") (st := Lsd.sToldText) KX G (by k_is) (by k_is) (by k_is) (by k_is)
    have g_run_again := Lsd.gf_mk (x := "run_again") (st := Lsd.sAgain) KX G (by k_is) (by k_is) (by k_is) (by k_is)
    have g_runs_to_rest := Lsd.gf_mk (x := "runs_to_rest") (st := Lsd.sToRest) KX G (by k_is) (by k_is) (by k_is) (by k_is)
    have g_told_run := Lsd.gf_mk (x := "told_run") (st := Lsd.sToldRun) KX G (by k_is) (by k_is) (by k_is) (by k_is)
    have g_told_origins := Lsd.gf_mk (x := "told_origins") (st := Lsd.sToldOrigins) KX G (by k_is) (by k_is) (by k_is) (by k_is)
    have g_told_trace := Lsd.gf_mk (x := "told_trace") (st := Lsd.sToldTrace) KX G (by k_is) (by k_is) (by k_is) (by k_is)
    have g_told_held := Lsd.gf_mk (x := "told_held") (st := Lsd.sToldHeld) KX G (by k_is) (by k_is) (by k_is) (by k_is)
    have g_told_touched := Lsd.gf_mk (x := "told_touched") (st := Lsd.sToldTouched) KX G (by k_is) (by k_is) (by k_is) (by k_is)
    have g_answers := Lsd.gf_mk (x := "answers") (st := Lsd.sAnswers) KX G (by k_is) (by k_is) (by k_is) (by k_is)
    have n_len := PySem.W.mg_none_of (n := "len") KX G (by k_is)
    have c_LINE_END := Lsd.gc_int (n := 10) (x := "LINE_END") KX G (by k_is)
    have c_SMALL := Lsd.gc_str (s := Lsd.smallS) (x := "SMALL") KX G (by k_is)
    have n_ord := PySem.W.mg_none_of (n := "ord") KX G (by k_is)
    have c_LONGEST_WORD := Lsd.gc_int (n := 8) (x := "LONGEST_WORD") KX G (by k_is)
    have c_MOST_FIGURES := Lsd.gc_int (n := 10) (x := "MOST_FIGURES") KX G (by k_is)
    have c_GREATEST := Lsd.gc_int (n := 1000000000) (x := "GREATEST") KX G (by k_is)
    have c_SEMICOLON := Lsd.gc_int (n := 59) (x := "SEMICOLON") KX G (by k_is)
    have c_LONGEST_SCRIPT := Lsd.gc_int (n := 4096) (x := "LONGEST_SCRIPT") KX G (by k_is)
    have t_BLANKS := Lsd.gt_mk (x := "BLANKS") (xs := [.int 32, .int 9, .int 10]) KX G (by k_is) (by k_is) (by exact .cons ⟨_, rfl⟩ (.cons ⟨_, rfl⟩ (.cons ⟨_, rfl⟩ (.nil)))) (by decide)
    have c_REMARK := Lsd.gc_int (n := 35) (x := "REMARK") KX G (by k_is)
    have t_OWN_WORDS := Lsd.gt_mk (x := "OWN_WORDS") (xs := [.str "if", .str "all", .str "line", .str "from", .str "to", .str "last", .str "has", .str "is", .str "not", .str "delete", .str "before", .str "after", .str "change", .str "swap", .str "first", .str "keep", .str "bring", .str "trade", .str "skip", .str "stop", .str "none"]) KX G (by k_is) (by k_is) (by exact .cons ⟨_, rfl⟩ (.cons ⟨_, rfl⟩ (.cons ⟨_, rfl⟩ (.cons ⟨_, rfl⟩ (.cons ⟨_, rfl⟩ (.cons ⟨_, rfl⟩ (.cons ⟨_, rfl⟩ (.cons ⟨_, rfl⟩ (.cons ⟨_, rfl⟩ (.cons ⟨_, rfl⟩ (.cons ⟨_, rfl⟩ (.cons ⟨_, rfl⟩ (.cons ⟨_, rfl⟩ (.cons ⟨_, rfl⟩ (.cons ⟨_, rfl⟩ (.cons ⟨_, rfl⟩ (.cons ⟨_, rfl⟩ (.cons ⟨_, rfl⟩ (.cons ⟨_, rfl⟩ (.cons ⟨_, rfl⟩ (.cons ⟨_, rfl⟩ (.nil)))))))))))))))))))))) (by decide)
    rw [Lsd.lit_own] at t_OWN_WORDS
    have c_MOST_LINE := Lsd.gc_int (n := 99) (x := "MOST_LINE") KX G (by k_is)
    have n_range := PySem.W.mg_none_of (n := "range") KX G (by k_is)
    have c_MOST_NOTS := Lsd.gc_int (n := 3) (x := "MOST_NOTS") KX G (by k_is)
    have t_ALONE := Lsd.gt_mk (x := "ALONE") (xs := [.str "delete", .str "keep", .str "bring", .str "trade", .str "stop"]) KX G (by k_is) (by k_is) (by exact .cons ⟨_, rfl⟩ (.cons ⟨_, rfl⟩ (.cons ⟨_, rfl⟩ (.cons ⟨_, rfl⟩ (.cons ⟨_, rfl⟩ (.nil)))))) (by decide)
    rw [Lsd.lit_alone] at t_ALONE
    have t_WITH_LETTERS := Lsd.gt_mk (x := "WITH_LETTERS") (xs := [.str "before", .str "after", .str "change"]) KX G (by k_is) (by k_is) (by exact .cons ⟨_, rfl⟩ (.cons ⟨_, rfl⟩ (.cons ⟨_, rfl⟩ (.nil)))) (by decide)
    rw [Lsd.lit_letters] at t_WITH_LETTERS
    have t_WITH_TWO := Lsd.gt_mk (x := "WITH_TWO") (xs := [.str "swap", .str "first"]) KX G (by k_is) (by k_is) (by exact .cons ⟨_, rfl⟩ (.cons ⟨_, rfl⟩ (.nil))) (by decide)
    rw [Lsd.lit_two] at t_WITH_TWO
    have c_MOST_SKIP := Lsd.gc_int (n := 9) (x := "MOST_SKIP") KX G (by k_is)
    have t_ALL := Lsd.gt_mk (x := "ALL") (xs := [.str "all"]) KX G (by k_is) (by k_is) (by exact .cons ⟨_, rfl⟩ (.nil)) (by decide)
    have c_MOST_COMMANDS := Lsd.gc_int (n := 16) (x := "MOST_COMMANDS") KX G (by k_is)
    have n_str := PySem.W.mg_none_of (n := "str") KX G (by k_is)
    have n_all := PySem.W.mg_none_of (n := "all") KX G (by k_is)
    have c_LONGEST_LINE := Lsd.gc_int (n := 16) (x := "LONGEST_LINE") KX G (by k_is)
    have c_MOST_LINES := Lsd.gc_int (n := 24) (x := "MOST_LINES") KX G (by k_is)
    have c_NO_COMMAND := Lsd.gc_int (n := (-1)) (x := "NO_COMMAND") KX G (by k_is)
    have n_int := PySem.W.mg_none_of (n := "int") KX G (by k_is)
    have n_enumerate := PySem.W.mg_none_of (n := "enumerate") KX G (by k_is)
    have c_MOST_RESULT := Lsd.gc_int (n := 60) (x := "MOST_RESULT") KX G (by k_is)
    have c_NO_LINE := Lsd.gc_int (n := (-3)) (x := "NO_LINE") KX G (by k_is)
    have c_MOST_RUNS := Lsd.gc_int (n := 10) (x := "MOST_RUNS") KX G (by k_is)
    have c_NO_SCRIPT := Lsd.gc_int (n := (-1)) (x := "NO_SCRIPT") KX G (by k_is)
    have c_SHOWN := Lsd.gc_int (n := 1) (x := "SHOWN") KX G (by k_is)
    have c_NO_TEXT := Lsd.gc_int (n := (-4)) (x := "NO_TEXT") KX G (by k_is)
    have c_TOO_MUCH := Lsd.gc_int (n := (-7)) (x := "TOO_MUCH") KX G (by k_is)
    have t_WITH_NUMBER := Lsd.gt_mk (x := "WITH_NUMBER") (xs := [.int 4, .int 7]) KX G (by k_is) (by k_is) (by exact .cons ⟨_, rfl⟩ (.cons ⟨_, rfl⟩ (.nil))) (by decide)
    have nB := Lsd.nob_mk KX (by k_is)
    exact Lsd.all_mk hmg g_is_small g_is_digit g_end_of_word n_len g_end_of_number g_end_of_remark c_LINE_END g_letters_of c_SMALL g_octets_of n_ord TF FF g_number_of g_word_at c_LONGEST_WORD g_number_at c_MOST_FIGURES c_GREATEST g_token_at c_SEMICOLON g_tokens_of c_LONGEST_SCRIPT t_BLANKS c_REMARK m_CR_ahead TRd m_CR_take m_CR_is_word m_CR_take_one_of m_CR_take_end_of_command m_CR_take_number m_CR_take_letters t_OWN_WORDS m_CR_take_letters_or_none i_CR g_read_plain_address c_MOST_LINE g_read_address n_range c_MOST_NOTS g_read_deed t_ALONE t_WITH_LETTERS t_WITH_TWO c_MOST_SKIP g_read_command t_ALL g_read_script c_MOST_COMMANDS g_address_words n_str g_deed_words g_command_told g_script_told g_cut g_is_line n_all c_LONGEST_LINE g_read_text c_MOST_LINES g_text_octets g_told_text i_CP TP m_CP_holds_plainly m_CP_holds m_CP_becomes TT m_CP_end m_CP_lines c_NO_COMMAND m_CP_fate n_int m_CP_change nB m_CRn_act TRn m_CRn_pass_by n_enumerate m_CRn_result m_CRn_origins i_CRn c_MOST_RESULT g_run_again g_runs_to_rest g_told_run g_told_origins g_told_trace c_NO_LINE g_told_held g_told_touched i_CD TD m_CD_load XF m_CD_shown m_CD_again c_MOST_RUNS m_CD_rest m_CD_asked m_CD_answer c_NO_SCRIPT c_SHOWN c_NO_TEXT c_TOO_MUCH t_WITH_NUMBER g_answers
  case S =>
    intro K H xs a hO hwi hask hx
    cases hx with
    | cons h1 h2 =>
      cases h2
      cases h1 with
      | lst hs ha =>
        have e := L2.ints_dw a.1 _ ha
        subst e
        exact ⟨_, a.1, rfl, hs, hask, fun H' p hp => .lst (L2.SqL.of hp) (L2.dw_ints _)⟩
#print axioms PySem.Challenge.cw_linescriptsdesk_s01_answers_holds
