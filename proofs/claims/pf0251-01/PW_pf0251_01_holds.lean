import PyProof.Rows.All
import Wide.All
import OpenK.AllK
import Wide.FinOn
import Lean
import PySem.Challenge.RW_pf0251_01
open PySem PySem.W PyProof.Rows
set_option Elab.async false
set_option maxRecDepth 100000



namespace Mine
set_option maxHeartbeats 8000000 in
open_top hd for PySem.Challenge.rw_pf0251_01
/-- a mark where a walk is to stop -/
def Stop (P : Prop) : Prop := P
theorem stop {P : Prop} (h : Stop P) : P := h
/-- the words of each theorem (k_with) are asked first, at every key -/
local macro_rules | `(tactic| walk_at $s:str) => `(tactic| k_extra $s)
/-! # A0 -/
section SA0
noncomputable abbrev LS : List Str := looseW hd.view_39 [] ++ List.map (fun x => x.name) (recsOf hd.view_39) ++ List.map (fun x => x.fst) (litsOf hd.view_39) ++ List.map (fun x => x.name) (clssOf hd.view_39 (looseW hd.view_39 []))
abbrev Led := List (Addr × Obj)

/-- a def's contract: whoever calls it, from a ledger `news`, gets a value and a ledger by `Post`, and all else stands -/
def Calls (w : World) (D : Nat) (f : Addr) (vs : List Value) (news : Led) (Post : Value → Led → Prop) : Prop :=
  ∀ (dp un : Nat) (gd : Option (List Code)) (cn : Str) (cs : Scope) (a : Addr) (ccd : Value) (cl : List (Str × Addr)) (outer : List Env)
    (A₀ : Around) (base h₀ : Heap) (L : Addr) (m : Str → Option Value) (s : Shared) (Q E : Value → Shared → Prop) (mean : ExcName → Option Value) (mg mb : Str → Option Value),
    Below A₀ base outer h₀ → Fr h₀ L s.heap m → (hd.heap_39 w.params).In h₀ → News h₀ L s.heap news → Top topProg LS mean mg mb h₀ →
    cs.kind = .function → dp + D < recursionLimit → un + 8 * D + 100 < cLine →
    (∀ v news' h' tk', Post v news' → Fr h₀ L h' m → News h₀ L h' news' → Q v { s with heap := h', toks := tk' }) →
    wpAny (model PySem.Challenge.rw_pf0251_01.row.prog w) (ktrTop dp un gd cn cs L a ccd cl outer) (call (.ref f) vs) Q E s

theorem Calls.use {w : World} {D : Nat} {f : Addr} {vs : List Value} {news : Led} {Post : Value → Led → Prop} (C : Calls w D f vs news Post)
    {dp un : Nat} {gd : Option (List Code)} {cn : Str} {cs : Scope} {a : Addr} {ccd : Value} {cl : List (Str × Addr)} {outer : List Env}
    {A₀ : Around} {base h₀ : Heap} {L : Addr} {m : Str → Option Value} {s : Shared} {Q E : Value → Shared → Prop} {mean : ExcName → Option Value} {mg mb : Str → Option Value}
    (B : Below A₀ base outer h₀) (F : Fr h₀ L s.heap m) (X : (hd.heap_39 w.params).In h₀) (N : News h₀ L s.heap news) (T : Top topProg LS mean mg mb h₀)
    (hk : cs.kind = .function) (hd : dp + D < recursionLimit) (hu : un + 8 * D + 100 < cLine)
    (ret : ∀ v news' h' tk', Post v news' → Fr h₀ L h' m → News h₀ L h' news' → Q v { s with heap := h', toks := tk' }) :
    wpAny (model PySem.Challenge.rw_pf0251_01.row.prog w) (ktrTop dp un gd cn cs L a ccd cl outer) (call (.ref f) vs) Q E s :=
  C dp un gd cn cs a ccd cl outer A₀ base h₀ L m s Q E mean mg mb B F X N T hk hd hu ret

def isLet (x : Int) : Bool := (decide (65 ≤ x) && decide (x ≤ 90)) || (decide (97 ≤ x) && decide (x ≤ 122))

def nameSigns : List Int := [33, 35, 36, 37, 38, 39, 42, 43, 45, 46, 94, 95, 96, 124, 126]
def isName (x : Int) : Bool := ((decide (97 ≤ x) && decide (x ≤ 122)) || (decide (48 ≤ x) && decide (x ≤ 57))) || nameSigns.contains x
theorem nameSigns_eq : KBw.bInts #[33, 35, 36, 37, 38, 39, 42, 43, 45, 46, 94, 95, 96, 124, 126] = nameSigns := by decide +kernel
def tokOk (ks : List Int) : Bool := !ks.isEmpty && ks.all fun x => isLet x || isName x

theorem tok_some {ks : List Int} (h : (0 : Int) < ks.length) : (ks.filter fun x => !isLet x && !isName x).isEmpty = tokOk ks := by
  cases ks with
  | nil => simp at h
  | cons k r =>
    rw [Bool.eq_iff_iff]
    simp only [tokOk, List.isEmpty_cons, Bool.not_false, Bool.true_and, List.isEmpty_iff, List.filter_eq_nil_iff, List.all_eq_true, Bool.and_eq_true, Bool.not_eq_true', Bool.or_eq_true]
    constructor
    · intro h x hx
      have := h x hx
      cases h1 : isLet x <;> cases h2 : isName x <;> simp_all
    · intro h x hx q
      have := h x hx
      simp_all
theorem tok_none {ks : List Int} (h : ¬ (0 : Int) < ks.length) : decide ((0 : Int) < ks.length) = tokOk ks := by
  cases ks with
  | nil => rfl
  | cons k r => exact absurd (by simp only [List.length_cons]; omega) h

def schemeSigns : List Int := [43, 45, 46]
theorem schemeSigns_eq : KBw.bInts #[43, 45, 46] = schemeSigns := by decide +kernel
def isSch (x : Int) : Bool := (isLet x || (decide (48 ≤ x) && decide (x ≤ 57))) || schemeSigns.contains x
def schOk (ks : List Int) : Bool := (!ks.isEmpty && isLet (ks.getD 0 0)) && ks.all isSch
theorem filter_not (p : Int → Bool) (ks : List Int) : (ks.filter fun x => !p x).isEmpty = ks.all p := by
  rw [Bool.eq_iff_iff]
  simp only [List.isEmpty_iff, List.filter_eq_nil_iff, List.all_eq_true, Bool.not_eq_true', Bool.not_eq_false]
theorem head_in {b : Array UInt8} {ks : List Int} (hb : KBw.bInts b = ks) (j : Nat) : 0 ≤ ks.getD j 0 ∧ ks.getD j 0 < 256 :=
  KBw.getD_in fun _ hk => KBw.ints_in (b := b) (hb ▸ hk)
theorem sch_head {b : Array UInt8} {ks : List Int} {c : Bool} (hb : KBw.bInts b = ks) (h : (if 0 ≤ ks.getD (Int.toNat 0) 0 ∧ ks.getD (Int.toNat 0) 0 < 256 then isLet (ks.getD (Int.toNat 0) 0) else false) = c) : isLet (ks.getD 0 0) = c := by
  rw [if_pos (head_in hb _)] at h; exact h
theorem sch_yes {ks : List Int} (h : (0 : Int) < ks.length) (h1 : isLet (ks.getD 0 0) = true) : (ks.filter fun x => !isSch x).isEmpty = schOk ks := by
  rw [filter_not]
  cases ks with
  | nil => simp at h
  | cons k r => simp only [schOk, h1, List.isEmpty_cons, Bool.not_false, Bool.true_and]
theorem sch_no {ks : List Int} (h1 : isLet (ks.getD 0 0) = false) : schOk ks = false := by
  unfold schOk
  rw [h1, Bool.and_false, Bool.false_and]
theorem sch_none {ks : List Int} (h : ¬ (0 : Int) < ks.length) : decide ((0 : Int) < ks.length) = schOk ks := by
  cases ks with
  | nil => rfl
  | cons k r => exact absurd (by simp only [List.length_cons]; omega) h
def okOct (x : Int) : Bool := !((decide (x < 32) && !decide (x = 9)) || decide (x = 127))
def blank (l : List Int) : Bool := [[32], [9]].any (· == l)
def valOk (ks : List Int) : Bool := ks.all okOct && (!blank (ks.take 1) && !blank (ks.drop (ks.length - 1)))
theorem blanks_eq (l : List Int) : ([KBw.bInts #[32], KBw.bInts #[9]].any fun x => x == l) = blank l := by
  rw [show KBw.bInts #[32] = [32] from by decide +kernel, show KBw.bInts #[9] = [9] from by decide +kernel]; rfl
theorem clip_head (ks : List Int) : List.take (clipAt ks.length 1) ks = ks.take 1 := by
  have : clipAt ks.length 1 = min 1 ks.length := by unfold clipAt; simp; omega
  rw [this]
  rcases Nat.le_total 1 ks.length with h | h
  · rw [Nat.min_eq_left h]
  · rw [Nat.min_eq_right h, List.take_length, List.take_of_length_le h]
theorem clip_last (ks : List Int) : List.take (ks.length - clipAt ks.length (-1)) (List.drop (clipAt ks.length (-1)) ks) = ks.drop (ks.length - 1) := by
  have : clipAt ks.length (-1) = ks.length - 1 := by unfold clipAt; simp; omega
  rw [this, List.take_of_length_le (by rw [List.length_drop]; omega)]
theorem val_bad1 {b : Array UInt8} {ks : List Int} (hb : KBw.bInts b = ks) (h : (List.filter (fun x => !okOct x) (KBw.bInts b)).isEmpty = false) : valOk ks = false := by
  rw [hb, filter_not] at h
  rw [valOk, h, Bool.false_and]
theorem val_bad2 {ks : List Int} (h : ([KBw.bInts #[32], KBw.bInts #[9]].any fun x => x == List.take (clipAt ks.length 1) ks) = true) : valOk ks = false := by
  rw [blanks_eq, clip_head] at h
  rw [valOk, h, Bool.not_true, Bool.false_and, Bool.and_false]
theorem val_bad3 {ks : List Int} (h : ([KBw.bInts #[32], KBw.bInts #[9]].any fun x => x == List.take (ks.length - clipAt ks.length (-1)) (List.drop (clipAt ks.length (-1)) ks)) = true) : valOk ks = false := by
  rw [blanks_eq, clip_last] at h
  rw [valOk, h, Bool.not_true, Bool.and_false, Bool.and_false]
theorem val_good {b : Array UInt8} {ks : List Int} (hb : KBw.bInts b = ks) (h1 : (List.filter (fun x => !okOct x) (KBw.bInts b)).isEmpty = true)
    (h2 : ([KBw.bInts #[32], KBw.bInts #[9]].any fun x => x == List.take (clipAt ks.length 1) ks) = false)
    (h3 : ([KBw.bInts #[32], KBw.bInts #[9]].any fun x => x == List.take (ks.length - clipAt ks.length (-1)) (List.drop (clipAt ks.length (-1)) ks)) = false) : valOk ks = true := by
  rw [hb, filter_not] at h1
  rw [blanks_eq, clip_head] at h2
  rw [blanks_eq, clip_last] at h3
  rw [valOk, h1, h2, h3]; rfl

set_option maxHeartbeats 4000000 in
theorem is_letter_spec (w : World) (x : Int) (tk : Tok) (news : Led) :
    Calls w 1 57 [.int x tk] news (fun v news' => v = .bool (isLet x) ∧ news' = news) := by
  k_with_none
  k_with "my_enter" => ((refine wpAny_call ?_; k_dflt cell_enter))
  k_with "my_bools" => ((refine congrArg Value.bool (Bool.eq_iff_iff.mpr ?_); simp only [isLet, decide_eq_true_eq, Bool.or_eq_true, Bool.and_eq_true]; omega))
  unfold Calls
  k_fill
  intro dp un gd cn cs a ccd cl outer A₀ base h₀ L m s Q E mean mg mb B F X N T hk hdp hun hret
  walk_at "my_enter"
  k_steps
  all_goals (refine hret _ _ _ _ ⟨?_, rfl⟩ (by assumption) (by assumption); walk_at "my_bools")
end SA0
/-! # A1 -/
section SA1
def toldOf (ks : List Int) : List Int := if ks.take 1 == [58] then ks.drop 1 else ks
def nameOk (ks : List Int) : Bool := !(toldOf ks).isEmpty && (toldOf ks).all isName
theorem clip_tail (ks : List Int) : List.take (ks.length - clipAt ks.length 1) (List.drop (clipAt ks.length 1) ks) = ks.drop 1 := by
  have : clipAt ks.length 1 = min 1 ks.length := by unfold clipAt; simp; omega
  rw [this, List.take_of_length_le (by rw [List.length_drop]; omega)]
  rcases Nat.le_total 1 ks.length with h | h
  · rw [Nat.min_eq_left h]
  · rw [Nat.min_eq_right h, List.drop_length, List.drop_of_length_le h]
theorem told_A {ks : List Int} (h : (List.take (clipAt ks.length 1) ks == KBw.bInts #[58]) = true) : toldOf ks = ks.drop 1 := by
  rw [clip_head, show KBw.bInts #[58] = [58] from by decide +kernel] at h
  rw [toldOf, if_pos h]
theorem told_B {ks : List Int} (h : (List.take (clipAt ks.length 1) ks == KBw.bInts #[58]) = false) : toldOf ks = ks := by
  rw [clip_head, show KBw.bInts #[58] = [58] from by decide +kernel] at h
  rw [toldOf, h]; rfl
theorem nm_A0 {ks : List Int} (h : (List.take (clipAt ks.length 1) ks == KBw.bInts #[58]) = true) (h0 : ((min (ks.length - clipAt ks.length 1) (ks.length - clipAt ks.length 1) : Nat) : Int) = 0) : nameOk ks = false := by
  have e : (ks.drop 1).length = 0 := by
    rw [← clip_tail, List.length_take, List.length_drop]; omega
  rw [nameOk, told_A h, List.eq_nil_of_length_eq_zero e]; rfl
theorem nm_A1 {c : Array UInt8} {ks : List Int} (h : (List.take (clipAt ks.length 1) ks == KBw.bInts #[58]) = true) (hc : KBw.bInts c = List.take (ks.length - clipAt ks.length 1) (List.drop (clipAt ks.length 1) ks))
    (hf : (List.filter (fun x => !isName x) (KBw.bInts c)).isEmpty = false) : nameOk ks = false := by
  rw [hc, clip_tail, filter_not] at hf
  rw [nameOk, told_A h, hf, Bool.and_false]
theorem nm_A2 {c : Array UInt8} {ks : List Int} (h : (List.take (clipAt ks.length 1) ks == KBw.bInts #[58]) = true) (hc : KBw.bInts c = List.take (ks.length - clipAt ks.length 1) (List.drop (clipAt ks.length 1) ks))
    (h0 : ((min (ks.length - clipAt ks.length 1) (ks.length - clipAt ks.length 1) : Nat) : Int) ≠ 0) (hf : (List.filter (fun x => !isName x) (KBw.bInts c)).isEmpty = true) : nameOk ks = true := by
  rw [hc, clip_tail, filter_not] at hf
  rw [nameOk, told_A h, hf, Bool.and_true]
  have e : (ks.drop 1).length ≠ 0 := by
    rw [← clip_tail, List.length_take, List.length_drop]; omega
  cases q : ks.drop 1 with
  | nil => rw [q] at e; exact absurd rfl e
  | cons _ _ => rfl
theorem nm_B0 {ks : List Int} (h : (List.take (clipAt ks.length 1) ks == KBw.bInts #[58]) = false) (h0 : (ks.length : Int) = 0) : nameOk ks = false := by
  have e : ks = [] := List.eq_nil_of_length_eq_zero (by omega)
  rw [nameOk, told_B h, e]; rfl
theorem nm_B1 {c : Array UInt8} {ks : List Int} (h : (List.take (clipAt ks.length 1) ks == KBw.bInts #[58]) = false) (hc : KBw.bInts c = ks)
    (hf : (List.filter (fun x => !isName x) (KBw.bInts c)).isEmpty = false) : nameOk ks = false := by
  rw [hc, filter_not] at hf
  rw [nameOk, told_B h, hf, Bool.and_false]
theorem nm_B2 {c : Array UInt8} {ks : List Int} (h : (List.take (clipAt ks.length 1) ks == KBw.bInts #[58]) = false) (hc : KBw.bInts c = ks)
    (h0 : (ks.length : Int) ≠ 0) (hf : (List.filter (fun x => !isName x) (KBw.bInts c)).isEmpty = true) : nameOk ks = true := by
  rw [hc, filter_not] at hf
  rw [nameOk, told_B h, hf, Bool.and_true]
  cases q : ks with
  | nil => rw [q] at h0; exact absurd rfl h0
  | cons _ _ => rfl
def conNames : List (List Int) := [[99, 111, 110, 110, 101, 99, 116, 105, 111, 110], [107, 101, 101, 112, 45, 97, 108, 105, 118, 101], [112, 114, 111, 120, 121, 45, 99, 111, 110, 110, 101, 99, 116, 105, 111, 110], [116, 114, 97, 110, 115, 102, 101, 114, 45, 101, 110, 99, 111, 100, 105, 110, 103], [117, 112, 103, 114, 97, 100, 101]]
theorem conNames_eq : [KBw.bInts #[99, 111, 110, 110, 101, 99, 116, 105, 111, 110], KBw.bInts #[107, 101, 101, 112, 45, 97, 108, 105, 118, 101], KBw.bInts #[112, 114, 111, 120, 121, 45, 99, 111, 110, 110, 101, 99, 116, 105, 111, 110], KBw.bInts #[116, 114, 97, 110, 115, 102, 101, 114, 45, 101, 110, 99, 111, 100, 105, 110, 103], KBw.bInts #[117, 112, 103, 114, 97, 100, 101]] = conNames := by decide +kernel
theorem con_false {js : List Int} (hc : conNames.any (· == js) = false) (h : ([KBw.bInts #[99, 111, 110, 110, 101, 99, 116, 105, 111, 110], KBw.bInts #[107, 101, 101, 112, 45, 97, 108, 105, 118, 101], KBw.bInts #[112, 114, 111, 120, 121, 45, 99, 111, 110, 110, 101, 99, 116, 105, 111, 110], KBw.bInts #[116, 114, 97, 110, 115, 102, 101, 114, 45, 101, 110, 99, 111, 100, 105, 110, 103], KBw.bInts #[117, 112, 103, 114, 97, 100, 101]].any fun x => x == js) = true) : False := by
  rw [conNames_eq, hc] at h; cases h
theorem te_false {js : List Int} (ht : (js == [116, 101]) = false) (h : (js == KBw.bInts #[116, 101]) = true) : False := by
  rw [show KBw.bInts #[116, 101] = [116, 101] from by decide +kernel, ht] at h; cases h
end SA1
/-! # X1 -/
section SX1
/-! ## An exception of the text's own class in flight -/
def locsOf (l : List Env) : List Addr := l.filterMap (·.frame)

/-- nothing that is no record changes, but the slots of the frames' dicts -/
def Near (l : List Env) (h h' : Heap) : Prop :=
  ∀ b o, h.get? b = some o → (∀ vs, o.data ≠ .fields vs) → (∃ sl, h'.get? b = some { o with slots := sl }) ∧ (b ∉ locsOf l → h'.get? b = some o)

theorem Near.refl (l : List Env) (h : Heap) : Near l h h := fun _ o e _ => ⟨⟨o.slots, e⟩, fun _ => e⟩
theorem Near.trans {l : List Env} {h₁ h₂ h₃ : Heap} (x : Near l h₁ h₂) (y : Near l h₂ h₃) : Near l h₁ h₃ := fun b o e hn => by
  obtain ⟨⟨sl, e₁⟩, k₁⟩ := x b o e hn
  obtain ⟨⟨sl', e₂⟩, _⟩ := y b _ e₁ hn
  exact ⟨⟨sl', e₂⟩, fun hb => (y b o (k₁ hb) hn).2 hb⟩
theorem Near.mono {l l' : List Env} {h h' : Heap} (x : Near l h h') (hs : ∀ b, b ∈ locsOf l → b ∈ locsOf l') : Near l' h h' := fun b o e hn =>
  ⟨(x b o e hn).1, fun hb => (x b o e hn).2 fun q => hb (hs b q)⟩
theorem Near.of_keeps {l : List Env} {h h' : Heap} (k : ∀ b o, h.get? b = some o → h'.get? b = some o) : Near l h h' := fun b o e _ => ⟨⟨o.slots, k b o e⟩, fun _ => k b o e⟩
theorem Near.upTo {l : List Env} {h h' : Heap} (x : Near l h h') : h.UpToSlots h' := fun b o e hn => (x b o e hn).1
theorem Near.frames {l l' : List Env} {h h' base : Heap} (x : Near l h h') (hl : h.FunFrames base l') : h'.FunFrames base l' :=
  hl.of_keeps fun b o e hn => let ⟨_, e'⟩ := (x b o e hn).1; ⟨_, e', rfl⟩
theorem Near.ns {l : List Env} {h h' : Heap} {a : Addr} {m : Str → Option Value} (x : Near l h h') (hn : h.Ns a m) : h'.Ns a m := x.upTo.ns hn

/-- the exception e, its dict dx with its code; fl: the frame that it stands in -/
structure Exc (base : Heap) (l : List Env) (e : Addr) (fl : Value) (h : Heap) (oe : Obj) (vs : Array Value) (dx : Addr) (es : List DictEntry) (n : Nat) : Prop where
  at' : h.get? e = some oe
  cls : oe.cls = .ref 31
  dict : oe.dict = some dx
  data : oe.data = .fields vs
  tb : ∃ T oT ts, vs[1]? = some (.ref T) ∧ base.get? T = none ∧ T ≠ e ∧ h.get? T = some oT ∧ oT.data = .fields ts ∧ ts[3]? = some fl
  dat : h.get? dx = some (dictOf es n)
  dnew : base.get? dx = none
  dloc : dx ∉ locsOf l
  code : getL "code" es = some (some (.int 270 220))

structure Flies (base : Heap) (l : List Env) (e : Addr) (fl : Value) (h : Heap) : Prop where
  stays : base.StaysIn h
  new : base.get? e = none
  frames : h.FunFrames base l
  exc : ∃ oe vs dx es n, Exc base l e fl h oe vs dx es n

section
variable {M : Model} {A : Around} {E : Value → Shared → Prop} {s : Shared} {base : Heap} {env : Env} {outer : List Env} {L e : Addr} {Q : Unit → Shared → Prop}

theorem dictOf_noFields (es : List DictEntry) (n : Nat) : ∀ vs, (dictOf es n).data ≠ .fields vs := fun vs q => by cases q

theorem dict_mapFields (f : Array Value → Array Value) (o : Obj) : (Obj.mapFields f o).dict = o.dict := by
  obtain ⟨c, d, dt, sl⟩ := o
  cases dt <;> rfl

theorem x_entry {oe : Obj} {vs : Array Value} {dx : Addr} {es : List DictEntry} {n : Nat} {head : Value} {hadNext : Bool}
    (hfr : A.frames = some (env :: outer)) (hl : s.heap.FunFrames base (env :: outer)) (hf : env.frame = some L)
    (he : s.heap.get? e = some oe) (hkb : base.StaysIn s.heap) (hen : base.get? e = none) (hc : oe.cls = .ref 31) (hdx : oe.dict = some dx) (hd : oe.data = .fields vs) (hsz : 1 < vs.size)
    (hD : s.heap.get? dx = some (dictOf es n)) (hD0 : base.get? dx = none) (hDl : dx ∉ locsOf (env :: outer)) (hcode : getL "code" es = some (some (.int 270 220)))
    (h : ∀ h', Flies base (env :: outer) e (rawInt L) h' → Near (env :: outer) s.heap h' → Q () { s with heap := h' }) :
    wpAny M A (do let a ← frameOf env; let pl ← entryPlaceOf L hadNext; let b ← EntryCells.newEntry head a .none (rawInt L) .none pl; setField (.ref e) 1 b) Q E s := by
  have hene : e ∉ locsOf (env :: outer) := fun hm => by
    obtain ⟨_, o, ho, hnf⟩ := hl.mem hm
    rw [he] at ho; injection ho with ho; subst ho; exact hnf vs hd
  refine wpAny_bind (wpAny_frameOf_fun hfr hl hf fun h₁ hs₁ => ?_)
  refine wpAny_bind (wpAny_entryPlaceOf fun pl hpl => ?_)
  unfold EntryCells.newEntry newFields
  refine wpAny_bind (wpAny_newObj_type ?_ (hpl.sizeOk5 _ _ _ _ _))
  have he₁ : h₁.get? e = some oe := (hs₁.2.1 e hene).trans he
  have kb₁ : base.StaysIn h₁ := fun b o hbo => (hs₁.2.1 b fun hm => by rw [(hl.mem hm).1] at hbo; cases hbo).trans (hkb b o hbo)
  generalize hN : ({ cls := .type "traceback", dict := none, data := .fields ([head, .ref L, .none, rawInt L, .none] ++ (if pl.isEmpty then List.replicate 6 Value.none else pl)).toArray } : Obj) = oN
  have hNd : oN.data = .fields ([head, .ref L, .none, rawInt L, .none] ++ (if pl.isEmpty then List.replicate 6 Value.none else pl)).toArray := by rw [← hN]
  have he₂ := Heap.get?_push_of_some (h := h₁) oN he₁
  refine wpAny_setField he₂ hd hsz (h _ ?_ ?_)
  all_goals
    have hTe : h₁.objs.size ≠ e := Nat.ne_of_gt (Heap.lt_size he₁)
    have hd₃ := Obj.data_mapFields hd (·.setIfInBounds 1 (Value.ref h₁.objs.size))
    have he₃ := Heap.get?_update_self (Obj.mapFields (·.setIfInBounds 1 (Value.ref h₁.objs.size))) he₂ (Obj.isFreed_of_fields hd₃)
    have hT₃ := (Heap.get?_update_other (h₁.push oN) (Obj.mapFields (·.setIfInBounds 1 (Value.ref h₁.objs.size))) (Ne.symm hTe)).trans (Heap.get?_push_size h₁ (Obj.isFreed_of_fields hNd))
    have keep : ∀ b o, b ≠ e → h₁.get? b = some o → ((h₁.push oN).update e (Obj.mapFields (·.setIfInBounds 1 (Value.ref h₁.objs.size)))).get? b = some o := fun b o hbe hb => by
      rw [Heap.get?_update_other _ _ (Ne.symm hbe)]
      exact Heap.get?_push_of_some _ hb
    have noRecord : ∀ b o, s.heap.get? b = some o → (∀ vs, o.data ≠ .fields vs) → b ≠ e := fun b o hb hnf q => by
      rw [q, he] at hb; injection hb with hb; subst hb; exact hnf vs hd
    have near : Near (env :: outer) s.heap ((h₁.push oN).update e (Obj.mapFields (·.setIfInBounds 1 (Value.ref h₁.objs.size)))) := fun b o hb hnf => by
      obtain ⟨sl, hs⟩ := hs₁.2.2 b o hb
      exact ⟨⟨sl, keep b _ (noRecord b o hb hnf) hs⟩, fun hbl => keep b _ (noRecord b o hb hnf) ((hs₁.2.1 b hbl).trans hb)⟩
  · refine ⟨fun b o hbo => keep b o (fun q => by rw [q, hen] at hbo; cases hbo) (kb₁ b o hbo), hen, near.frames hl, _, _, dx, es, n, he₃, ?_, ?_, hd₃, ⟨h₁.objs.size, oN, _, by simp [hsz], kb₁.fresh, hTe, hT₃, hNd, ?_⟩, (near dx _ hD (dictOf_noFields es n)).2 hDl, hD0, hDl, hcode⟩
    · exact (Obj.cls_mapFields _ _).trans hc
    · exact (dict_mapFields _ _).trans hdx
    · first | (simp; done) | (rcases hpl with rfl | ⟨_, _, _, _, _, _, _, rfl⟩ <;> simp)
  · exact near

theorem x_note_first {oe : Obj} {vs : Array Value} {dx : Addr} {es : List DictEntry} {n : Nat}
    (hfr : A.frames = some (env :: outer)) (hl : s.heap.FunFrames base (env :: outer)) (hf : env.frame = some L)
    (he : s.heap.get? e = some oe) (hkb : base.StaysIn s.heap) (hen : base.get? e = none) (hc : oe.cls = .ref 31) (hdx : oe.dict = some dx) (hd : oe.data = .fields vs) (h1 : vs[1]? = some .none)
    (hD : s.heap.get? dx = some (dictOf es n)) (hD0 : base.get? dx = none) (hDl : dx ∉ locsOf (env :: outer)) (hcode : getL "code" es = some (some (.int 270 220)))
    (h : ∀ h', Flies base (env :: outer) e (rawInt L) h' → Near (env :: outer) s.heap h' → Q () { s with heap := h' }) :
    wpAny M A (noteFrame (.ref e) env) Q E s := by
  unfold noteFrame
  simp only [hf]
  refine wpAny_bind (wpAny_field he hd h1 ?_)
  rw [if_neg (by decide)]
  exact x_entry hfr hl hf he hkb hen hc hdx hd (Array.getElem?_eq_some_iff.mp h1).1 hD hD0 hDl hcode h

/-- an update of the traceback's entry alone -/
theorem x_tb {fl fl' : Value} {l : List Env} (X : Flies base l e fl s.heap) : ∃ oe vs T oT ts, s.heap.get? e = some oe ∧ oe.data = .fields vs ∧ vs[1]? = some (.ref T) ∧ s.heap.get? T = some oT ∧ oT.data = .fields ts ∧ ts[3]? = some fl ∧
    Flies base l e fl' (s.heap.update T (Obj.mapFields (·.setIfInBounds 3 fl'))) ∧ Near l s.heap (s.heap.update T (Obj.mapFields (·.setIfInBounds 3 fl'))) := by
  obtain ⟨k1, k2, k3, oe, vs, dx, es, n, x⟩ := X
  obtain ⟨T, oT, ts, h1, hT0, hTe, hT, hTd, h3⟩ := x.tb
  have other : ∀ b, b ≠ T → (s.heap.update T (Obj.mapFields (·.setIfInBounds 3 fl'))).get? b = s.heap.get? b := fun b hb => Heap.get?_update_other _ _ (Ne.symm hb)
  have noRecord : ∀ b o, s.heap.get? b = some o → (∀ vs, o.data ≠ .fields vs) → b ≠ T := fun b o hb hnf q => by
    rw [q, hT] at hb; injection hb with hb; subst hb; exact hnf ts hTd
  have near : Near l s.heap (s.heap.update T (Obj.mapFields (·.setIfInBounds 3 fl'))) := fun b o hb hnf => by
    have := (other b (noRecord b o hb hnf)).trans hb
    exact ⟨⟨o.slots, this⟩, fun _ => this⟩
  refine ⟨oe, vs, T, oT, ts, x.at', x.data, h1, hT, hTd, h3, ⟨fun b o hbo => (other b fun q => by rw [q, hT0] at hbo; cases hbo).trans (k1 b o hbo), k2, near.frames k3, oe, vs, dx, es, n, (other e (Ne.symm hTe)).trans x.at', x.cls, x.dict, x.data, ?_, (other dx (noRecord dx _ x.dat (dictOf_noFields es n))).trans x.dat, x.dnew, x.dloc, x.code⟩, near⟩
  have hsz3 : 3 < ts.size := (Array.getElem?_eq_some_iff.mp h3).1
  exact ⟨T, _, _, h1, hT0, hTe, Heap.get?_update_self _ hT (Obj.isFreed_of_fields (Obj.data_mapFields hTd _)), Obj.data_mapFields hTd _, by simp [hsz3]⟩

theorem x_note_next (hfr : A.frames = some (env :: outer)) (hf : env.frame = some L) (X : Flies base (env :: outer) e .none s.heap)
    (h : ∀ h', Flies base (env :: outer) e (rawInt L) h' → Near (env :: outer) s.heap h' → Q () { s with heap := h' }) :
    wpAny M A (noteFrame (.ref e) env) Q E s := by
  obtain ⟨oe, vs, T, oT, ts, he, hd, h1, hT, hTd, h3, X', near⟩ := x_tb (fl' := .none) X
  unfold noteFrame
  simp only [hf]
  refine wpAny_bind (wpAny_field he hd h1 ?_)
  rw [if_pos (show (Value.ref T != Value.none) = true from by simp)]
  refine wpAny_bind (wpAny_field hT hTd h3 ?_)
  rw [if_neg (show ¬ ((Value.none == rawInt L) = true) from by simp [rawInt])]
  refine wpAny_bind (wpAny_setField hT hTd (Array.getElem?_eq_some_iff.mp h3).1 ?_)
  obtain ⟨k1, k2, k3, oe', vs', dx, es, n, x⟩ := X'
  exact x_entry hfr k3 hf x.at' k1 k2 x.cls x.dict x.data (by obtain ⟨_, _, _, q, _⟩ := x.tb; exact (Array.getElem?_eq_some_iff.mp q).1) x.dat x.dnew x.dloc x.code fun h' a b => h h' a (near.trans b)

theorem x_flight {fl : Value} {l : List Env} (X : Flies base l e fl s.heap) (h : ∀ h', Flies base l e .none h' → Near l s.heap h' → Q () { s with heap := h' }) :
    wpAny M A (setFlight (.ref e) none) Q E s := by
  obtain ⟨oe, vs, T, oT, ts, he, hd, h1, hT, hTd, h3, X', near⟩ := x_tb (fl' := .none) X
  unfold setFlight
  refine wpAny_bind (wpAny_field he hd h1 ?_)
  rw [if_pos (show (Value.ref T != Value.none) = true from by simp)]
  exact wpAny_setField hT hTd (Array.getElem?_eq_some_iff.mp h3).1 (h _ X' near)

theorem Flies.drop {fl : Value} {h : Heap} (X : Flies base (env :: outer) e fl h) : Flies base outer e fl h := by
  obtain ⟨k1, k2, ⟨_, _, k3⟩, oe, vs, dx, es, n, x⟩ := X
  refine ⟨k1, k2, k3, oe, vs, dx, es, n, x.at', x.cls, x.dict, x.data, x.tb, x.dat, x.dnew, fun q => x.dloc ?_, x.code⟩
  unfold locsOf at q ⊢
  rw [List.filterMap_cons]
  split
  · exact q
  · exact .tail _ q

theorem x_leave_next (hfr : A.frames = some (env :: outer)) (hf : env.frame = some L) (X : Flies base (env :: outer) e .none s.heap)
    (h : ∀ h', Flies base outer e .none h' → Near (env :: outer) s.heap h' → Q () { s with heap := h' }) : wpAny M A (leaving env (.ref e)) Q E s := by
  unfold leaving
  refine wpAny_bind (x_note_next hfr hf X fun h₁ X₁ n₁ => ?_)
  exact x_flight X₁ fun h₂ X₂ n₂ => h h₂ X₂.drop (n₁.trans n₂)

theorem x_leave_first {oe : Obj} {vs : Array Value} {dx : Addr} {es : List DictEntry} {n : Nat}
    (hfr : A.frames = some (env :: outer)) (hl : s.heap.FunFrames base (env :: outer)) (hf : env.frame = some L)
    (he : s.heap.get? e = some oe) (hkb : base.StaysIn s.heap) (hen : base.get? e = none) (hc : oe.cls = .ref 31) (hdx : oe.dict = some dx) (hd : oe.data = .fields vs) (h1 : vs[1]? = some .none)
    (hD : s.heap.get? dx = some (dictOf es n)) (hD0 : base.get? dx = none) (hDl : dx ∉ locsOf (env :: outer)) (hcode : getL "code" es = some (some (.int 270 220)))
    (h : ∀ h', Flies base outer e .none h' → Near (env :: outer) s.heap h' → Q () { s with heap := h' }) : wpAny M A (leaving env (.ref e)) Q E s := by
  unfold leaving
  refine wpAny_bind (x_note_first hfr hl hf he hkb hen hc hdx hd h1 hD hD0 hDl hcode fun h₁ X₁ n₁ => ?_)
  exact x_flight X₁ fun h₂ X₂ n₂ => h h₂ X₂.drop (n₁.trans n₂)
end

/-- what a caller's frame L, of map m, sees of a throw out of a call: base, the frames and all that h₀ held stand -/
def Thrown (base h₀ : Heap) (l outer : List Env) (L : Addr) (m : Str → Option Value) (s : Shared) (e : Value) (s' : Shared) : Prop :=
  ∃ ea h' tk', e = .ref ea ∧ s' = { s with heap := h', toks := tk' } ∧ Flies base l ea .none h' ∧ h'.Ns L m ∧ Near outer h₀ h'

/-- a contract with throws: Bad may be thrown -/
def CallsX (w : World) (D : Nat) (f : Addr) (vs : List Value) (news : Led) (Post : Value → Led → Prop) (Bad : Prop) : Prop :=
  ∀ (dp un : Nat) (gd : Option (List Code)) (cn : Str) (cs : Scope) (a : Addr) (ccd : Value) (cl : List (Str × Addr)) (outer : List Env)
    (A₀ : Around) (base h₀ : Heap) (L : Addr) (m : Str → Option Value) (s : Shared) (Q E : Value → Shared → Prop) (mean : ExcName → Option Value) (mg mb : Str → Option Value),
    Below A₀ base outer h₀ → Fr h₀ L s.heap m → (hd.heap_39 w.params).In h₀ → News h₀ L s.heap news → Top topProg LS mean mg mb h₀ →
    cs.kind = .function → dp + D < recursionLimit → un + 8 * D + 100 < cLine →
    (∀ v news' h' tk', Post v news' → Fr h₀ L h' m → News h₀ L h' news' → Q v { s with heap := h', toks := tk' }) →
    (∀ e s', Bad → Thrown base h₀ (envX cn cs L a ccd cl :: outer) outer L m s e s' → E e s') →
    wpAny (model PySem.Challenge.rw_pf0251_01.row.prog w) (ktrTop dp un gd cn cs L a ccd cl outer) (call (.ref f) vs) Q E s

theorem CallsX.use {w : World} {D : Nat} {f : Addr} {vs : List Value} {news : Led} {Post : Value → Led → Prop} {Bad : Prop} (C : CallsX w D f vs news Post Bad)
    {dp un : Nat} {gd : Option (List Code)} {cn : Str} {cs : Scope} {a : Addr} {ccd : Value} {cl : List (Str × Addr)} {outer : List Env}
    {A₀ : Around} {base h₀ : Heap} {L : Addr} {m : Str → Option Value} {s : Shared} {Q E : Value → Shared → Prop} {mean : ExcName → Option Value} {mg mb : Str → Option Value}
    (B : Below A₀ base outer h₀) (F : Fr h₀ L s.heap m) (X : (hd.heap_39 w.params).In h₀) (N : News h₀ L s.heap news) (T : Top topProg LS mean mg mb h₀)
    (hk : cs.kind = .function) (hd : dp + D < recursionLimit) (hu : un + 8 * D + 100 < cLine)
    (ret : ∀ v news' h' tk', Post v news' → Fr h₀ L h' m → News h₀ L h' news' → Q v { s with heap := h', toks := tk' })
    (thr : ∀ e s', Bad → Thrown base h₀ (envX cn cs L a ccd cl :: outer) outer L m s e s' → E e s') :
    wpAny (model PySem.Challenge.rw_pf0251_01.row.prog w) (ktrTop dp un gd cn cs L a ccd cl outer) (call (.ref f) vs) Q E s :=
  C dp un gd cn cs a ccd cl outer A₀ base h₀ L m s Q E mean mg mb B F X N T hk hd hu ret thr

/-- the throw leaves the callee's frame -/
theorem x_up {M : Model} {A : Around} {base h₀ g : Heap} {env env' : Env} {outer : List Env} {L L' : Addr} {m m' : Str → Option Value} {s s₁ s' : Shared} {e : Value} {h : Heap} {m₁ : Str → Option Value} {E E' : Value → Shared → Prop}
    (FG : Fr h₀ L g m) (F' : Fr g L' h m₁) (hf : env.frame = some L) (hf' : env'.frame = some L') (hfr : A.frames = some (env' :: env :: outer)) (hs : s₁.gens = s.gens ∧ s₁.drawn = s.drawn ∧ s₁.os = s.os)
    (T : Thrown base g (env' :: env :: outer) (env :: outer) L' m' s₁ e s') (hE : ∀ s'', Thrown base h₀ (env :: outer) outer L m s e s'' → E e s'') :
    wpAny M A (leaving env' e) (fun _ s'' => E e s'') E' s' := by
  obtain ⟨ea, h', tk', rfl, rfl, X, hn, near⟩ := T
  refine x_leave_next (E := E') hfr hf' X fun h'' X'' near' => hE _ ⟨ea, h'', tk', rfl, ?_, X'', ?_, ?_⟩
  · obtain ⟨a1, a2, a3⟩ := hs
    show (⟨h'', s₁.gens, s₁.drawn, tk', s₁.os⟩ : Shared) = ⟨h'', s.gens, s.drawn, tk', s.os⟩
    rw [a1, a2, a3]
  · exact near'.ns (near.ns FG.ns)
  · intro b o hb hnf
    have hg := FG.keep b o hb
    have hbL : b ≠ L := fun q => by rw [q, Heap.get?_none_of_le FG.above] at hb; cases hb
    have hbL' : b ≠ L' := fun q => by rw [q, Heap.get?_none_of_le F'.above] at hg; cases hg
    obtain ⟨⟨sl, e₁⟩, k₁⟩ := near b o hg hnf
    obtain ⟨⟨sl', e₂⟩, _⟩ := near' b _ e₁ hnf
    refine ⟨⟨sl', e₂⟩, fun hbl => ?_⟩
    have n1 : b ∉ locsOf (env :: outer) := fun q => by
      unfold locsOf at q hbl
      rw [List.filterMap_cons, hf] at q
      rcases List.mem_cons.mp q with q | q
      · exact hbL q
      · exact hbl q
    have n2 : b ∉ locsOf (env' :: env :: outer) := fun q => by
      unfold locsOf at q n1
      rw [List.filterMap_cons, hf'] at q
      rcases List.mem_cons.mp q with q | q
      · exact hbL' q
      · exact n1 q
    exact (near' b o (k₁ n1) hnf).2 n2
end SX1
/-! # X2 -/
section SX2
/-! ## A comprehension over bytes with one test -/
theorem foldl_filter (p : Int → Bool) : ∀ (ks acc : List Int), ks.foldl (fun l k => if p k = true then l ++ [k] else l) acc = acc ++ ks.filter p
  | [], acc => by simp
  | k :: r, acc => by
    rw [List.foldl_cons, foldl_filter p r]
    cases h : p k <;> simp [h]

theorem off1_mem {D : Addr} : ∀ {l : Led}, LCg.Off1 D l → ∀ q ∈ l, q.1 ≠ D
  | [], _, _, h => nomatch h
  | _ :: _, x, q, h => by
    rcases List.mem_cons.mp h with rfl | h
    · exact x.1
    · exact off1_mem x.2 q h

/-- a test's end: its bool, and nothing changed on the ledger -/
def LcT (h₀ : Heap) (L : Addr) (m : Str → Option Value) (news : Led) (s : Shared) (p : Bool) (ok : Bool) (s' : Shared) : Prop :=
  ok = p ∧ ∃ h' tk', s' = { s with heap := h', toks := tk' } ∧ Fr h₀ L h' m ∧ News h₀ L h' news

section
variable {prog : Program} {w : World} {A : Around} {E : Value → Shared → Prop} {s : Shared} {h₀ : Heap} {L : Addr} {m : Str → Option Value} {env : Env}

theorem bytes_st {I : Addr} {b : Array UInt8} {t : Tok} {S : Led → Prop} : ∀ (i : Nat) (h h' : Heap) (o : Obj) (nw : Led), KBw.IsBytesIter h I b t i → h.get? I = some o → h'.get? I = some o → (∀ b o, h₀.get? b = some o → h'.get? b = some o) → News h₀ L h' nw → S nw → KBw.IsBytesIter h' I b t i :=
  fun _ _ _ o _ st e e' _ _ _ => let ⟨o', ho', r⟩ := st; ⟨o, e', by rw [e] at ho'; cases ho'; exact r⟩

theorem lc_bytes {ct iter : Expr} {x : Str} {px pe : Pos} {scope : Scope} {cl : List (Str × Addr)} {pos : Pos} {Q : Value → Shared → Prop} {b : Array UInt8} {tb : Tok} {news : Led} (p : Int → Bool)
    (F : Fr h₀ L s.heap m) (N : News h₀ L s.heap news) (hh : A.handled = none) (hsz : b.size ≤ sizeLine)
    (hiter : ∀ Q', Q' (.bytes b tb) s → wpAny (model prog w) A (eval iter env) Q' E s)
    (test : ∀ (k : Int) t I oI C oC D ys m₂ h tk (E' : Value → Shared → Prop), 0 ≤ k → k < 256 → LCg.NsObj oC m₂ → m₂ x = some (.int k t) → Fr h₀ L h m → News h₀ L h ((I, oI) :: (C, oC) :: (D, LCg.lst ys) :: news) →
      wpAny (model prog w) A (isTrue ct (compEnvC scope cl C env) (eval ct (compEnvC scope cl C env))) (LcT h₀ L m ((I, oI) :: (C, oC) :: (D, LCg.lst ys) :: news) s (p k)) E' { s with heap := h, toks := tk })
    (done : ∀ D vs h tk, Fr h₀ L h m → News h₀ L h ((D, LCg.lst vs) :: news) → (∀ q ∈ news, q.1 ≠ D) → IntsAre vs ((KBw.bInts b).filter p) → Q (.ref D) { s with heap := h, toks := tk })
    (hclos : closureFor scope env = pure cl := by rfl) (hcell : ∀ y ∈ scope.names, y.2 ≠ .cell := by decide) (hkind : scope.kind = .function := by rfl)
    (hnames : ∀ y ∈ scope.names, y.2 = .local → scope.names.lookup y.1 = some .local := by decide) (hx : scope.names.lookup x = some .local := by rfl)
    (hkof : ∀ C, (compEnvC scope cl C env).kindOf x = some .local := by intro _; rfl) (hdb : (x == ("__debug__" : Str)) = false := by decide)
    (hs : ∀ x, foldedSetIterable iter env x = pure x := by intro _; rfl) :
    wpAny (model prog w) A (eval (.ListComp (.Name x pe) [⟨.Name x px, iter, [ct], 0⟩] scope pos) env) Q E s := by
  rw [eval_ListComp]
  refine wpAny_comprehension_free (use := none) rfl hs hclos hkind hnames (hiter _ ?_)
  refine KBw.pyIter_bytes ?_
  have up : ∀ b' o, s.heap.get? b' = some o → (s.heap.push { cls := .type "bytes_iterator", data := .fields #[.bytes b tb, .int 0 0] }).get? b' = some o := fun b' o e => Heap.get?_push_of_some _ e
  refine LCt.block_T (S := fun _ => True) (Fin := fun ys nw => nw = news ∧ IntsAre ys ((KBw.bInts b).filter p)) (KBw.walks hh s.heap.objs.size b tb) hsz (fun i h st => by obtain ⟨o, e, _⟩ := st; exact ⟨o, e⟩) (bytes_st (S := fun _ => True)) hcell hkind hx ⟨_, Heap.get?_push_size _ rfl, rfl, rfl⟩ (fun b' hb => ?_)
    (F.keeps up) (N.grown up) (Nat.ne_of_lt F.ns.lt) (next_is_new F) (fun p hp => Nat.ne_of_lt (Heap.lt_size (N p hp).1)) trivial ?_ ?_
  · rw [List.mem_singleton.mp hb]
    show s.heap.objs.size < (s.heap.push _).objs.size
    rw [Heap.size_push]; exact Nat.lt_succ_self _
  · refine kci_rest (ks := KBw.bInts b) (fun l k => if p k = true then l ++ [k] else l) (KBw.ints_length b) (fun i v hi hv => ?_) ?_ ?_ ?_
    · obtain ⟨c, u, hc, rfl⟩ := hv
      exact ⟨_, u, KBw.ints_get hc, rfl⟩
    · intro k t I oI C oC D m₂ ys l h tk E' hk hI hC hx' F' N' off ne mk
      refine wpAny_mono (test k t I oI C oC D ys m₂ h tk E' (KBw.ints_in hk).1 (KBw.ints_in hk).2 hC hx' F' N') (fun ok s' h' => ?_) fun _ _ e => e
      obtain ⟨rfl, h₂, tk₂, rfl, F₂, N₂⟩ := h'
      cases hp : p k with
      | true =>
        simp only [if_true]
        exact LCgL.ld_own N₂ (.tail _ (.head _)) hC hx' (LCg.CompEnd.intro F₂ N₂ news (fun _ q => q) off trivial (kci_el (by simp) rfl rfl)) hkind (hkof C) hdb
      | false =>
        simp only [Bool.false_eq_true, if_false]
        exact LCg.CompEnd.intro F₂ N₂ news (fun _ q => q) off trivial (kci_no (by simp) rfl)
    · intro ys hy _
      exact ⟨rfl, by rw [foldl_filter] at hy; exact hy⟩
    · intro l k
      dsimp only
      split <;> simp
  · intro D C h tk m' ys news' F' N' o1 hn hC₀ hD₀ hCL hDL hCD offC fin
    obtain ⟨rfl, hI⟩ := fin
    refine ⟨m', hn, fun h'' hs'' => done D ys h'' tk (F'.change hs'' hCL hC₀) (fun p hp => ?_) (fun q hq => ?_) hI⟩
    · refine ⟨hs''.extBut _ _ ?_ (N' p hp).1, (N' p hp).2⟩
      rcases List.mem_cons.mp hp with rfl | hp
      · exact Ne.symm hCD
      · exact offC p hp
    · exact off1_mem o1 q hq
theorem lcA_bytes {ct iter : Expr} {x y : Str} {px py pe : Pos} {scope : Scope} {cl : List (Str × Addr)} {pos spos : Pos} {Q : Flow → Shared → Prop} {b : Array UInt8} {tb : Tok} {news : Led} (p : Int → Bool)
    (F : Fr h₀ L s.heap m) (N : News h₀ L s.heap news) (hLe : env.locals = L) (hh : A.handled = none) (hsz : b.size ≤ sizeLine)
    (hiter : ∀ Q', Q' (.bytes b tb) s → wpAny (model prog w) A (eval iter env) Q' E s)
    (test : ∀ (k : Int) t I oI C oC D ys m₂ h tk (E' : Value → Shared → Prop), 0 ≤ k → k < 256 → LCg.NsObj oC m₂ → m₂ x = some (.int k t) → Fr h₀ L h m → News h₀ L h ((I, oI) :: (C, oC) :: (D, LCg.lst ys) :: news) →
      wpAny (model prog w) A (isTrue ct (compEnvC scope cl C env) (eval ct (compEnvC scope cl C env))) (LcT h₀ L m ((I, oI) :: (C, oC) :: (D, LCg.lst ys) :: news) s (p k)) E' { s with heap := h, toks := tk })
    (done : ∀ D vs h tk, Fr h₀ L h (fun z => if z = y then some (.ref D) else m z) → News h₀ L h ((D, LCg.lst vs) :: news) → (∀ q ∈ news, q.1 ≠ D) → IntsAre vs ((KBw.bInts b).filter p) → Q .next { s with heap := h, toks := tk })
    (hsw : swapsWith (.ListComp (.Name x pe) [⟨.Name x px, iter, [ct], 0⟩] scope pos) (some (.Name y py)) spos.line env = pure true := by with_unfolding_all rfl)
    (hclos : closureFor scope env = pure cl := by rfl) (hcell : ∀ y ∈ scope.names, y.2 ≠ .cell := by decide) (hkind : scope.kind = .function := by rfl)
    (hnames : ∀ y ∈ scope.names, y.2 = .local → scope.names.lookup y.1 = some .local := by decide) (hx : scope.names.lookup x = some .local := by rfl)
    (hkof : ∀ C, (compEnvC scope cl C env).kindOf x = some .local := by intro _; rfl) (hdb : (x == ("__debug__" : Str)) = false := by decide)
    (hy : env.kindOf y = some .local := by rfl) (hp : (env.scope.kind == .class || (env.scope.kind == .module && env.locals != env.globals)) = false := by rfl)
    (hs : ∀ x, foldedSetIterable iter env x = pure x := by intro _; rfl) :
    wpAny (model prog w) A (exec (.Assign [.Name y py] (.ListComp (.Name x pe) [⟨.Name x px, iter, [ct], 0⟩] scope pos) spos) env) Q E s := by
  subst hLe
  rw [exec_Assign_Name_used _ _ _ _ hsw]
  refine wpAny_bind (wpAny_standAt (wpAny_bind ?_))
  show wpAny _ A (do let _ ← comprehension (.ListComp (.Name x pe) [⟨.Name x px, iter, [ct], 0⟩] scope pos) scope env _ (newList []) false (eval iter env) (some (assign (.Name y py) env))) _ _ s
  refine wpAny_bind (wpAny_mono (wpAny_comprehension_free (use := some (assign (.Name y py) env)) (Q := fun _ s' => Q .next s') rfl hs hclos hkind hnames
    (hiter _ ?_)) (fun _ s' hq => wpAny_pure (wpAny_pure hq)) fun _ _ e => e)
  refine KBw.pyIter_bytes ?_
  have up : ∀ b' o, s.heap.get? b' = some o → (s.heap.push { cls := .type "bytes_iterator", data := .fields #[.bytes b tb, .int 0 0] }).get? b' = some o := fun b' o e => Heap.get?_push_of_some _ e
  refine LCt.block_T (S := fun _ => True) (Fin := fun ys nw => nw = news ∧ IntsAre ys ((KBw.bInts b).filter p)) (KBw.walks hh s.heap.objs.size b tb) hsz (fun i h st => by obtain ⟨o, e, _⟩ := st; exact ⟨o, e⟩) (bytes_st (S := fun _ => True)) hcell hkind hx ⟨_, Heap.get?_push_size _ rfl, rfl, rfl⟩ (fun b' hb => ?_)
    (F.keeps up) (N.grown up) (Nat.ne_of_lt F.ns.lt) (next_is_new F) (fun p hp => Nat.ne_of_lt (Heap.lt_size (N p hp).1)) trivial ?_ ?_
  · rw [List.mem_singleton.mp hb]
    show s.heap.objs.size < (s.heap.push _).objs.size
    rw [Heap.size_push]; exact Nat.lt_succ_self _
  · refine kci_rest (ks := KBw.bInts b) (fun l k => if p k = true then l ++ [k] else l) (KBw.ints_length b) (fun i v hi hv => ?_) ?_ ?_ ?_
    · obtain ⟨c, u, hc, rfl⟩ := hv
      exact ⟨_, u, KBw.ints_get hc, rfl⟩
    · intro k t I oI C oC D m₂ ys l h tk E' hk hI hC hx' F' N' off ne mk
      refine wpAny_mono (test k t I oI C oC D ys m₂ h tk E' (KBw.ints_in hk).1 (KBw.ints_in hk).2 hC hx' F' N') (fun ok s' h' => ?_) fun _ _ e => e
      obtain ⟨rfl, h₂, tk₂, rfl, F₂, N₂⟩ := h'
      cases hp : p k with
      | true =>
        simp only [if_true]
        exact LCgL.ld_own N₂ (.tail _ (.head _)) hC hx' (LCg.CompEnd.intro F₂ N₂ news (fun _ q => q) off trivial (kci_el (by simp) rfl rfl)) hkind (hkof C) hdb
      | false =>
        simp only [Bool.false_eq_true, if_false]
        exact LCg.CompEnd.intro F₂ N₂ news (fun _ q => q) off trivial (kci_no (by simp) rfl)
    · intro ys hy _
      exact ⟨rfl, by rw [foldl_filter] at hy; exact hy⟩
    · intro l k
      dsimp only
      split <;> simp
  · intro D C h' tk m' ys news' F' N' o1 hn hC₀ hD₀ hCL hDL hCD offC fin
    obtain ⟨rfl, hI⟩ := fin
    show wpAny _ A (assign (.Name y py) env (.ref D)) _ _ _
    refine wpAny_assign_Name (wpAny_storeName_local hy F'.ns (fun h₂ hn₂ hs₂ => ?_) hp)
    have hL₀ : h₀.get? env.locals = none := Heap.get?_none_of_le F'.above
    have F₂ : Fr h₀ env.locals h₂ (fun z => if z = y then some (.ref D) else m z) := ⟨hn₂, fun b o e => hs₂.extBut b o (fun q => by rw [q, hL₀] at e; cases e) (F'.keep b o e), F'.above⟩
    refine ⟨m', hn.sameBut hs₂ hCL, fun h'' hs'' => done D ys h'' _ (F₂.change hs'' hCL hC₀) (fun p hp => ?_) (fun q hq => off1_mem o1 q hq) hI⟩
    have z : h₂.get? p.1 = some p.2 := hs₂.extBut _ _ (N' p hp).2.1 (N' p hp).1
    refine ⟨hs''.extBut _ _ ?_ z, (N' p hp).2⟩
    rcases List.mem_cons.mp hp with rfl | hp
    · exact Ne.symm hCD
    · exact offC p hp

theorem eq_nil {D N : Addr} {n : Nat} {vs : List Value} {l : List Int} {all : Led} {Q : Value → Shared → Prop} (_ : Fr h₀ L s.heap m) (hN : News h₀ L s.heap all) (hd : (D, LCg.lst vs) ∈ all) (hn : (N, listOf #[] n) ∈ all) (hI : IntsAre vs l) (hu : A.units + 64 < cLine)
    (h : Q (.bool l.isEmpty) s) : wpAny (model prog w) A (compareOp .Eq (.ref D) (.ref N)) Q E s :=
  eq_intsK (ns := l) (ms := []) (vs := vs) (us := []) ⟨_, (hN _ hd).1, rfl, _, rfl⟩ hI ⟨_, (hN _ hn).1, rfl, _, rfl⟩ .nil hu (by
    have e : decide (l = []) = l.isEmpty := by cases l <;> rfl
    rw [e]; exact h)
theorem ne_nil {D N : Addr} {n : Nat} {vs : List Value} {l : List Int} {all : Led} {Q : Value → Shared → Prop} (_ : Fr h₀ L s.heap m) (hN : News h₀ L s.heap all) (hd : (D, LCg.lst vs) ∈ all) (hn : (N, listOf #[] n) ∈ all) (hI : IntsAre vs l) (hu : A.units + 64 < cLine)
    (h : Q (.bool (!l.isEmpty)) s) : wpAny (model prog w) A (compareOp .NotEq (.ref D) (.ref N)) Q E s :=
  ne_intsK (ns := l) (ms := []) (vs := vs) (us := []) ⟨_, (hN _ hd).1, rfl, _, rfl⟩ hI ⟨_, (hN _ hn).1, rfl, _, rfl⟩ .nil hu (by
    have e : (!decide (l = [])) = !l.isEmpty := by cases l <;> rfl
    first | exact e ▸ h | (rw [e]; exact h))
end
end SX2
/-! # X3 -/
section SX3
/-! ## bytes: an int in them -/
open Builtin in
theorem gives_contains_int {b : Array UInt8} {t u : Tok} {x : Int} (h0 : 0 ≤ x) (h1 : x < 256) :
    Gives («bytes.__contains__» ⟨[.bytes b t, .int x u], []⟩) (.val (.bool ((KBw.bInts b).contains x))) := by
  refine .of_wp fun M A E s Q hq => ?_
  show wpAny M A (Bytes.containsIn "bytes.__contains__" (.bytes b t) (.int x u) >>= fun r => _) _ E s
  refine wpAny_bind ?_
  unfold Bytes.containsIn
  refine wpAny_bind (wpAny_attempt ?_)
  unfold asIndex
  refine wpAny_bind (wpAny_of_eq (a := some x) rfl (wpAny_pure ?_))
  refine wpAny_bind (wpAny_of_eq KBy.buffer_eq ?_)
  dsimp only
  rw [if_neg (by simp only [Bool.or_eq_true, decide_eq_true_eq]; omega)]
  refine wpAny_pure (wpAny_pure ⟨_, rfl, ?_⟩)
  have e : b.contains x.toNat.toUInt8 = (KBw.bInts b).contains x := by
    rw [Bool.eq_iff_iff]
    simp only [Array.contains_iff_mem, List.contains_iff_mem, KBw.bInts, List.mem_map, Array.mem_toList_iff]
    constructor
    · exact fun h => ⟨_, h, byte_back h0 h1⟩
    · rintro ⟨c, hc, rfl⟩
      simpa using hc
  rw [e]; exact hq
section
variable {prog : Program} {w : World} {A : Around} {E : Value → Shared → Prop} {s : Shared} {b : Array UInt8} {t u : Tok} {x : Int}
theorem in_bytes_int {Q : Value → Shared → Prop} (h0 : 0 ≤ x) (h1 : x < 256) (h : Q (.bool ((KBw.bInts b).contains x)) s) : wpAny (model prog w) A (compareOp .In (.int x u) (.bytes b t)) Q E s :=
  in_gives (typeIs_bytes s b t) FB.slot_bytes_contains FB.entry_bytes_contains (FB.args_bytes_contains_2 _ _) (gives_contains_int h0 h1) h
theorem notIn_bytes_int {Q : Value → Shared → Prop} (h0 : 0 ≤ x) (h1 : x < 256) (h : Q (.bool (!(KBw.bInts b).contains x)) s) : wpAny (model prog w) A (compareOp .NotIn (.int x u) (.bytes b t)) Q E s :=
  notIn_gives (typeIs_bytes s b t) FB.slot_bytes_contains FB.entry_bytes_contains (FB.args_bytes_contains_2 _ _) (gives_contains_int h0 h1) h
end

/-! ## bytes: equality, and in a tuple of bytes -/
theorem toNat_list : ∀ a b : List UInt8, (a.map fun c => (c.toNat : Int)) = (b.map fun c => (c.toNat : Int)) → a = b
  | [], [], _ => rfl
  | [], _ :: _, h => by cases h
  | _ :: _, [], h => by cases h
  | x :: a, y :: b, h => by
    rw [List.map_cons, List.map_cons, List.cons.injEq] at h
    have e : x = y := UInt8.toNat_inj.mp (by omega)
    rw [e, toNat_list a b h.2]
theorem bInts_inj {b c : Array UInt8} : (b.toList == c.toList) = (KBw.bInts b == KBw.bInts c) := by
  rw [Bool.eq_iff_iff]
  simp only [beq_iff_eq, KBw.bInts]
  constructor
  · intro h; rw [h]
  · intro h
    exact toNat_list _ _ h
theorem eqAt_bytes {A : Around} {s : Shared} (b c : Array UInt8) (t u : Tok) : SeqAt.EqAt A s (.bytes b t) (.bytes c u) (KBw.bInts b == KBw.bInts c) := fun prog w E Q hq => by
  rw [← bInts_inj] at hq
  unfold eqBool
  refine wpAny_holding ?_
  refine wpAny_ite_split (fun hab => ?_) (fun _ => ?_)
  · have e := eq_of_beq hab
    injection e with e1 e2
    subst e1
    rw [beq_self_eq_true] at hq
    exact wpAny_bind (wpAny_rule (wpAny_pure hq))
  · exact wpAny_bind (eq_bytes (Q := fun v s' => wpAny _ _ (truthOfDropped v) Q E s') (wpAny_truthy_bool hq))

inductive BytesAre : List Value → List (List Int) → Prop
  | nil : BytesAre [] []
  | cons {c : Array UInt8} {u : Tok} {l : List Int} {vs : List Value} {ls : List (List Int)} : KBw.bInts c = l → BytesAre vs ls → BytesAre (.bytes c u :: vs) (l :: ls)

def bytesIs (ks : List Int) : Value → Bool
  | .bytes c _ => KBw.bInts c == ks
  | _ => false
theorem BytesAre.any {vs : List Value} {ls : List (List Int)} (h : BytesAre vs ls) (ks : List Int) : vs.any (bytesIs ks) = ls.any (· == ks) := by
  induction h with
  | nil => rfl
  | cons e _ ih => rw [List.any_cons, List.any_cons, ih, bytesIs, e]
theorem BytesAre.mem {vs : List Value} {ls : List (List Int)} (h : BytesAre vs ls) : ∀ v ∈ vs, ∃ c u, v = .bytes c u := by
  induction h with
  | nil => intro v hv; cases hv
  | cons _ _ ih =>
    intro v hv
    rcases List.mem_cons.mp hv with rfl | hv
    · exact ⟨_, _, rfl⟩
    · exact ih v hv

section
variable {prog : Program} {w : World} {A : Around} {E : Value → Shared → Prop} {s : Shared} {b : Array UInt8} {t : Tok} {T : Addr} {vs : List Value} {ls : List (List Int)} {ks : List Int}
theorem in_tuple_bytes {Q : Value → Shared → Prop} (hl : IsTup s.heap T vs.toArray) (hv : BytesAre vs ls) (hb : KBw.bInts b = ks) (h : Q (.bool (ls.any (· == ks))) s) :
    wpAny (model prog w) A (compareOp .In (.bytes b t) (.ref T)) Q E s := by
  refine SeqAt.in_tupleAt (bytesIs ks) hl (fun y hy => ?_) ?_
  · obtain ⟨c, u, rfl⟩ := hv.mem y (by simpa using hy)
    have := eqAt_bytes (A := A.in1) (s := s) c b u t
    rw [hb] at this
    exact this
  · rw [List.any_toArray, hv.any]; exact h
theorem notIn_tuple_bytes {Q : Value → Shared → Prop} (hl : IsTup s.heap T vs.toArray) (hv : BytesAre vs ls) (hb : KBw.bInts b = ks) (h : Q (.bool (!ls.any (· == ks))) s) :
    wpAny (model prog w) A (compareOp .NotIn (.bytes b t) (.ref T)) Q E s := by
  refine SeqAt.notIn_tupleAt (bytesIs ks) hl (fun y hy => ?_) ?_
  · obtain ⟨c, u, rfl⟩ := hv.mem y (by simpa using hy)
    have := eqAt_bytes (A := A.in1) (s := s) c b u t
    rw [hb] at this
    exact this
  · rw [List.any_toArray, hv.any]; exact h
theorem eq_bytesI {c : Array UInt8} {u : Tok} {ls : List Int} {Q : Value → Shared → Prop} (hb : KBw.bInts b = ks) (hc : KBw.bInts c = ls) (h : Q (.bool (ks == ls)) s) : wpAny (model prog w) A (compareOp .Eq (.bytes b t) (.bytes c u)) Q E s :=
  eq_bytes (by rw [bInts_inj, hb, hc]; exact h)
theorem ne_bytesI {c : Array UInt8} {u : Tok} {ls : List Int} {Q : Value → Shared → Prop} (hb : KBw.bInts b = ks) (hc : KBw.bInts c = ls) (h : Q (.bool (!(ks == ls))) s) : wpAny (model prog w) A (compareOp .NotEq (.bytes b t) (.bytes c u)) Q E s :=
  ne_bytes (by rw [bne, bInts_inj, hb, hc]; exact h)
end
end SX3
/-! # D1 -/
section SD1
/-! ## dicts whose keys are bytes -/
theorem bk_is (prog : Program) (w : World) (b : Array UInt8) (t : Tok) : (bytesKind prog w).is b.toList (.bytes b t) = true := by
  simp [bytesKind, isBytes]
section
variable {prog : Program} {w : World} {A : Around} {E : Value → Shared → Prop} {s : Shared} {h₀ : Heap} {L d : Addr} {m : Str → Option Value} {news : List (Addr × Obj)} {g : Obj → List (Addr × Obj)} {o : Obj}
theorem newDictB {env : Env} {pos : Pos} {Q : Value → Shared → Prop} (F : Fr h₀ L s.heap m) (N : News h₀ L s.heap news) (hbig : h₀.NoLimit)
    (k : ∀ d h' o, Fr h₀ L h' m → News h₀ L h' ((d, o) :: news) → (∀ p ∈ news, p.1 < d) → (d == sysModules) = false → o.IsDictOf (bytesKind prog w) [] → Q (.ref d) { s with heap := h' }) :
    wpAny (model prog w) A (eval (.Dict [] [] pos) env) Q E s := by
  refine wpAny_Dict_empty (k _ _ _ (F.push _) (News.push F N _) (fun p hp => Heap.lt_size (N p hp).1) (F.notModules (modules_low hbig)) ?_)
  obtain ⟨o, ho, hd⟩ := Heap.dictOf_iff.mp (Heap.DictOf.new (knd := bytesKind prog w) s.heap)
  rw [Heap.get?_push_size _ rfl] at ho
  exact (Option.some.inj ho) ▸ hd
variable {kvs : List (List UInt8 × Value)} {b : Array UInt8} {t : Tok} {v : Value}
theorem setB {Q : Unit → Shared → Prop} (F : Fr h₀ L s.heap m) (N : News h₀ L s.heap news) (U : UpdF d o news g) (hd : o.IsDictOf (bytesKind prog w) kvs) (hsz : kvs.length ≤ sizeLine)
    (h : ∀ h' o', Fr h₀ L h' m → News h₀ L h' (g o') → o'.IsDictOf (bytesKind prog w) (stored kvs b.toList v) → Q () { s with heap := h', toks := s.toks + 1 }) : wpAny (model prog w) A (setItem (.ref d) (.bytes b t) v) Q E s :=
  kda_set F N U hd (bk_is prog w b t) hsz h
theorem inB {Q : Value → Shared → Prop} (N : News h₀ L s.heap news) (hp : (d, o) ∈ news) (hd : o.IsDictOf (bytesKind prog w) kvs) (lo : (d == sysModules) = false) (c : Bool) (hb : (valueAt kvs b.toList).isSome = c) (h : Q (.bool c) { s with toks := s.toks + 1 }) :
    wpAny (model prog w) A (compareOp .In (.bytes b t) (.ref d)) Q E s := kda_in N hp hd lo (bk_is prog w b t) c hb h
theorem notInB {Q : Value → Shared → Prop} (N : News h₀ L s.heap news) (hp : (d, o) ∈ news) (hd : o.IsDictOf (bytesKind prog w) kvs) (lo : (d == sysModules) = false) (c : Bool) (hb : (!(valueAt kvs b.toList).isSome) = c) (h : Q (.bool c) { s with toks := s.toks + 1 }) :
    wpAny (model prog w) A (compareOp .NotIn (.bytes b t) (.ref d)) Q E s := wpAny_notIn_of (bk_is prog w b t) lo (kda_dict N hp hd).mapOf (by rw [hb]; exact h)
theorem itemB {value slice : PySem.Expr} {Q : Value → Shared → Prop} (N : News h₀ L s.heap news) (hp : (d, o) ∈ news) (hd : o.IsDictOf (bytesKind prog w) kvs) (hl : valueAt kvs b.toList = some v) (h : Q v { s with toks := s.toks + 1 })
    (hs : subscripted slice false (.ref d) (.bytes b t) = operate [.ref d, .bytes b t] (getItem (.ref d) (.bytes b t)) := by with_unfolding_all rfl) (hg : ∀ r, letTemporaryGo value (.ref d) r = pure () := by intro _; with_unfolding_all rfl) :
    wpAny (model prog w) A (subscriptTail value slice (.ref d) (.bytes b t)) Q E s := kda_item N hp hd (bk_is prog w b t) hl h hs hg
/-- bytes from a display: the display's pairs -/
def bytesPairs : List (Value × Value) → List (List UInt8 × Value)
  | (.bytes b _, v) :: r => (b.toList, v) :: bytesPairs r
  | _ => []
def allBytesKeys : List (Value × Value) → Bool
  | (.bytes _ _, _) :: r => allBytesKeys r
  | [] => true
  | _ => false
theorem carries_bytes (vs : List (Value × Value)) : allBytesKeys vs = true → Carries (bytesKind prog w) vs (bytesPairs vs) := by
  induction vs with
  | nil => exact fun _ => trivial
  | cons p r ih =>
    intro h
    obtain ⟨k, v⟩ := p
    cases k with
    | bytes b t => exact ⟨bk_is prog w b t, rfl, ih h⟩
    | _ => exact absurd h Bool.false_ne_true
theorem madeB {vs : List (Value × Value)} {Q : Value → Shared → Prop} (F : Fr h₀ L s.heap m) (N : News h₀ L s.heap news) (U : UpdF d o news g) (hd : o.IsDictOf (bytesKind prog w) []) (hk : allBytesKeys vs = true) (hn : ((bytesPairs vs).map (·.1)).Nodup)
    (h : ∀ h' o', Fr h₀ L h' m → News h₀ L h' (g o') → o'.IsDictOf (bytesKind prog w) (bytesPairs vs) → Q (.ref d) { s with heap := h', toks := s.toks + vs.length }) : KdnMade prog w (bytesKind prog w) d Q vs s := by
  obtain ⟨pre, post, rfl, hg, a, b⟩ := U.split
  have hm := N (d, o) (List.mem_append_right _ (.head _))
  refine ⟨bytesPairs vs, carries_bytes vs hk, Heap.dictOf_iff.mpr ⟨o, hm.1, hd⟩, fun h' hmm hs => ?_⟩
  rw [merged_nil_of_nodup _ hn] at hmm
  obtain ⟨o', ho', hd'⟩ := Heap.dictOf_iff.mp hmm
  exact h h' o' (F.change hs hm.2.1 hm.2.2) (hg o' ▸ N.setIn a b hs ho') hd'
end
end SD1
/-! # X9 -/
section SX9
/-! ## a def that changes two objects of the ledger -/
def TwoC (w : World) (D : Nat) (f : Addr) (vs : List Value) (a b : Addr) (oa ob : Obj) (Post : Value → Obj → Obj → Prop) : Prop :=
  ∀ rest : Led, (∀ p ∈ rest, p.1 ≠ a) → (∀ p ∈ rest, p.1 ≠ b) → Calls w D f vs ((a, oa) :: (b, ob) :: rest) (fun v nw => ∃ oa' ob', Post v oa' ob' ∧ nw = (a, oa') :: (b, ob') :: rest)

theorem TwoC.up {w : World} {D : Nat} {f : Addr} {vs : List Value} {a b : Addr} {oa ob : Obj} {Post : Value → Obj → Obj → Prop} (C : TwoC w D f vs a b oa ob Post) {news : Led} {g1 : Obj → Led} {g2 : Obj → Obj → Led}
    (hne : a ≠ b) (U1 : UpdF a oa news g1) (U2 : ∀ o', UpdF b ob (g1 o') (g2 o')) : Calls w D f vs news (fun v nw => ∃ oa' ob', Post v oa' ob' ∧ nw = g2 oa' ob') := by
  obtain ⟨pre, post, e1, hg1, ha, hb⟩ := U1.split
  have hg : g1 oa = news := by rw [hg1, e1]
  have hin : (b, ob) ∈ news := by
    obtain ⟨pre2, post2, e2, _⟩ := (U2 oa).split
    rw [hg] at e2
    rw [e2]; exact List.mem_append_right _ (.head _)
  intro dp un gd cn cs x ccd cl outer A₀ base h₀ L m s Q E mean mg mb B F X N T hk hdp hun hret
  have memR : ∀ p, p ∈ news.filter (fun p => decide (p.1 ≠ a) && decide (p.1 ≠ b)) ↔ p ∈ news ∧ p.1 ≠ a ∧ p.1 ≠ b := fun p => by
    rw [List.mem_filter, Bool.and_eq_true, decide_eq_true_eq, decide_eq_true_eq]
  refine C (news.filter fun p => decide (p.1 ≠ a) && decide (p.1 ≠ b)) (fun p hp => ((memR p).mp hp).2.1) (fun p hp => ((memR p).mp hp).2.2) dp un gd cn cs x ccd cl outer A₀ base h₀ L m s Q E mean mg mb B F X (fun p hp => N p ?_) T hk hdp hun ?_
  · rcases List.mem_cons.mp hp with rfl | hp
    · rw [e1]; exact List.mem_append_right _ (.head _)
    · rcases List.mem_cons.mp hp with rfl | hp
      · exact hin
      · exact ((memR p).mp hp).1
  · rintro v nw h' tk ⟨oa', ob', hP, rfl⟩ F' N'
    refine hret v _ h' tk ⟨oa', ob', hP, rfl⟩ F' fun p hp => N' p ?_
    obtain ⟨pre3, post3, e3, hg3, h3, h4⟩ := (U2 oa').split
    rw [hg3] at hp
    have old : ∀ q, q ∈ g1 oa' → q.1 ≠ b → q ∈ (a, oa') :: (b, ob') :: news.filter (fun p => decide (p.1 ≠ a) && decide (p.1 ≠ b)) := fun q hq hqb => by
      rw [hg1] at hq
      rcases List.mem_append.mp hq with hq | hq
      · exact .tail _ (.tail _ ((memR q).mpr ⟨by rw [e1]; exact List.mem_append_left _ hq, ha q hq, hqb⟩))
      · rcases List.mem_cons.mp hq with rfl | hq
        · exact .head _
        · exact .tail _ (.tail _ ((memR q).mpr ⟨by rw [e1]; exact List.mem_append_right _ (.tail _ hq), hb q hq, hqb⟩))
    rcases List.mem_append.mp hp with hp | hp
    · exact old p (by rw [e3]; exact List.mem_append_left _ hp) (h3 p hp)
    · rcases List.mem_cons.mp hp with rfl | hp
      · exact .tail _ (.head _)
      · exact old p (by rw [e3]; exact List.mem_append_right _ (.tail _ hp)) (h4 p hp)
end SX9
/-! # X4 -/
section SX4
/-! ## The class of the exceptions -/
theorem cls31 {P : Params} {h : Heap} (X : (hd.heap_39 P).In h) : ∃ dd k0 k1 k2 k3 k5, h.get? 31 = some (excClassObj (Str.ofString "H3Error") (Str.ofString "H3Error") 31 30 [.type "Exception"] [.type "Exception", .type "BaseException", .type "object"] true [] [] false none dd k0 k1 k2 k3 k5 "Exception.__new__") :=
  ⟨_, _, _, _, _, _, X 31 _ rfl⟩
theorem ns_of_in {K : Frag} {h : Heap} {N : Addr} {mg : Str → Option Value} {n : Str} {v : Value} (X : K.In h) (G : h.Ns N mg) (e : nsIn K N n = some (some v)) : mg n = some v := by
  obtain ⟨o, es, ep, ho, hd, _, hf⟩ := G
  unfold nsIn at e
  split at e
  · rename_i c d es' n' sl q
    have := X _ _ q
    rw [ho] at this
    cases this
    cases hd
    split at e
    · rename_i en he
      cases e
      rw [← hf]
      unfold nsFind findBy
      rw [← Array.find?_toList, he]
      rfl
    · split at e <;> cases e
  · cases e
theorem ns30 {P : Params} {h : Heap} (X : (hd.heap_39 P).In h) : ∃ mN, h.Ns 30 mN ∧ mN "__init__" = some (.ref 28) := by
  have G : h.Ns 30 (h.nsMap 30) := .of_isNs (isNs_of_in X (by kernel_rfl))
  exact ⟨_, G, ns_of_in X G (by kernel_rfl)⟩

section
variable {w : World} {A : Around} {E : Value → Shared → Prop} {s : Shared} {env : Env}
def Raised31 (w : World) (E : Value → Shared → Prop) (v : Value) (s₁ : Shared) : Prop :=
  ∃ e oe vs, v = .ref e ∧ (hd.heap_39 w.params).In s₁.heap ∧ s₁.heap.get? e = some oe ∧ oe.cls = .ref 31 ∧ oe.data = .fields vs ∧ vs[1]? = some .none ∧ E (.ref e) s₁

theorem x_raise {prog : Program} {x : Expr} {pos : Pos} {Q : Flow → Shared → Prop} (hh : A.handled = none) (h : wpAny (model prog w) A (eval x env) (Raised31 w E) E s) : wpAny (model prog w) A (exec (.Raise (some x) none pos) env) Q E s := by
  show wpAny (model prog w) A (do standAt pos; raiseStmt env (some (do let v ← eval x env; standAt pos; pure v)) none) Q E s
  refine wpAny_bind (wpAny_standAt ?_)
  unfold raiseStmt
  dsimp only
  refine wpAny_bind (wpAny_bind (wpAny_mono h (fun v s₁ h₁ => wpAny_bind (wpAny_standAt (wpAny_pure ?_))) fun _ _ x => x))
  obtain ⟨e, oe, vs, rfl, X, he, hc, hd, h1, hE⟩ := h₁
  obtain ⟨dd, k0, k1, k2, k3, k5, hC⟩ := cls31 X
  obtain ⟨hp, g, d, tk, os⟩ := s₁
  obtain ⟨c, dx, dt, sl⟩ := oe
  dsimp only at hc hd
  subst hc hd
  have hcB : (Value.ref 31 :: [Value.type "Exception", .type "BaseException", .type "object"]).contains (.type "BaseException") = true := by decide
  repeat (first | with_reducible refine wpAny_loadPart_at he ?_ | with_reducible refine wpAny_loadPart_at hC ?_ | (with_reducible refine wpAny_isSubtype_exc hC ?_; rw [hcB]) | wp_step)
  rw [h1]
  refine wpAny_pure ?_
  rw [if_neg (by decide)]
  exact wpAny_pure (wpAny_raiseNew_none hh hE)
abbrev exc31 (t : Addr) : Obj := { cls := .ref 31, data := .fields #[.ref t, .none, .none, .none, .bool false, .none] }
abbrev tupOf (vs : List Value) : Obj := { cls := .type "tuple", data := .seq vs.toArray }

theorem x_make {prog : Program} {h₀ : Heap} {L : Addr} {m : Str → Option Value} {news : Led} {rest : List Value} {Q : Value → Shared → Prop} (F : Fr h₀ L s.heap m) (X : (hd.heap_39 w.params).In h₀) (N : News h₀ L s.heap news)
    (h : ∀ e t h', Fr h₀ L h' m → News h₀ L h' ((e, exc31 t) :: (t, tupOf rest) :: news) → e ≠ t → (∀ p ∈ news, p.1 ≠ e) → (∀ p ∈ news, p.1 ≠ t) → s.heap.get? e = none →
      wpAny (model prog w) (A.under (.builtin "type.__call__" ⟨.ref 31 :: rest, []⟩)) (call (.ref 28) (.ref e :: rest)) (fun r s' => r = .none ∧ Q (.ref e) s') E { s with heap := h' })
    (hrest : rest.length ≤ sizeLine := by size_fits) :
    wpAny (model prog w) A (call (.ref 31) rest) Q E s := by
  have X' := X.keeps F.keep
  obtain ⟨dd, k0, k1, k2, k3, k5, hC⟩ := cls31 X'
  obtain ⟨mN, hN, hi⟩ := ns30 X'
  obtain ⟨oI, hI, hIc⟩ : ∃ oI, s.heap.get? 28 = some oI ∧ oI.cls = .type "function" := ⟨_, X' 28 _ rfl, rfl⟩
  obtain ⟨hp, g, d, tk, os⟩ := s
  refine wpAny_call_exc_init PySem.F.excBase_Exception hC hN hi hI hIc (fun h' e hm => ?_) hrest
  obtain ⟨t, he, ht0, ht⟩ := hm.there
  have none_of : ∀ a, hp.get? a = none → a ≠ L ∧ h₀.get? a = none := fun a ha => by
    refine ⟨fun q => ?_, ?_⟩
    · obtain ⟨o, _, _, ho, _⟩ := F.ns
      rw [q, ho] at ha; cases ha
    · cases q : h₀.get? a with
      | none => rfl
      | some o => rw [F.keep a o q] at ha; cases ha
  refine h e t h' (F.keeps hm.keeps) (fun p hp => ?_) ?_ (fun p hp q => ?_) (fun p hp q => ?_) hm.new
  · rcases List.mem_cons.mp hp with rfl | hp
    · exact ⟨he, none_of _ hm.new⟩
    · rcases List.mem_cons.mp hp with rfl | hp
      · exact ⟨ht, none_of _ ht0⟩
      · exact ⟨hm.keeps _ _ (N p hp).1, (N p hp).2⟩
  · intro q
    rw [q, ht] at he
    cases he
  · have := (N p hp).1; rw [q, hm.new] at this; cases this
  · have := (N p hp).1; rw [q, ht0] at this; cases this
theorem exc_init {prog : Program} {h₀ : Heap} {L : Addr} {m : Str → Option Value} {news : Led} {rest : List Value} {e t : Addr} {Q : Value → Shared → Prop} (F : Fr h₀ L s.heap m) (X : (hd.heap_39 w.params).In h₀) (N : News h₀ L s.heap ((e, exc31 t) :: news)) (off : ∀ p ∈ news, p.1 ≠ e)
    (h : ∀ t' h', Fr h₀ L h' m → News h₀ L h' ((e, exc31 t') :: (t', tupOf rest) :: news) → (∀ p ∈ news, p.1 ≠ t') → e ≠ t' → Q .none { s with heap := h' })
    (hrest : rest.length ≤ sizeLine := by size_fits) :
    wpAny (model prog w) A (call (.builtin "Exception.__init__") (.ref e :: rest)) Q E s := by
  have X' := X.keeps F.keep
  obtain ⟨dd, k0, k1, k2, k3, k5, hC⟩ := cls31 X'
  have he := (N _ (.head _)).1
  obtain ⟨hp, g, d, tk, os⟩ := s
  refine wpAny_call (codeAny_call_builtin PySem.F.excBase_Exception.init.plain PySem.F.excBase_Exception.initEntry (wpAny_check_init_subU PySem.F.excBase_Exception .base hC he rfl ?_))
  wp_walk
  show Q .none ⟨(hp.push (tupOf rest)).update e (Obj.mapFields fun x => x.setIfInBounds 0 (Value.ref hp.objs.size)), g, d, tk, os⟩
  have ne : hp.objs.size ≠ e := Nat.ne_of_gt (Heap.lt_size he)
  have z := news_upd (pre := [(hp.objs.size, tupOf rest)]) (d := e) (o := exc31 t) (o' := exc31 hp.objs.size) (post := news) (f := Obj.mapFields fun x => x.setIfInBounds 0 (Value.ref hp.objs.size)) (F.push (tupOf rest)) (N.push F (tupOf rest)) (fun p hp => by rw [List.mem_singleton.mp hp]; exact ne) off rfl rfl
  refine h hp.objs.size _ z.1 (fun p hp => z.2 p ?_) (fun p hp => Nat.ne_of_lt (Heap.lt_size (N p (.tail _ hp)).1)) (Ne.symm ne)
  rcases List.mem_cons.mp hp with rfl | hp
  · exact .tail _ (.head _)
  · rcases List.mem_cons.mp hp with rfl | hp
    · exact .head _
    · exact .tail _ (.tail _ hp)

/-! ### its fields -/
def cd31 : ClassData := { name := Str.ofString "H3Error", bases := [.type "Exception"], mro := [.ref 31, .type "Exception", .type "BaseException", .type "object"], ns := 30, qualname := Str.ofString "H3Error" }
theorem clsIn31 (P : Params) : clsIn (hd.heap_39 P) 31 = some cd31 := by kernel_rfl
theorem set31 (P : Params) : findIn (hd.heap_39 P) (.ref 31) "__setattr__" = some (some (.builtin "object.__setattr__")) := by kernel_rfl
theorem refuse31 (x : Value) : refuseLoop x "__setattr__" [.ref 31, .type "Exception", .type "BaseException", .type "object"] = pure () := by
  rw [refuseLoop_ref]
  kernel_rfl
open Builtin Builtin.ObjectAttr in
theorem osa_open31 {prog : Program} {R : Result → Shared → Prop} {x : Addr} {ox : Obj} {od : Option Obj} {name : Str} {tk : Tok} {v : Value} (X : (hd.heap_39 w.params).In s.heap) (I : W.InstAt s.heap x ox 31 od) (ht : takerIn (hd.heap_39 w.params) 31 name = some none)
    (h : ∀ b, wpAny (model prog w) A.in1 (storeInOwnDict (.ref x) (.ref 31) (.str name tk) name v b)
      (fun fin s' => match fin with | .done f => R (.ok f) s' | .again c' => c'.quiet = true ∧ codeAny (model prog w) A c' R s') (fun e s' => R (.error e) s') s) :
    codeAny (model prog w) A (.call (.builtin "object.__setattr__") ⟨[.ref x, .str name tk, v], []⟩) R s := by
  have SF := PySem.F.store_object
  have hc := clsIn31 w.params
  have sub : Looks (model prog w) s.heap (isInstance (.ref x) (.type "object")) true := I.type.andThen (looks_mroIn X (by kernel_rfl))
  refine codeAny_call_builtin SF.slot.plain SF.entry (@check_slot (model prog w) _ _ s "object.__setattr__" "object" "__setattr__" (.ref x) [.str name tk, v] [] _ SF.kind SF.split sub (SF.args (.ref x) (.str name tk) v) ?_)
  obtain ⟨attr, ha, hr⟩ := Option.bind_eq_some_iff.mp ht
  have hm : Looks (model prog w) s.heap (mroOf (.ref 31)) cd31.mro := (looks_clsIn X hc).andThen .now
  have L3 : Looks (model prog w) s.heap (storeTaker? attr) none := by
    cases attr with
    | none => exact .now
    | some a =>
      obtain ⟨b, hb, hb'⟩ := Option.map_eq_some_iff.mp hr
      refine (looks_takesIn X hb).andThen ?_
      cases b
      · exact .now
      · cases hb'
  rw [osa_eq, refuse_eq]
  refine wpAny_bind (wpAny_bind (I.type.here (wpAny_bind (hm.here ?_))))
  rw [show cd31.mro = [.ref 31, .type "Exception", .type "BaseException", .type "object"] from rfl, refuse31]
  refine wpAny_pure (wpAny_bind (I.type.here (wpAny_bind ((looks_findIn X ha).here (wpAny_bind (L3.here ?_))))))
  exact h _
abbrev exc31d (t d : Addr) : Obj := { cls := .ref 31, dict := some d, data := .fields #[.ref t, .none, .none, .none, .bool false, .none] }

open Builtin Builtin.ObjectAttr in
theorem set_first {prog : Program} {h₀ : Heap} {L : Addr} {m : Str → Option Value} {news : Led} {e t : Addr} {name : Str} {v : Value} {Q : Unit → Shared → Prop} (F : Fr h₀ L s.heap m) (X : (hd.heap_39 w.params).In h₀) (N : News h₀ L s.heap ((e, exc31 t) :: news)) (off : ∀ p ∈ news, p.1 ≠ e)
    (ht : takerIn (hd.heap_39 w.params) 31 name = some none)
    (h : ∀ d h' tk, Fr h₀ L h' m → News h₀ L h' ((e, exc31d t d) :: (d, dictOf [⟨PyData.keyHash w.params name, .str name tk, v⟩] 1) :: news) → (∀ p ∈ news, p.1 ≠ d) → e ≠ d → Q () { s with heap := h', toks := s.toks + 2 }) :
    wpAny (model prog w) A (setAttr (.ref e) name v) Q E s := by
  have X' := X.keeps F.keep
  have he := (N _ (.head _)).1
  have I : W.InstAt s.heap e (exc31 t) 31 none := ⟨he, rfl, rfl, trivial⟩
  refine set_plain X' I (set31 _) (osa_open31 (s := { s with toks := s.toks + 1 }) X' I ht fun b => ?_)
  obtain ⟨hp, g, dr, tk, os⟩ := s
  dsimp only at he X' F N h ⊢
  refine wpAny_bind (wpAny_pure (wpAny_bind (wpAny_bind (wpAny_loadPart he (wpAny_bind ((looks_clsIn X' (clsIn31 _)).here ?_))))))
  wp_walk
  have ne : hp.objs.size ≠ e := Nat.ne_of_gt (Heap.lt_size he)
  have z := news_upd (pre := [(hp.objs.size, dictOf [] 0)]) (d := e) (o := exc31 t) (o' := exc31d t hp.objs.size) (post := news) (f := fun o => { o with dict := some hp.objs.size }) (F.push (dictOf [] 0)) (N.push F (dictOf [] 0)) (fun p hp => by rw [List.mem_singleton.mp hp]; exact ne) off rfl rfl
  have hd := (z.2 _ (.head _)).1
  have z2 := news_upd (pre := []) (d := hp.objs.size) (o := dictOf [] 0) (o' := dictOf [⟨PyData.keyHash w.params name, .str name (tk + 1), v⟩] 1) (post := (e, exc31d t hp.objs.size) :: news) (f := Obj.putName name (PyData.keyHash w.params name) (.str name (tk + 1)) v) z.1 z.2 (fun p hp => nomatch hp) (fun p hq => by
    rcases List.mem_cons.mp hq with rfl | hq
    · exact Ne.symm ne
    · exact Nat.ne_of_lt (Heap.lt_size (N p (.tail _ hq)).1)) (by rw [putName_dict]; rfl) rfl
  refine wpAny_askSetting (wpAny_pure (wpAny_bind (wpAny_mkText (wpAny_bind (wpAny_loadPart hd ?_)))))
  refine wpAny_updatePart hd ?_
  refine wpAny_bind (wpAny_lookBehind (z2.2 _ (.head _)).1 (pastItsLine_dict (by show 1 ≤ sizeLine + 1; rw [sizeLine_eq]; decide)) ?_)
  refine wpAny_pure (h hp.objs.size _ (tk + 1) z2.1 (fun p hq => z2.2 p ?_) (fun p hq => Nat.ne_of_lt (Heap.lt_size (N p (.tail _ hq)).1)) (Ne.symm ne))
  rcases List.mem_cons.mp hq with rfl | hq
  · exact .tail _ (.head _)
  · rcases List.mem_cons.mp hq with rfl | hq
    · exact .head _
    · exact .tail _ (.tail _ hq)

open Builtin Builtin.ObjectAttr in
theorem set_next {prog : Program} {h₀ : Heap} {L : Addr} {m : Str → Option Value} {news : Led} {e t d : Addr} {name : Str} {v : Value} {en : DictEntry} {Q : Unit → Shared → Prop} (F : Fr h₀ L s.heap m) (X : (hd.heap_39 w.params).In h₀) (N : News h₀ L s.heap ((e, exc31d t d) :: (d, dictOf [en] 1) :: news)) (ne : e ≠ d) (off : ∀ p ∈ news, p.1 ≠ d)
    (ht : takerIn (hd.heap_39 w.params) 31 name = some none) (hk : en.key.isStr name = false) (hr : en.refKey = false)
    (h : ∀ h' tk, Fr h₀ L h' m → News h₀ L h' ((e, exc31d t d) :: (d, dictOf [en, ⟨PyData.keyHash w.params name, .str name tk, v⟩] 2) :: news) → Q () { s with heap := h', toks := s.toks + 2 }) :
    wpAny (model prog w) A (setAttr (.ref e) name v) Q E s := by
  have X' := X.keeps F.keep
  have he := (N _ (.head _)).1
  have hd := (N _ (.tail _ (.head _))).1
  have I : W.InstAt s.heap e (exc31d t d) 31 (some (dictOf [en] 1)) := ⟨he, rfl, rfl, hd⟩
  refine set_plain X' I (set31 _) (osa_open31 (s := { s with toks := s.toks + 1 }) X' I ht fun b => ?_)
  obtain ⟨hp, g, dr, tk, os⟩ := s
  dsimp only at he X' F N h ⊢
  refine wpAny_bind (wpAny_pure (wpAny_bind (wpAny_bind (wpAny_loadPart he (wpAny_bind ((looks_clsIn X' (clsIn31 _)).here ?_))))))
  have z2 := news_upd (pre := [(e, exc31d t d)]) (d := d) (o := dictOf [en] 1) (o' := dictOf [en, ⟨PyData.keyHash w.params name, .str name (tk + 1), v⟩] 2) (post := news) (f := Obj.putName name (PyData.keyHash w.params name) (.str name (tk + 1)) v) F N (fun p hp => by rw [List.mem_singleton.mp hp]; exact ne) off (by rw [putName_dict]; simp [putL, putN, hk]) rfl
  refine wpAny_pure (a := some d) (wpAny_bind (wpAny_pure (wpAny_bind ?_)))
  unfold nsSet
  refine wpAny_bind (wpAny_bind (wpAny_askSetting (wpAny_pure (wpAny_bind (wpAny_mkText (wpAny_bind (wpAny_loadPart hd ?_)))))))
  have c : aRefKeyMayBeTheName name #[en] = false := by
    rw [aRefKeyMayBeTheName_at]
    simp [hr]
  dsimp only [dictOf]
  rw [show [en].toArray = #[en] from rfl, c]
  refine wpAny_updatePart hd ?_
  refine wpAny_bind (wpAny_lookBehind (z2.2 _ (.tail _ (.head _))).1 (pastItsLine_dict (by show 2 ≤ sizeLine + 1; rw [sizeLine_eq]; decide)) ?_)
  exact wpAny_pure (h _ (tk + 1) z2.1 z2.2)
theorem locs_cons {env : Env} {outer : List Env} {L b : Addr} (hf : env.frame = some L) (h : b ∈ locsOf (env :: outer)) : b = L ∨ b ∈ locsOf outer := by
  unfold locsOf at h ⊢
  rw [List.filterMap_cons, hf] at h
  exact List.mem_cons.mp h

/-- a raise out of the def that makes the exception -/
theorem x_first {prog : Program} {base h₀ g : Heap} {A₁ : Around} {env : Env} {outer : List Env} {L L' e d t a : Addr} {m m₁ : Str → Option Value} {s s' : Shared} {name : Str} {scope : Scope} {cd : Value} {news : Led} {es : List DictEntry} {n : Nat} {E E' : Value → Shared → Prop}
    (B : Below A₁ base (env :: outer) g) (FG : Fr h₀ L g m) (F' : Fr g L' s'.heap m₁) (N : News g L' s'.heap news) (hf : env.frame = some L) (hk : scope.kind = .function)
    (he : (e, exc31d t d) ∈ news) (hd : (d, dictOf es n) ∈ news) (hcode : getL "code" es = some (some (.int 270 220))) (hs : s'.gens = s.gens ∧ s'.drawn = s.drawn ∧ s'.os = s.os)
    (hE : ∀ s'', Thrown base h₀ (env :: outer) outer L m s (.ref e) s'' → E (.ref e) s'') :
    wpAny (model prog w) (A₁.deeper (envOf name scope L' a cd)) (leaving (envOf name scope L' a cd) (.ref e)) (fun _ s'' => E (.ref e) s'') E' s' := by
  have B' := B.push (name := name) (scope := scope) (a := a) (cd := cd) F' hk
  have Ne := N _ he
  have Nd := N _ hd
  refine x_leave_first (E := E') (oe := exc31d t d) (dx := d) (es := es) (n := n) B'.stack B'.frames rfl Ne.1 B'.stays (fresh_of_stays B.stays Ne.2.2) rfl rfl rfl rfl Nd.1 (fresh_of_stays B.stays Nd.2.2) (fun q => ?_) hcode fun h'' X'' near' => hE _ ⟨e, h'', s'.toks, rfl, ?_, X'', ?_, ?_⟩
  · rcases locs_cons rfl q with q | q
    · exact Nd.2.1 q
    · obtain ⟨_, o, ho, _⟩ := B.frames.mem q
      rw [Nd.2.2] at ho; cases ho
  · obtain ⟨a1, a2, a3⟩ := hs
    show (⟨h'', s'.gens, s'.drawn, s'.toks, s'.os⟩ : Shared) = ⟨h'', s.gens, s.drawn, s'.toks, s.os⟩
    rw [a1, a2, a3]
  · exact near'.ns (FG.ns.keeps F'.keep)
  · intro b o hb hnf
    have hg := FG.keep b o hb
    have hbL : b ≠ L := fun q => by rw [q, Heap.get?_none_of_le FG.above] at hb; cases hb
    have hbL' : b ≠ L' := fun q => by rw [q, Heap.get?_none_of_le F'.above] at hg; cases hg
    obtain ⟨k1, k2⟩ := near' b o (F'.keep b o hg) hnf
    refine ⟨k1, fun hbl => k2 fun q => ?_⟩
    rcases locs_cons rfl q with q | q
    · exact hbL' q
    · rcases locs_cons hf q with q | q
      · exact hbL q
      · exact hbl q
end
end SX4
/-! # X5 -/
section SX5
/-! ## A comprehension over a list of pairs whose test never holds -/
section
open LCg LCp
variable {prog : Program} {w : World} {A : Around} {E : Value → Shared → Prop} {s : Shared} {h₀ : Heap} {L : Addr} {m : Str → Option Value} {env : Env}

theorem lc_none {ct elt iter : Expr} {x x₂ : Str} {px px₂ tp : Pos} {tk : Nat} {scope : Scope} {cl : List (Str × Addr)} {pos : Pos} {Q : Value → Shared → Prop} {fl : Addr} {its : Array Value} {cz : Nat} {news : Led} (Pr : Value → Prop)
    (F : Fr h₀ L s.heap m) (N : News h₀ L s.heap news) (hh : A.handled = none) (hm : (fl, listOf its cz) ∈ news)
    (hits : ∀ v ∈ its.toList, ∃ t v₁ v₂ nt, v = .ref t ∧ (t, ({ cls := .type "tuple", data := .seq #[v₁, v₂] nt } : Obj)) ∈ news ∧ Pr v₁)
    (hiter : ∀ Q', Q' (.ref fl) s → wpAny (model prog w) A (eval iter env) Q' E s)
    (test : ∀ v₁ v₂ C oC ot I oI D h tk (E' : Value → Shared → Prop), Pr v₁ → LCg.NsObj oC ot → ot x = some v₁ → ot x₂ = some v₂ → Fr h₀ L h m → News h₀ L h ((I, oI) :: (C, oC) :: (D, LCg.lst []) :: news) →
      wpAny (model prog w) A (isTrue ct (compEnvC scope cl C env) (eval ct (compEnvC scope cl C env))) (LcT h₀ L m ((I, oI) :: (C, oC) :: (D, LCg.lst []) :: news) s false) E' { s with heap := h, toks := tk })
    (done : ∀ D h tk, Fr h₀ L h m → News h₀ L h ((D, LCg.lst []) :: news) → (∀ p ∈ news, p.1 ≠ D) → Q (.ref D) { s with heap := h, toks := tk })
    (hclos : closureFor scope env = pure cl := by rfl) (hcell : ∀ y ∈ scope.names, y.2 ≠ .cell := by decide) (hkind : scope.kind = .function := by rfl)
    (hnames : ∀ y ∈ scope.names, y.2 = .local → scope.names.lookup y.1 = some .local := by decide) (hx : scope.names.lookup x = some .local := by rfl) (hx₂ : scope.names.lookup x₂ = some .local := by rfl) (hxx : x ≠ x₂ := by decide)
    (hs : ∀ x, foldedSetIterable iter env x = pure x := by intro _; rfl) :
    wpAny (model prog w) A (eval (.ListComp elt [⟨.Tuple [.Name x px, .Name x₂ px₂] tk tp, iter, [ct], 0⟩] scope pos) env) Q E s := by
  rw [eval_ListComp]
  refine wpAny_comprehension_free (use := none) rfl hs hclos hkind hnames (hiter _ ?_)
  have hfl := N _ hm
  have hl : s.heap.IsList fl its := ⟨_, hfl.1, rfl, _, rfl⟩
  have hlt : fl < s.heap.objs.size := Heap.lt_size hfl.1
  refine wpAny_pyIter_list hl ?_
  generalize hI : s.heap.objs.size = I
  generalize hH1 : s.heap.push { cls := .type "list_iterator", data := .fields #[.ref fl, .int 0 0] } = H1
  have loc : @Eq Nat (newEnv scope (I + 1 + 1) env.globals cl env.qual none Value.none (some env) builtinsNs).locals (I + 1 + 1) := rfl
  have hltI : @LT.lt Nat _ fl I := hI ▸ hlt
  have up1 : ∀ b o, s.heap.get? b = some o → H1.get? b = some o := fun b o e => hH1 ▸ Heap.get?_push_of_some _ e
  have z1 : H1.objs.size = I + 1 := by rw [← hH1, Heap.size_push, hI]
  have st1 : H1.IsListIter I fl 0 ∧ H1.IsList fl its := ⟨⟨_, by rw [← hH1, ← hI]; exact Heap.get?_push_size _ rfl, rfl, rfl⟩, hl.at fun o e => up1 _ o e⟩
  refine wpAny_newObj_type (wpAny_newFunctionEnv hcell (by intro y hy; simp at hy) (fun h₁ hns₁ hsb₁ => ?_) hkind)
  dsimp only at hns₁ hsb₁ ⊢
  generalize hH2 : H1.push { cls := .type "list", dict := none, data := .seq ([] : List Value).toArray } = H2 at hns₁ hsb₁ ⊢
  have z2 : H2.objs.size = I + 1 + 1 := by rw [← hH2, Heap.size_push, z1]
  rw [z1]
  rw [z2] at hns₁ hsb₁ ⊢
  have hD1 : H1.get? (I + 1) = none := Heap.get?_none_of_le (by rw [z1]; exact Nat.le_refl _)
  have small : ∀ (b : Addr) o, s.heap.get? b = some o → @LT.lt Nat _ b I := fun b o e => hI ▸ Heap.lt_size e
  have up3 : ∀ b o, b ≠ I + 1 + 1 → H1.get? b = some o → h₁.get? b = some o := fun b o hb e => hsb₁.extBut b o hb (Heap.get?_push_of_some _ (hH2 ▸ Heap.get?_push_of_some _ e))
  have old : ∀ b o, s.heap.get? b = some o → h₁.get? b = some o := fun b o e => up3 b o (by have := small b o e; (show @Ne Nat _ _; (try dsimp only); omega)) (up1 b o e)
  have hacc : h₁.get? (I + 1) = some (lst []) := hsb₁.extBut _ _ (by (show @Ne Nat _ _; (try dsimp only); omega)) (Heap.get?_push_of_some _ (by rw [← hH2, ← z1]; exact Heap.get?_push_size _ rfl))
  have fresh : ∀ a : Addr, @LE.le Nat _ I a → h₀.get? a = none := fun a ha => by
    cases e : h₀.get? a with
    | none => rfl
    | some o' => exact absurd (small a o' (F.keep a o' e)) (Nat.not_lt.mpr ha)
  have hL : @LT.lt Nat _ L I := hI ▸ F.ns.lt
  have apart : ∀ p ∈ news, @LT.lt Nat _ p.1 I := fun p hp => small _ _ (N p hp).1
  have hi3 : h₁.IsListIter I fl 0 ∧ h₁.IsList fl its := ⟨st1.1.at fun o e => up3 _ o (by (show @Ne Nat _ _; (try dsimp only); omega)) e, hl.at fun o e => old _ o e⟩
  have W := Walks.list (prog := prog) (w := w) (A := A) hh I fl (Nat.ne_of_lt (hI ▸ hlt)) its
  have news_of : ∀ h h' : Heap, (∀ b o, b ≠ I → h.get? b = some o → h'.get? b = some o) → News h₀ L h ((I + 1, lst []) :: news) → News h₀ L h' ((I + 1, lst []) :: news) := fun h h' k n p hp => by
    refine ⟨k _ _ ?_ (n p hp).1, (n p hp).2⟩
    rcases List.mem_cons.mp hp with rfl | hp
    · (show @Ne Nat _ _; (try dsimp only); omega)
    · exact Nat.ne_of_lt (apart p hp)
  have fr_of : ∀ h h' : Heap, (∀ b o, b ≠ I → h.get? b = some o → h'.get? b = some o) → Fr h₀ L h m → Fr h₀ L h' m := fun h h' k f =>
    ⟨f.ns.at' fun o e => k L o (Nat.ne_of_lt hL) e, fun b o e => k b o (fun q => by rw [q, fresh I (Nat.le_refl _)] at e; cases e) (f.keep b o e), f.above⟩
  refine codeAny_compStart_list ?_ (W.self 0 _ _ _ hi3 ?_)
  all_goals
    refine kct_loop (fun k s' => ∃ h' tk i m', s' = { s with heap := h', toks := tk } ∧ i ≤ its.size ∧ k = its.size + 1 - i ∧ (h'.IsListIter I fl i ∧ h'.IsList fl its) ∧ Fr h₀ L h' m ∧ h'.Ns (I + 1 + 1) m' ∧ News h₀ L h' ((I + 1, lst []) :: news)) ?_ (its.size + 1)
      ⟨h₁, _, 0, _, rfl, Nat.zero_le _, rfl, hi3, F.keeps old, hns₁, fun p hp => ?_⟩
    · rintro k s' ⟨h', tk', i, m', rfl, hi, rfl, hst', F', hn', N'⟩
      by_cases hlt' : i < its.size
      · refine W.item i _ _ _ hlt' hst' fun v h₂ tk₂ hPv hst₂ hk₂ => ?_
        have hk₂' : ∀ b o, b ≠ I → h'.get? b = some o → h₂.get? b = some o := fun b o hb e => hk₂ b o (by simpa using hb) e
        obtain ⟨t, v₁, v₂, nt, rfl, hmt, hpr⟩ := hits v (by
          obtain ⟨_, e⟩ := Array.getElem?_eq_some_iff.mp hPv
          rw [← e]; exact Array.mem_toList_iff.mpr (Array.getElem_mem _))
        have N₂ := news_of _ _ hk₂' N'
        have F₂ := fr_of _ _ hk₂' F'
        have ht : IsTup h₂ t #[v₁, v₂] := ⟨_, (N₂ _ (.tail _ hmt)).1, rfl, nt, rfl⟩
        refine wpAny_letOwnedTupleGo_listiter hst₂.1 ?_
        refine assign_Tuple_tuple hh ht rfl rfl fun h₅ he => ?_
        have he' : ∀ b o, h₂.get? b = some o → h₅.get? b = some o := fun b o e => he b o (Nat.ne_of_lt (Heap.lt_size e)) e
        refine assignInOrder_cons (wpAny_assign_Name (wpAny_storeName_local (lookup_relabel_local hx) ((hn'.at' fun o e => hk₂' _ o (by (show @Ne Nat _ _; (try dsimp only); omega)) e).at' fun o e => he' _ o e) (fun h₆ hn₆ hs₆ => ?_) (by simp [compEnvC, relabel, hkind])))
        refine assignInOrder_cons (wpAny_assign_Name (wpAny_storeName_local (lookup_relabel_local hx₂) hn₆ (fun h₃ hn₃ hs₃ => ?_) (by simp [compEnvC, relabel, hkind])))
        refine assignInOrder_nil ?_
        have old3 : ∀ b o, b ≠ I + 1 + 1 → h₂.get? b = some o → h₃.get? b = some o := fun b o hb e => hs₃.extBut b o hb (hs₆.extBut b o hb (he' b o e))
        obtain ⟨oC, heC, hoC⟩ := ns_obj hn₃
        have hst₃ : h₃.IsListIter I fl (i + 1) ∧ h₃.IsList fl its := ⟨hst₂.1.at fun o e => old3 _ o (by (show @Ne Nat _ _; (try dsimp only); omega)) e, hst₂.2.at fun o e => old3 _ o (by have := hltI; (show @Ne Nat _ _; (try dsimp only); omega)) e⟩
        obtain ⟨oI, heI, hcI, hdI⟩ := hst₃.1
        have F₃ : Fr h₀ L h₃ m := ((F₂.keeps he').change hs₆ (by (show @Ne Nat _ _; (try dsimp only); omega)) (fresh _ (by (show @LE.le Nat _ _ _; (try dsimp only); omega)))).change hs₃ (by (show @Ne Nat _ _; (try dsimp only); omega)) (fresh _ (by (show @LE.le Nat _ _ _; (try dsimp only); omega)))
        have N₃ : News h₀ L h₃ ((I, oI) :: (I + 1 + 1, oC) :: (I + 1, lst []) :: news) := fun p hp => by
          rcases List.mem_cons.mp hp with rfl | hp
          · exact ⟨heI, (by (show @Ne Nat _ _; (try dsimp only); omega)), fresh _ (Nat.le_refl _)⟩
          · rcases List.mem_cons.mp hp with rfl | hp
            · exact ⟨heC, (by (show @Ne Nat _ _; (try dsimp only); omega)), fresh _ (by (show @LE.le Nat _ _ _; (try dsimp only); omega))⟩
            · have z := N₂ p hp
              refine ⟨old3 _ _ ?_ z.1, z.2⟩
              rcases List.mem_cons.mp hp with rfl | hp
              · (show @Ne Nat _ _; (try dsimp only); omega)
              · have := apart p hp; (show @Ne Nat _ _; (try dsimp only); omega)
        refine wpAny_mono (test v₁ v₂ (I + 1 + 1) oC _ I oI (I + 1) h₃ _ _ hpr hoC (by simp [hxx]) (by simp) F₃ N₃) (fun ok s₄ h₄ => ?_) fun _ _ e => e
        obtain ⟨rfl, h₄, tk₄, rfl, F₄, N₄⟩ := h₄
        rw [if_neg (by decide)]
        have zI := (N₄ _ (.head _)).1
        have zC := (N₄ _ (.tail _ (.head _))).1
        have N₄' : News h₀ L h₄ ((I + 1, lst []) :: news) := fun p hp => N₄ p (.tail _ (.tail _ hp))
        exact ⟨its.size + 1 - (i + 1), by omega, h₄, tk₄, i + 1, _, rfl, hlt', rfl, ⟨⟨oI, zI, hcI, hdI⟩, ⟨_, (N₄' _ (.tail _ hm)).1, rfl, _, rfl⟩⟩, F₄, hoC.ns zC, N₄'⟩
      · obtain rfl : i = its.size := Nat.le_antisymm hi (Nat.not_lt.mp hlt')
        refine W.done _ _ _ hst' fun h₂ tk₂ hk₂ => ?_
        have hk₂' : ∀ b o, b ≠ I → h'.get? b = some o → h₂.get? b = some o := fun b o hb e => hk₂ b o (by simpa using hb) e
        have N₂ := news_of _ _ hk₂' N'
        have F₂ := fr_of _ _ hk₂' F'
        refine ⟨m', hn'.at' fun o e => hk₂' _ o (by (show @Ne Nat _ _; (try dsimp only); omega)) e, fun h'' hs'' => done (I + 1) h'' tk₂ (F₂.change hs'' (by (show @Ne Nat _ _; (try dsimp only); omega)) (fresh _ (by (show @LE.le Nat _ _ _; (try dsimp only); omega)))) (fun p hp => ?_) (fun p hp => by have := apart p hp; (show @Ne Nat _ _; (try dsimp only); omega))⟩
        refine ⟨hs''.extBut _ _ ?_ (N₂ p hp).1, (N₂ p hp).2⟩
        rcases List.mem_cons.mp hp with rfl | hp
        · (show @Ne Nat _ _; (try dsimp only); omega)
        · have := apart p hp; (show @Ne Nat _ _; (try dsimp only); omega)
    · rcases List.mem_cons.mp hp with rfl | hp
      · exact ⟨hacc, (by (show @Ne Nat _ _; (try dsimp only); omega)), fresh _ (by (show @LE.le Nat _ _ _; (try dsimp only); omega))⟩
      · exact ⟨old _ _ (N p hp).1, (N p hp).2⟩
end
end SX5
/-! # X6 -/
section SX6
/-! ## a field of the caught exception read -/
theorem ga31 (P : Params) : findIn (hd.heap_39 P) (.ref 31) "__getattribute__" = some (some (.builtin "BaseException.__getattribute__")) := by kernel_rfl
theorem gat31 (P : Params) : findIn (hd.heap_39 P) (.ref 31) "__getattr__" = some none := by kernel_rfl
theorem code31 (P : Params) : findIn (hd.heap_39 P) (.ref 31) "code" = some none := by kernel_rfl
theorem hasDict31 (P : Params) : hasDictIn (hd.heap_39 P) 31 = true := by kernel_rfl

section
variable {w : World} {A : Around} {E : Value → Shared → Prop} {s : Shared}
theorem check_ga31 {M : Model} {P : Params} {e : Addr} {oe : Obj} {nameV : Value} {Q : Unit → Shared → Prop} (X : (hd.heap_39 P).In s.heap) (he : s.heap.get? e = some oe) (hc : oe.cls = .ref 31) (hq : Q () s) :
    wpAny M A (checkBuiltinCall "BaseException.__getattribute__" ⟨[.ref e, nameV], []⟩) Q E s := by
  obtain ⟨dd, k0, k1, k2, k3, k5, hC⟩ := cls31 X
  have hk : builtinKind "BaseException.__getattribute__" = some .slot := by decide +kernel
  have hsplit : splitId "BaseException.__getattribute__" = some ("BaseException", "__getattribute__") := by decide +kernel
  have hcB : (Value.ref 31 :: [Value.type "Exception", .type "BaseException", .type "object"]).contains (.type "BaseException") = true := by decide
  have ha := PySem.F.args_bexc_ga (.ref e) nameV
  simp only [checkBuiltinCall, hk, hsplit]
  refine wpAny_bind ?_
  · unfold isInstance
    repeat (first | (with_reducible refine wpAny_loadPart_at he ?_; rw [hc]) | (with_reducible refine wpAny_isSubtype_exc hC ?_; rw [hcB]) | wp_step)
    exact hq
theorem code_read {prog : Program} {e dx : Addr} {oe od : Obj} {v : Value} {expr : Bool} {Q : Value → Shared → Prop} (X : (hd.heap_39 w.params).In s.heap) (he : s.heap.get? e = some oe) (hc : oe.cls = .ref 31) (hno : notCls oe = true) (hdx : oe.dict = some dx)
    (hD : s.heap.get? dx = some od) (hl : lookIn "code" od = some (some v)) (hv : handedIn v = true) (h : Q v { s with toks := s.toks + 1 }) :
    wpAny (model prog w) A (getAttr (.ref e) "code" expr) Q E s := by
  have I : W.InstAt s.heap e oe 31 (some od) := ⟨he, hc, hno, by rw [hdx]; exact hD⟩
  have L0 := I.type (M := model prog w)
  have L1 := looks_findIn (M := model prog w) X (ga31 w.params)
  have L2 : Looks (model prog w) s.heap (hookBefore (.ref 31)) none := looks_hook X (gat31 w.params)
  have L3 := looks_find (M := model prog w) X I (findObj_own (hasDict31 w.params) (code31 w.params) (by rfl) hl)
  obtain ⟨hp, g, d, t, os⟩ := s
  unfold getAttr getAttrBy
  refine wpAny_bind (wpAny_mkText (wpAny_holding (wpAny_bind (L0.at (wpAny_bind (L1.at ?_))))))
  show wpAny _ _ (getAttrByItsOwn _ _ _ _ _ _) _ _ _
  unfold getAttrByItsOwn
  refine wpAny_bind (L2.at (wpAny_bind (wpAny_attempt (wpAny_holding ?_))))
  have hx0 : (expr && onTheHeap (Value.builtin "BaseException.__getattribute__")) = false := by cases expr <;> rfl
  unfold callGetattribute
  rw [hx0, if_neg (by decide)]
  unfold boundAndCalled
  rw [PySem.F.attrBase_Exception.ga.bind (.ref e)]
  refine wpAny_bind (wpAny_pure ?_)
  dsimp only [List.nil_append, List.cons_append]
  refine wpAny_call (codeAny_call_builtin PySem.F.attrBase_Exception.ga.plain PySem.F.entry_bexc_ga (check_ga31 (s := ⟨hp, g, d, t + 1, os⟩) X he hc ?_))
  refine wpAny_bind (wpAny_pure (wpAny_bind (wpAny_pure (wpAny_bind (L0.at (wpAny_bind (L3.at ?_)))))))
  refine wpAny_pure ?_
  show wpAny _ _ (handedOut v) _ _ _
  rw [handedOut_of hv]; exact wpAny_pure h
end
end SX6
/-! # X7 -/
section SX7
/-! ## The catch: except H3Error as e: return e.code -/
theorem h3name (P : Params) : nsIn (hd.heap_39 P) mainGlobals "H3Error" = some (some (.ref 31)) := by kernel_rfl
theorem loc_in {env : Env} {outer : List Env} {L : Addr} (hf : env.frame = some L) : L ∈ locsOf (env :: outer) := by
  unfold locsOf
  rw [List.filterMap_cons, hf]
  exact .head _
/-- what stands after a catch, beside the frame's own dict -/
def Left (L : Addr) (h h' : Heap) : Prop := ∀ b o, b ≠ L → h.get? b = some o → (∀ vs, o.data ≠ .fields vs) → ∃ sl, h'.get? b = some { o with slots := sl }
theorem Left.near {l : List Env} {L : Addr} {h h' : Heap} (x : Near l h h') : Left L h h' := fun b o _ e hn => (x b o e hn).1
theorem Left.trans {L : Addr} {h₁ h₂ h₃ : Heap} (x : Left L h₁ h₂) (y : Left L h₂ h₃) : Left L h₁ h₃ := fun b o hb e hn => by
  obtain ⟨sl, e₁⟩ := x b o hb e hn
  obtain ⟨sl', e₂⟩ := y b _ hb e₁ hn
  exact ⟨sl', e₂⟩
theorem Left.but {L : Addr} {h h' : Heap} (x : Heap.SameBut L h h') : Left L h h' := fun b o hb e _ => ⟨o.slots, x.extBut b o hb e⟩

theorem x_caught {w : World} {prog : Program} {A : Around} {E : Value → Shared → Prop} {s : Shared} {base : Heap} {name : Str} {scope : Scope} {cd : Value} {a L e : Addr} {outer : List Env} {m mg mb : Str → Option Value} {Q : Flow → Shared → Prop} {mean : ExcName → Option Value} {np p1 p2 p3 pos : Pos}
    (hfr : A.frames = some (envOf name scope L a cd :: outer)) (X : Flies base (envOf name scope L a cd :: outer) e .none s.heap) (hn : s.heap.Ns L m) (hab : base.objs.size ≤ L)
    (KX : (hd.heap_39 w.params).In base) (T : Top topProg LS mean mg mb base)
    (done : ∀ h' tk, base.StaysIn h' → Left L s.heap h' → Q (.ret (.int 270 220)) { s with heap := h', toks := tk })
    (hk : scope.kind = .function := by rfl) (hlo : (envOf name scope L a cd).kindOf "e" = some .local := by rfl) (hx : (envOf name scope L a cd).kindOf "H3Error" = some .globalImplicit := by rfl) :
    wpAny (model prog w) A (noteFrame (.ref e) (envOf name scope L a cd)) (fun _ s₂ => wpAny (model prog w) A (setFlight (.ref e) none) (fun _ s₃ =>
      wpAny (model prog w) A (handleBy (.ref e) (envOf name scope L a cd) [.ExceptHandler (some (.Name "H3Error" np)) (some "e") [.Return (some (.Attribute (.Name "e" p1) "code" p2)) p3] pos]) Q E s₃) E s₂) E s := by
  have hp : ((envOf name scope L a cd).scope.kind == .class || ((envOf name scope L a cd).scope.kind == .module && (envOf name scope L a cd).locals != (envOf name scope L a cd).globals)) = false := by
    show (scope.kind == .class || (scope.kind == .module && L != mainGlobals)) = false; rw [hk]; rfl
  have hL0 : base.get? L = none := Heap.get?_none_of_le hab
  refine x_note_next hfr rfl X fun h₁ X₁ n₁ => ?_
  refine x_flight X₁ fun h₂ X₂ n₂ => ?_
  dsimp only
  have n02 := n₁.trans n₂
  have F₂ : Fr base L h₂ m := ⟨n02.ns hn, X₂.stays, hab⟩
  refine wpAny_handleBy_cons (codeAny_handlers_test (name_K F₂ KX (topRead_of T) (h3name w.params) ?_ hk hx)) (by intro q; cases q)
  obtain ⟨dd, k0, k1, k2, k3, k5, hC⟩ := cls31 (KX.keeps X₂.stays)
  obtain ⟨oe, vs, dx, es, n, x⟩ := X₂.exc
  refine wpAny_excMatches_sub_self hC x.at' x.cls (by decide) ?_
  dsimp only
  refine codeAny_handlers_suite_as ?_
  refine x_flight X₂ fun h₃ X₃ n₃ => ?_
  have F₃ : Fr base L h₃ m := ⟨n₃.ns F₂.ns, X₃.stays, hab⟩
  refine wpAny_storeName_local hlo F₃.ns (fun h₄ hn₄ hs₄ => ?_) hp
  have F₄ : Fr base L h₄ (fun y => if y = "e" then some (.ref e) else m y) := ⟨hn₄, fun b o q => hs₄.extBut b o (fun z => by have z : b = L := z; rw [z, hL0] at q; cases q) (F₃.keep b o q), hab⟩
  obtain ⟨oe', vs', dx', es', n', x'⟩ := X₃.exc
  have hLl : L ∈ locsOf (envOf name scope L a cd :: outer) := loc_in rfl
  have heL : e ≠ L := fun q => by
    obtain ⟨oL, es₉, ep₉, ho, hd', _⟩ := F₃.ns
    rw [← q, x'.at'] at ho
    cases ho
    rw [x'.data] at hd'
    cases hd'
  have hdL : dx' ≠ L := fun q => x'.dloc (q ▸ hLl)
  have he₄ := hs₄.extBut _ _ heL x'.at'
  have hd₄ := hs₄.extBut _ _ hdL x'.dat
  have hno : notCls oe' = true := by
    obtain ⟨c₉, d₉, dt₉, sl₉⟩ := oe'
    have := x'.data
    dsimp only at this
    subst this
    rfl
  refine wpAny_execs_cons (wpAny_Return_some (Attribute_name (wpAny_Name (wpAny_loadName_local hk hlo F₄.ns (if_pos rfl) ?_))))
  refine code_read (KX.keeps F₄.keep) he₄ x'.cls hno x'.dict hd₄ (v := .int 270 220) (by rw [lookIn_dict]; exact x'.code) rfl ?_
  dsimp only
  refine wpAny_nameGoes hlo F₄.ns hp fun h₅ m₅ hn₅ hs₅ => ?_
  refine done h₅ _ (fun b o q => hs₅.extBut b o (fun z => by have z : b = L := z; rw [z, hL0] at q; cases q) (F₄.keep b o q)) ?_
  exact ((Left.near (n02.trans n₃)).trans (Left.but hs₄)).trans (Left.but hs₅)
end SX7
/-! # X10 -/
section SX10
/-! ## for over range(n), with an invariant -/
def TurnE (h₀ : Heap) (L I : Addr) (oI : Obj) (Jn : (Str → Option Value) → Led → Prop) (s₁ : Shared) (Qr : Value → Shared → Prop) (f : Flow) (s₂ : Shared) : Prop :=
  match f with
  | .ret v => Qr v s₂
  | .brk => False
  | _ => ∃ h' tk m' news', s₂ = { s₁ with heap := h', toks := tk } ∧ Fr h₀ L h' m' ∧ News h₀ L h' ((I, oI) :: news') ∧ (∀ p ∈ news', p.1 ≠ I) ∧ Jn m' news'

theorem loop_range {prog : Program} {w : World} {A : Around} {E : Value → Shared → Prop} {s : Shared} {env : Env} {h₀ : Heap} {x : Str} {body : List Stmt} {Q : Flow → Shared → Prop} {r : Addr} {b : Int} {t u v : Tok} (n : Nat) {m : Str → Option Value} {news : Led} (J : Nat → (Str → Option Value) → Led → Prop)
    (hr : IsRange s.heap r 0 b 1 t u v) (hb : b = (n : Int)) (hn : n ≤ 100) (hh : A.handled = none) (F : Fr h₀ env.locals s.heap m) (N : News h₀ env.locals s.heap news) (h0 : J 0 m news)
    (step : ∀ (i : Nat) tv m₁ news₁ I oI h tk, i < n → J i m₁ news₁ → (∀ p ∈ news₁, p.1 ≠ I) → Fr h₀ env.locals h (fun y => if y = x then some (.int i tv) else m₁ y) → News h₀ env.locals h ((I, oI) :: news₁) →
      wpAny (model prog w) A (execs body env) (TurnE h₀ env.locals I oI (J (i + 1)) { s with heap := h, toks := tk } (fun v s' => Q (.ret v) s')) E { s with heap := h, toks := tk })
    (fin : ∀ h tk m' news', Fr h₀ env.locals h m' → News h₀ env.locals h news' → J n m' news' → Q .next { s with heap := h, toks := tk }) :
    wpAny (model prog w) A (pyIter (.ref r)) (fun it s₂ => LoopAtV prog w A h₀ env x body Q E it s₂) E s := by
  subst hb
  have hsm : Builtin.Range.small 0 (n : Int) 1 = true := PySem.small_one (by decide) (by decide) (by omega) (by omega)
  have hsz : Builtin.Range.rangeSize 0 (n : Int) 1 = (n : Int) := by
    rw [PySem.rangeSize_one]
    split <;> omega
  refine wpAny_pyIter_range hr hsm ?_
  generalize hI : s.heap.objs.size = I
  refine ⟨I, [I], [I], n, _, _, m, news, J, rfl, LCg.range_walks hh 0 n, fun q => ?_, fun c hc => ?_, fun p hp q => ?_, ?_, F.keeps fun _ _ e => Heap.get?_push_of_some _ e, N.grown fun _ _ e => Heap.get?_push_of_some _ e, h0, ?_, ?_⟩
  · exact absurd F.ns.lt (by rw [List.mem_singleton.mp q, hI]; exact Nat.lt_irrefl _)
  · rw [List.mem_singleton.mp hc, ← hI]; exact next_is_new F
  · have z := Heap.lt_size (N p hp).1
    rw [List.mem_singleton.mp q, hI] at z
    exact Nat.lt_irrefl _ z
  · show IsRangeIter _ _ _ _ _
    rw [hsz, ← hI]; simpa using Heap.get?_push_size _ rfl
  · rintro i v₁ m₁ news₁ s₁ own ⟨h, tk, rfl⟩ hi ⟨tv, rfl⟩ hJ hoff hown hget hall hst F' N'
    have hIn : h₀.get? I = none := by rw [← hI]; exact next_is_new F
    have hmem : ∀ o, h.get? I = some o → (I, o) ∈ own := fun o e => hall I (List.mem_singleton.mpr rfl) hIn o e
    obtain ⟨oI, hst'⟩ : ∃ oI, h.get? I = some oI := ⟨_, hst⟩
    have hIo := hmem _ hst'
    have hoff' : ∀ p ∈ news₁, p.1 ≠ I := fun p hp q => hoff p hp (List.mem_singleton.mpr q)
    have hown' : ∀ p ∈ own, p = (I, oI) := fun p hp => by
      have e1 := List.mem_singleton.mp (hown p hp)
      have e2 := hget p hp
      obtain ⟨pa, po⟩ := p
      dsimp only at e1 e2
      subst e1
      rw [hst'] at e2
      cases e2; rfl
    have key := step i tv m₁ news₁ I oI h tk hi hJ hoff' (by simpa using F') (fun p hp => by
      rcases List.mem_cons.mp hp with rfl | hp
      · exact N' _ (List.mem_append_left _ hIo)
      · exact N' _ (List.mem_append_right _ hp))
    refine wpAny_mono key (fun f s₂ h₂ => ?_) fun _ _ e => e
    have fromE : (∃ h' tk m' news', s₂ = { s with heap := h', toks := tk } ∧ Fr h₀ env.locals h' m' ∧ News h₀ env.locals h' ((I, oI) :: news') ∧ (∀ p ∈ news', p.1 ≠ I) ∧ J (i + 1) m' news') → LoopStepU h₀ env.locals [I] own (J (i + 1)) { s with heap := h, toks := tk } .next s₂ := by
      rintro ⟨h', tk', m', news', e, F₂, N₂, o₂, J₂⟩
      refine ⟨rfl, h', tk', m', news', e, F₂, fun p hp => ?_, fun p hp q => o₂ p hp (List.mem_singleton.mp q), J₂⟩
      rcases List.mem_append.mp hp with hp | hp
      · rw [hown' p hp]; exact N₂ _ (.head _)
      · exact N₂ _ (.tail _ hp)
    cases f with
    | ret v => exact .ret h₂
    | brk => exact h₂.elim
    | next => exact .next (fromE h₂)
    | cont => exact .cont (fromE h₂)
  · intro h' tk m' news' F' N' _ hJ
    exact fin h' tk m' news' F' N' hJ
/-- a frame's map in which the names zs may have changed -/
def over (f m : Str → Option Value) : List Str → Str → Option Value
  | [], y => m y
  | z :: r, y => if y = z then f z else over f m r y
theorem over_eq {f m : Str → Option Value} : ∀ {zs : List Str}, (∀ y, y ∉ zs → f y = m y) → over f m zs = f
  | [], h => funext fun y => (h y (fun q => nomatch q)).symm
  | z :: r, h => funext fun y => by
    show (if y = z then f z else over f m r y) = f y
    by_cases e : y = z
    · rw [if_pos e, e]
    · rw [if_neg e]
      have hr : over f (fun y => if y = z then f y else m y) r = f := over_eq fun y hy => by
        by_cases e2 : y = z
        · rw [if_pos e2]
        · rw [if_neg e2]; exact h y fun q => by rcases List.mem_cons.mp q with q | q; exact e2 q; exact hy q
      have : ∀ (l : List Str), over f m l y = over f (fun y => if y = z then f y else m y) l y := fun l => by
        induction l with
        | nil => show m y = (if y = z then f y else m y); rw [if_neg e]
        | cons a l ih => show (if y = a then f a else over f m l y) = (if y = a then f a else over f _ l y); rw [ih]
      rw [this r, hr]
def TurnO (h₀ : Heap) (L I : Addr) (oI : Obj) (m : Str → Option Value) (zs : List Str) (Jn : Led → Prop) (s₁ : Shared) (Qr : Value → Shared → Prop) (f : Flow) (s₂ : Shared) : Prop :=
  match f with
  | .ret v => Qr v s₂
  | .brk => False
  | _ => ∃ h' tk m' news', s₂ = { s₁ with heap := h', toks := tk } ∧ Fr h₀ L h' m' ∧ News h₀ L h' ((I, oI) :: news') ∧ (∀ p ∈ news', p.1 ≠ I) ∧ (∀ y, y ∉ zs → m' y = m y) ∧ Jn news'

theorem loop_over {prog : Program} {w : World} {A : Around} {E : Value → Shared → Prop} {s : Shared} {env : Env} {h₀ : Heap} {x : Str} {body : List Stmt} {Q : Flow → Shared → Prop} {r : Addr} {b : Int} {t u v : Tok} (n : Nat) (zs : List Str) {m : Str → Option Value} {news : Led} (J : Nat → Led → Prop)
    (hr : IsRange s.heap r 0 b 1 t u v) (hb : b = (n : Int)) (hn : n ≤ 100) (hh : A.handled = none) (hx : x ∈ zs) (F : Fr h₀ env.locals s.heap m) (N : News h₀ env.locals s.heap news) (h0 : J 0 news)
    (step : ∀ (i : Nat) tv f news₁ I oI h tk, i < n → J i news₁ → (∀ p ∈ news₁, p.1 ≠ I) → Fr h₀ env.locals h (fun y => if y = x then some (.int i tv) else over f m zs y) → News h₀ env.locals h ((I, oI) :: news₁) →
      wpAny (model prog w) A (execs body env) (TurnO h₀ env.locals I oI m zs (J (i + 1)) { s with heap := h, toks := tk } (fun v s' => Q (.ret v) s')) E { s with heap := h, toks := tk })
    (fin : ∀ h tk f news', Fr h₀ env.locals h (over f m zs) → News h₀ env.locals h news' → J n news' → Q .next { s with heap := h, toks := tk }) :
    wpAny (model prog w) A (pyIter (.ref r)) (fun it s₂ => LoopAtV prog w A h₀ env x body Q E it s₂) E s := by
  refine loop_range n (fun i m₁ nw => (∀ y, y ∉ zs → m₁ y = m y) ∧ J i nw) hr hb hn hh F N ⟨fun _ _ => rfl, h0⟩ ?_ ?_
  · intro i tv m₁ news₁ I oI h tk hi hJ ho F' N'
    have e := over_eq hJ.1
    refine wpAny_mono (step i tv m₁ news₁ I oI h tk hi hJ.2 ho (by rw [e]; exact F') N') (fun f s₂ h₂ => ?_) fun _ _ e => e
    cases f with
    | ret v => exact h₂
    | brk => exact h₂.elim
    | next => obtain ⟨h', tk', m', n', a1, a2, a3, a4, a5, a6⟩ := h₂; exact ⟨h', tk', m', n', a1, a2, a3, a4, a5, a6⟩
    | cont => obtain ⟨h', tk', m', n', a1, a2, a3, a4, a5, a6⟩ := h₂; exact ⟨h', tk', m', n', a1, a2, a3, a4, a5, a6⟩
  · intro h tk m' news' F' N' hJ
    exact fin h tk m' news' (by rw [over_eq hJ.1]; exact F') N' hJ.2
theorem rangeK {prog : Program} {w : World} {A : Around} {E : Value → Shared → Prop} {s : Shared} {h₀ : Heap} {L : Addr} {m : Str → Option Value} {news : Led} {n : Int} {t₀ : Tok} {Q : Value → Shared → Prop} (F : Fr h₀ L s.heap m) (N : News h₀ L s.heap news)
    (h : ∀ r h' t u v tk, IsRange h' r 0 n 1 t u v → Fr h₀ L h' m → News h₀ L h' news → Q (.ref r) { s with heap := h', toks := tk }) : wpAny (model prog w) A (call (.type "range") [.int n t₀]) Q E s :=
  PySem.call_range_1 (h _ _ _ _ _ _ (Heap.get?_push_size _ rfl) (F.push _) (N.grown fun _ _ e => Heap.get?_push_of_some _ e))
end SX10
/-! # B1 -/
section SB1
set_option maxHeartbeats 4000000 in
theorem is_name_spec (w : World) (x : Int) (tk : Tok) (news : Led) (h0 : 0 ≤ x) (h1 : x < 256) :
    Calls w 1 50 [.int x tk] news (fun v news' => v = .bool (isName x) ∧ news' = news) := by
  k_with_none
  k_with "my_enter" => ((refine wpAny_call ?_; k_dflt cell_enter))
  k_with "my_bools" => ((refine Bool.eq_iff_iff.mpr ?_; simp only [isLet, isName, decide_eq_true_eq, Bool.or_eq_true, Bool.and_eq_true, Bool.not_eq_true', Bool.not_eq_true, decide_eq_false_iff_not, Bool.or_eq_false_iff, Bool.and_eq_false_iff, Bool.not_eq_false'] at *; first | omega | (simp_all; done) | (simp_all; omega)))
  k_with "my_use" => (((case zzk1 => k_asm); (case zzk2 => k_asm); (case zzk3 => k_asm); (case zzk4 => k_asm); (case zzk5 => k_asm); (case zzkK => first | exact rfl | assumption); (case zzkd => ktr_room); (case zzku => ktr_units)))
  k_with "compareOp In int bytes" => ((refine in_bytes_int (by assumption) (by assumption) ?_))
  k_with "compareOp NotIn int bytes" => ((refine notIn_bytes_int (by assumption) (by assumption) ?_))
  k_with "eval ListComp" => (k_extra "my_lc")
  k_with "LcT" => ((refine ⟨?_, _, _, rfl, by assumption, by assumption⟩; walk_at "my_bools"))
  k_with "call ref" => ((k_here; (refine' Calls.use (is_letter_spec _ _ _ _) ?zzk1 ?zzk2 ?zzk3 ?zzk4 ?zzk5 ?zzkK ?zzkd ?zzku ?_); walk_at "my_use"; (intro v9 n9 h9 tk9 hP F9 N9); (obtain ⟨rfl, rfl⟩ := hP); (try dsimp only); (try k_fold)))
  unfold Calls
  k_fill
  intro dp un gd cn cs a ccd cl outer A₀ base h₀ L m s Q E mean mg mb B F X N T hk hdp hun hret
  walk_at "my_enter"
  k_steps
  all_goals (refine hret _ _ _ _ ⟨congrArg Value.bool ?_, rfl⟩ (by assumption) (by assumption); (try rw [nameSigns_eq]); walk_at "my_bools")
end SB1
/-! # M1 -/
section SM1
theorem meta_Exc : typeOf (.type "Exception") = pure (.type "type") := by kernel_rfl
set_option maxHeartbeats 4000000 in
theorem malformed_spec (w : World) (x : Str) (tx : Tok) (news : Led) (hx : x.length ≤ 100) :
    CallsX w 3 43 [.str x tx] news (fun _ _ => False) True := by
  k_with_none
  k_with "my_enter" => ((refine wpAny_call ?_; k_dflt (refine' code_def ?zzk1 ?zzk2 ?zzk3 ?zzk4 ?zzk5 ?zzkA ?zzkF ?zzkK ?zzk6 ?zzk7 ?zzk8 ?zzk9 ?zzkB ?_ ?zzc2 ?zzc3 ?zzc4 ?zzc5; (case zzkA => exact rfl); (case zzkF => exact rfl); (case zzkK => first | exact rfl | assumption); (case zzk1 => k_asm); (case zzk2 => k_asm); (case zzk3 => k_asm); (case zzk4 => k_asm); (case zzk5 => k_asm); (case zzk6 => k_is); (case zzk7 => k_is); (case zzk8 => ktr_room); (case zzk9 => exact BindsTo.of_eq rfl); (case zzc5 => decide); (case zzkB => exact locs rfl); (case zzc2 => exact rfl); (case zzc3 => exact rfl); (case zzc4 => exact rfl); k_whole; intro g' L' h' FG' F' N' B' X' T'; (try dsimp only); (try k_fold))))
  k_with "exec Raise some none" => ((k_here; k_dflt (refine x_raise (by rfl) ?_)))
  k_with "my_enter" => ((refine wpAny_call ?_; k_dflt (refine' code_def ?zzk1 ?zzk2 ?zzk3 ?zzk4 ?zzk5 ?zzkA ?zzkF ?zzkK ?zzk6 ?zzk7 ?zzk8 ?zzk9 ?zzkB ?_ ?zzc2 ?zzc3 ?zzc4 ?zzc5; (case zzkA => exact rfl); (case zzkF => exact rfl); (case zzkK => first | exact rfl | assumption); (case zzk1 => k_asm); (case zzk2 => k_asm); (case zzk3 => k_asm); (case zzk4 => k_asm); (case zzk5 => k_asm); (case zzk6 => k_is); (case zzk7 => k_is); (case zzk8 => ktr_room); (case zzk9 => exact BindsTo.of_eq rfl); (case zzc5 => decide); (case zzkB => exact locs rfl); (case zzc2 => exact rfl); (case zzc3 => exact rfl); (case zzc4 => exact rfl); k_whole; intro g' L' h' FG' F' N' B' X' T'; (try dsimp only); (try k_fold))))
  k_with "getMethod type:Exception" => ((k_here; refine' method_type ?zzF ?zzX ?zzm (by decide +kernel) ?zze ?zzh ?_; (case zzF => k_asm); (case zzX => k_asm); (case zzm => exact meta_Exc); (case zze => k_dflt k_is); (case zzh => k_handed)))
  k_with "call builtin:Exception.__init__" => ((k_here; k_dflt (refine' exc_init ?zzk1 ?zzk2 ?zzk3 ?zzk4 ?_; (case zzk1 => k_asm); (case zzk2 => k_asm); (case zzk3 => k_asm); (case zzk4 => (refine List.forall_mem_cons.mpr ⟨?_, ?_⟩ <;> first | assumption | (exact Ne.symm (by assumption))))); intro t9 h9 F9 N9 d5 d6; (try dsimp only)))
  k_with "setAttr ref" => ((k_here; k_dflt (refine' set_first ?zzk1 ?zzk2 ?zzk3 ?zzk4 (by kernel_rfl) ?_; (case zzk1 => k_asm); (case zzk2 => k_asm); (case zzk3 => k_asm); (case zzk4 => (refine List.forall_mem_cons.mpr ⟨?_, List.forall_mem_cons.mpr ⟨?_, ?_⟩⟩ <;> first | assumption | (exact Ne.symm (by assumption))))); intro d9 h9 tk9 F9 N9 d7 d8; (try dsimp only)))
  k_with "setAttr ref" => ((k_here; k_dflt (refine' set_next ?zzk1 ?zzk2 ?zzk3 ?zzk4 ?zzk5 (by kernel_rfl) (by kernel_rfl) (by kernel_rfl) ?_; (case zzk1 => k_asm); (case zzk2 => k_asm); (case zzk3 => k_asm); (case zzk4 => assumption); (case zzk5 => assumption)); intro h9 tk9 F9 N9; (try dsimp only)))
  unfold CallsX
  k_fill
  intro dp un gd cn cs a ccd cl outer A₀ base h₀ L m s Q E mean mg mb B F X N T hk hdp hun hret hthr
  walk_at "my_enter"
  k_steps
  refine' x_make ?k1 ?k2 ?k3 ?_
  (case k1 => k_asm)
  (case k2 => k_asm)
  (case k3 => k_asm)
  intro e8 t8 h8 F8 N8 d1 d2 d3 d4
  walk_at "my_enter"
  k_steps
  refine ⟨e8, _, _, rfl, Frag.In.keeps (by assumption) (Fr.keep (by assumption)), (News.get (by assumption) (.head _)), rfl, rfl, rfl, ?_⟩
  k_unfold
  refine x_first (by assumption) (by assumption) (by assumption) (by assumption) rfl rfl (.head _) (.tail _ (.head _)) (by kernel_rfl) ⟨rfl, rfl, rfl⟩ fun s'' T'' => hthr _ _ trivial T''
end SM1
/-! # X8 -/
section SX8
/-! ## _law_heard -/
section
variable {prog : Program} {w : World} {A₀ A : Around} {s : Shared} {base h₀ : Heap} {outer : List Env} {L : Addr} {m mg mb : Str → Option Value} {env : Env} {news : Led} {K : Frag} {p : Program} {loose : List Str} {mean : ExcName → Option Value}
theorem code_defH {R : Result → Shared → Prop} {name qual : Str} {params : Arguments} {body : List Stmt} {scope : Scope} {dV kV doc pm cdv ct oc : Value} {an od : Option Addr} {osl : Array (Option Value)} {f : Addr} {args : Args} {binds : List (Str × Value)}
    (B : Below A₀ base outer h₀) (F : Fr h₀ L s.heap m) (X₀ : K.In h₀) (N : News h₀ L s.heap news) (T : Top p loose mean mg mb h₀) (hA : A.frames = some (env :: outer)) (hf : env.frame = some L) (hke : env.scope.kind = .function)
    (ho : K.lookup f = some ⟨oc, od, .func (fnOf name qual params body scope dV kV doc pm an cdv ct), osl⟩) (hcd : codeIn K cdv qual = true) (hroom : A.depth < recursionLimit)
    (hbind : BindsTo s (fnOf name qual params body scope dV kV doc pm an cdv ct) args binds) (hloc : ∀ y ∈ binds, scope.names.lookup y.1 = some .local)
    (h : ∀ g L' h₁, (∀ b o, s.heap.get? b = some o → b ∉ news.map (·.1) → g.get? b = some o) → Fr h₀ L g m → Fr g L' h₁ (fun y => binds.reverse.lookup y) → News g L' h₁ news → Below A base (env :: outer) g → K.In g → Top p loose mean mg mb g →
      wpAny (model prog w) (A.deeper (envOf qual scope L' f cdv)) (execs body (envOf qual scope L' f cdv))
        (fun fl s' => R (.ok (.ret (match fl with | .ret v => v | _ => .none))) s')
        (fun e s' => wpAny (model prog w) (A.deeper (envOf qual scope L' f cdv)) (leaving (envOf qual scope L' f cdv) e) (fun _ s'' => R (.error e) s'') (fun e' s'' => R (.error e') s'') s')
        { s with heap := h₁, toks := s.toks + binds.length })
    (hco : scope.isCoroutine = false) (hgen : scope.isGenerator = false) (hk : scope.kind = .function)
    (hcell : ∀ x ∈ scope.names, x.2 ≠ .cell) : codeAny (model prog w) A (.call (.ref f) args) R s := by
  obtain ⟨FG, BG, st, lv⟩ := groundX (R := R) B F N hA hf hke
  refine codeAny_call_def (fd := fnX name qual params body scope [] dV kV doc pm an cdv ct) (body := body) (binds := binds) hroom ((X₀.keeps F.keep) _ _ ho) rfl ((T.nolimit).keeps F.keep) (codeRec_of (X₀.keeps F.keep) hcd) rfl hbind hcell hloc (fun h₁ hns hk₁ => ?_) hco hgen hk
  exact h _ s.heap.objs.size h₁ (fun b o e hb => hideAll_get _ e hb) FG ⟨hns, fun b o e => hk₁ b o (of_hideAll _ e), Nat.le_of_eq (hideAll_size _ _)⟩
    (fun p hp => ⟨hk₁ _ _ (N p hp).1, Nat.ne_of_lt (Heap.lt_size (N p hp).1), hideAll_none _ (List.mem_map_of_mem hp)⟩) BG (X₀.keeps st) (T.keeps st)
end

/-- a contract with throws for an object of the ledger whose code is c' -/
def CallsC (w : World) (D : Nat) (c' : Addr) (qual : Str) (f : Addr) (vs : List Value) (news : Led) (Post : Value → Led → Prop) (Bad : Prop) : Prop :=
  ∀ (dp un : Nat) (gd : Option (List Code)) (cn : Str) (cs : Scope) (a : Addr) (ccd : Value) (cl : List (Str × Addr)) (outer : List Env)
    (A₀ : Around) (base h₀ : Heap) (L : Addr) (m : Str → Option Value) (s : Shared) (Q E : Value → Shared → Prop) (mean : ExcName → Option Value) (mg mb : Str → Option Value),
    Below A₀ base outer h₀ → Fr h₀ L s.heap m → (hd.heap_39 w.params).In h₀ → News h₀ L s.heap news → Top topProg LS mean mg mb h₀ →
    cs.kind = .function → dp + D < recursionLimit → un + 8 * D + 100 < cLine → h₀.CodeRec (.ref c') qual →
    (∀ v news' h' tk', Post v news' → Fr h₀ L h' m → News h₀ L h' news' → Q v { s with heap := h', toks := tk' }) →
    (∀ e s', Bad → Thrown base h₀ (envX cn cs L a ccd cl :: outer) outer L m s e s' → E e s') →
    wpAny (model PySem.Challenge.rw_pf0251_01.row.prog w) (ktrTop dp un gd cn cs L a ccd cl outer) (call (.ref f) vs) Q E s

section
variable {M : Model} {A : Around} {E : Value → Shared → Prop} {s : Shared} {env : Env} {pos : Pos} {f : Addr} {first : List Value} {Q : Value → Shared → Prop}
def IsFun (f : Addr) (h : Heap) : Prop := ∃ fo fd, h.get? f = some fo ∧ fo.data = .func fd
theorem keeps_F (h : Heap) (X : IsFun f h) : ∃ k, (k = Keeper.frame ∨ k = Keeper.machine ∨ k = Keeper.boundFrame) ∧ Looks M h (keeperOf (.ref f)) k := by
  obtain ⟨fo, fd, e, hd⟩ := X
  refine ⟨.frame, .inl rfl, ?_⟩
  unfold keeperOf
  refine (Looks.ld (part := none) e).andThen ?_
  rw [hd]
  exact .now
theorem callWith_F {e : Expr} {rest : List Expr} (h : wpAny M A (spliced (backTo pos (starEach (e :: rest) env))) (fun vs s₁ => IsFun f s₁.heap ∧ wpAny M A (call (.ref f) (first ++ vs)) Q E s₁) E s)
    (he : starEach (e :: rest) env = (false, eval e env) :: starEach rest env := by rfl) (hplain : (backTo pos (starEach rest env)).any (·.1) = false := by rfl) :
    wpAny M A (callWith pos (.ref f) first (backTo pos (starEach (e :: rest) env)) []) Q E s := by
  rw [he] at h ⊢
  exact callWith_of (by show ((false || (backTo pos (starEach rest env)).any (·.1)) || false) = false; rw [hplain]; rfl) keeps_F (PySem.Calls.evalArgs_plain h)
end
theorem codeRec_keeps {h h' : Heap} {c : Addr} {q : Str} (x : h.CodeRec (.ref c) q) (k : ∀ o, h.get? c = some o → h'.get? c = some o) : h'.CodeRec (.ref c) q := by
  obtain ⟨c₂, oc, vs, t, e2, hoc, r⟩ := x
  cases e2
  exact ⟨c, oc, vs, t, rfl, k _ hoc, r⟩

set_option maxHeartbeats 4000000 in
theorem heard_spec (w : World) (D : Nat) (c' : Addr) (qual : Str) (f fl : Addr) (core : Led) (PostA : Value → Led → Prop) (Bad : Prop) (fo : Obj) (fd : FuncData) (hfm : (f, fo) ∈ core) (hfd : fo.data = .func fd) (C : CallsC w D c' qual f [.ref fl] core PostA Bad) :
    ∀ (dp un : Nat) (gd : Option (List Code)) (cn : Str) (cs : Scope) (a : Addr) (ccd : Value) (cl : List (Str × Addr))
    (A₀ : Around) (base h₀ : Heap) (L : Addr) (m : Str → Option Value) (s : Shared) (Q E : Value → Shared → Prop) (mean : ExcName → Option Value) (mg mb : Str → Option Value) (extra : Led),
    Below A₀ base [] h₀ → Fr h₀ L s.heap m → (hd.heap_39 w.params).In h₀ → News h₀ L s.heap core → (∀ p ∈ extra, s.heap.get? p.1 = some p.2 ∧ p.1 ≠ L ∧ h₀.get? p.1 = none) → Top topProg LS mean mg mb h₀ →
    cs.kind = .function → dp + (D + 2) < recursionLimit → un + 8 * (D + 2) + 100 < cLine →
    (∀ p ∈ extra, ∀ q ∈ core, q.1 ≠ p.1) → s.heap.CodeRec (.ref c') qual → (∀ q ∈ core, q.1 ≠ c') →
    (∀ v nw h' tk', PostA v nw → Fr h₀ L h' m → News h₀ L h' (nw ++ extra) → Q v { s with heap := h', toks := tk' }) →
    (Bad → ∀ h' tk', Fr h₀ L h' m → News h₀ L h' extra → Q (.int 270 220) { s with heap := h', toks := tk' }) →
    wpAny (model PySem.Challenge.rw_pf0251_01.row.prog w) (ktrTop dp un gd cn cs L a ccd cl []) (call (.ref 162) [.ref f, .ref fl]) Q E s := by
  k_with_none
  k_with "my_enterH" => ((refine wpAny_call ?_; k_dflt (refine' code_defH ?zzk1 ?zzk2 ?zzk3 ?zzk4 ?zzk5 ?zzkA ?zzkF ?zzkK ?zzk6 ?zzk7 ?zzk8 ?zzk9 ?zzkB ?_ ?zzc2 ?zzc3 ?zzc4 ?zzc5; (case zzkA => exact rfl); (case zzkF => exact rfl); (case zzkK => first | exact rfl | assumption); (case zzk1 => k_asm); (case zzk2 => k_asm); (case zzk3 => k_asm); (case zzk4 => k_asm); (case zzk5 => k_asm); (case zzk6 => k_is); (case zzk7 => k_is); (case zzk8 => ktr_room); (case zzk9 => exact BindsTo.of_eq rfl); (case zzc5 => decide); (case zzkB => exact locs rfl); (case zzc2 => exact rfl); (case zzc3 => exact rfl); (case zzc4 => exact rfl); k_whole)))
  k_with "callWith ref" => ((k_here; refine callWith_F ?_))
  k_with "And" => (((with_reducible show IsFun _ _ ∧ _); refine ⟨⟨_, _, News.get (by k_asm) (by assumption), by assumption⟩, ?_⟩; (try dsimp only [List.nil_append, List.cons_append])))
  k_with "call ref" => ((refine stop ?_))
  k_fill
  intro dp un gd cn cs a ccd cl A₀ base h₀ L m s Q E mean mg mb extra B F X N hNx T hk hdp hun hoff hcr hcc ret1 ret2
  walk_at "my_enterH"
  intro g L' h' hgg FG F' N' B' X' T'
  have xg : ∀ p ∈ extra, g.get? p.1 = some p.2 := fun p hp => hgg _ _ (hNx p hp).1 fun q => by
    obtain ⟨r, hr, e⟩ := List.mem_map.mp q
    exact hoff p hp r hr e
  have cg : g.CodeRec (.ref c') qual := codeRec_keeps hcr fun o e => hgg _ _ e fun q => by
    obtain ⟨r, hr, e⟩ := List.mem_map.mp q
    exact hcc r hr e
  have g0 : (hideAll g [L]).get? L = none := hideAll_none _ (.head _)
  have gx : ∀ b o, b ≠ L → g.get? b = some o → (hideAll g [L]).get? b = some o := fun b o hb e => hideAll_get _ e fun q => hb (List.mem_singleton.mp q)
  have hL0 : h₀.get? L = none := Heap.get?_none_of_le F.above
  have gh : ∀ b o, h₀.get? b = some o → (hideAll g [L]).get? b = some o := fun b o e => gx b o (fun q => by rw [q, hL0] at e; cases e) (FG.keep b o e)
  have B2 := B'
  generalize hb2 : hideAll g [L] = base₂ at g0 gx gh
  have st2 : base₂.StaysIn g := fun b o e => by rw [← hb2] at e; exact of_hideAll _ e
  have sz2 : base₂.objs.size ≤ L' := by rw [← hb2, hideAll_size]; exact F'.above
  obtain ⟨b1, b2, b3, ⟨b4, b5, b6, b7, b8⟩, b9⟩ := B2
  have B₂ : Below (ktrTop dp un gd cn cs L a ccd cl []) base₂ [envX cn cs L a ccd cl] g := ⟨rfl, st2, b3, ⟨L, b5, rfl, g0, (by have e := b6; cases e; exact b8.1), (by have e := b6; cases e; exact b8.2)⟩, trivial⟩
  clear B' b1 b2 b9
  refine wpAny_execs_cons (wpAny_Try_except ?_)
  k_steps
  all_goals try unfold Stop
  · exact ⟨fo, fd, (N' _ hfm).1, hfd⟩
  refine C _ _ _ _ _ _ _ _ _ (ktrTop dp un gd cn cs L a ccd cl []) base₂ g L' _ _ _ _ _ _ _ B₂ F' X' N' T' rfl ?_ ?_ cg ?_ ?_
  · dsimp only [ktrTop]; omega
  · dsimp only [ktrTop]; omega
  · intro v nw h'' tk' hP F9 N9
    have hns := FG.ns.keeps F9.keep
    refine ret1 v nw _ _ hP ⟨hns, fun b o e => F9.keep b o (FG.keep b o e), F.above⟩ fun p hp => ?_
    rcases List.mem_append.mp hp with hp | hp
    · refine ⟨(N9 p hp).1, fun q => ?_, ?_⟩
      · obtain ⟨oL, es, ep, hL, r⟩ := FG.ns
        have := (N9 p hp).2.2
        rw [q, hL] at this; cases this
      · cases q : h₀.get? p.1 with
        | none => rfl
        | some o => have := (N9 p hp).2.2; rw [FG.keep _ _ q] at this; cases this
    · exact ⟨F9.keep _ _ (xg p hp), (hNx p hp).2⟩
  · intro e s' hb T9
    obtain ⟨ea, h'', tk', rfl, rfl, Fl, hNs, near⟩ := T9
    have KX₂ : (hd.heap_39 w.params).In base₂ := X.keeps gh
    have T₂ : Top topProg LS mean mg mb base₂ := T.keeps gh
    refine x_caught (base := base₂) (outer := [envX cn cs L a ccd cl]) rfl Fl hNs sz2 KX₂ T₂ ?_
    intro h3 tk3 st lf
    have hLL : L ≠ L' := fun q => by
      have := F'.above
      obtain ⟨oL, es, ep, hL, r⟩ := FG.ns
      exact absurd (Heap.lt_size hL) (Nat.not_lt.mpr (q ▸ this))
    refine ret2 hb _ _ ⟨?_, fun b o e => st b o (gh b o e), F.above⟩ fun p hp => ⟨st _ _ (gx _ _ (hNx p hp).2.1 (xg p hp)), (hNx p hp).2⟩
    obtain ⟨oL, es, ep, hL, hd1, r⟩ := near.ns FG.ns
    obtain ⟨sl, e3⟩ := lf L oL hLL hL (fun vs q => by rw [hd1] at q; cases q)
    exact ⟨_, es, ep, e3, hd1, r⟩
end SX8
/-! # B2 -/
section SB2
set_option maxHeartbeats 4000000 in
theorem is_token_spec (w : World) (b : Array UInt8) (tb : Tok) (ks : List Int) (news : Led) (hb : KBw.bInts b = ks) (hz : ks.length ≤ 16) :
    Calls w 3 62 [.bytes b tb] news (fun v news' => v = .bool (tokOk ks) ∧ news' = news) := by
  k_with_none
  k_with "my_enter" => ((refine wpAny_call ?_; k_dflt cell_enter))
  k_with "my_bools" => (first | rfl | (simp only [*, Bool.not_true, Bool.not_false, Bool.and_true, Bool.true_and, Bool.and_false, Bool.false_and, Bool.or_true, Bool.or_false, Bool.true_or, Bool.false_or]; done) | (refine Bool.eq_iff_iff.mpr ?_; simp only [isLet, isName, decide_eq_true_eq, Bool.or_eq_true, Bool.and_eq_true, Bool.not_eq_true', Bool.not_eq_true, decide_eq_false_iff_not, Bool.or_eq_false_iff, Bool.and_eq_false_iff, Bool.not_eq_false'] at *; first | omega | (simp_all; done) | (simp_all; omega)))
  k_with "my_use" => (((case zzk1 => k_asm); (case zzk2 => k_asm); (case zzk3 => k_asm); (case zzk4 => k_asm); (case zzk5 => k_asm); (case zzkK => first | exact rfl | assumption); (case zzkd => ktr_room); (case zzku => ktr_units)))
  k_with "compareOp In int bytes" => ((refine in_bytes_int (by assumption) (by assumption) ?_))
  k_with "compareOp NotIn int bytes" => ((refine notIn_bytes_int (by assumption) (by assumption) ?_))
  k_with "eval ListComp" => (k_dflt (k_extra "my_lc"))
  k_with "LcT" => ((refine ⟨?_, _, _, rfl, by assumption, by assumption⟩; walk_at "my_bools"))
  k_with "call ref" => ((k_here; (refine' Calls.use (is_letter_spec _ _ _ _) ?zzk1 ?zzk2 ?zzk3 ?zzk4 ?zzk5 ?zzkK ?zzkd ?zzku ?_); walk_at "my_use"; (intro v9 n9 h9 tk9 hP F9 N9); (obtain ⟨e8, e9⟩ := hP); (subst e8); (subst e9); (try dsimp only); (try k_fold)))
  k_with "call ref" => ((k_here; (refine' Calls.use (is_name_spec _ _ _ _ (by assumption) (by assumption)) ?zzk1 ?zzk2 ?zzk3 ?zzk4 ?zzk5 ?zzkK ?zzkd ?zzku ?_); walk_at "my_use"; (intro v9 n9 h9 tk9 hP F9 N9); (obtain ⟨e8, e9⟩ := hP); (subst e8); (subst e9); (try dsimp only); (try k_fold)))
  k_with "compareOp Eq ref ref" => ((k_here; k_dflt (refine' eq_nil ?zzk0 ?zzk1 ?zzk2 ?zzk3 ?zzk4 ?zzk5 ?_; (case zzk0 => k_asm); (case zzk1 => k_asm); (case zzk2 => k_mem); (case zzk3 => k_mem); (case zzk4 => assumption); (case zzk5 => ktr_units)); (try dsimp only)))
  k_with "compareOp NotEq ref ref" => ((k_here; k_dflt (refine' ne_nil ?zzk0 ?zzk1 ?zzk2 ?zzk3 ?zzk4 ?zzk5 ?_; (case zzk0 => k_asm); (case zzk1 => k_asm); (case zzk2 => k_mem); (case zzk3 => k_mem); (case zzk4 => assumption); (case zzk5 => ktr_units)); (try dsimp only)))
  unfold Calls
  k_fill
  intro dp un gd cn cs a ccd cl outer A₀ base h₀ L m s Q E mean mg mb B F X N T hk hdp hun hret
  have hzb : b.size ≤ 16 := by rw [← KBw.ints_length, hb]; exact hz
  k_with "my_lc" => (
    refine' lc_bytes (b := b) (tb := tb) (fun x => !isLet x && !isName x) ?lF ?lN ?lh ?lz ?li ?lt ?_
    (case lF => k_asm)
    (case lN => k_asm)
    (case lh => rfl)
    (case lz => (rw [sizeLine_eq]; omega))
    (case li => (intro Q' hQ'; walk1; exact hQ'))
    (case lt => (intro k t I oI C oC D ys m₂ h tk E' h0 h1 hC hx F' N'; dsimp only; k_steps))
    intro D vs h tk F' N' off hI
    dsimp only)
  walk_at "my_enter"
  k_steps
  · exact hret _ news _ _ ⟨congrArg Value.bool (by rw [hb]; exact tok_some (by assumption)), rfl⟩ (by assumption) (cb_drop (by assumption) fun _ hp => .tail _ (.tail _ hp))
  · exact hret _ news _ _ ⟨congrArg Value.bool (tok_none (by assumption)), rfl⟩ (by assumption) (by assumption)
end SB2
/-! # B3 -/
section SB3
set_option maxHeartbeats 4000000 in
theorem is_scheme_spec (w : World) (b : Array UInt8) (tb : Tok) (ks : List Int) (news : Led) (hb : KBw.bInts b = ks) (hz : ks.length ≤ 16) :
    Calls w 3 67 [.bytes b tb] news (fun v news' => v = .bool (schOk ks) ∧ news' = news) := by
  k_with_none
  k_with "my_enter" => ((refine wpAny_call ?_; k_dflt cell_enter))
  k_with "my_bools" => (first | rfl | (simp only [*, Bool.not_true, Bool.not_false, Bool.and_true, Bool.true_and, Bool.and_false, Bool.false_and, Bool.or_true, Bool.or_false, Bool.true_or, Bool.false_or]; done) | (refine Bool.eq_iff_iff.mpr ?_; simp only [isLet, isName, isSch, nameSigns_eq, schemeSigns_eq, decide_eq_true_eq, Bool.or_eq_true, Bool.and_eq_true, Bool.not_eq_true', Bool.not_eq_true, decide_eq_false_iff_not, Bool.or_eq_false_iff, Bool.and_eq_false_iff, Bool.not_eq_false'] at *; first | omega | (simp_all; done) | (simp_all; omega)))
  k_with "my_use" => (((case zzk1 => k_asm); (case zzk2 => k_asm); (case zzk3 => k_asm); (case zzk4 => k_asm); (case zzk5 => k_asm); (case zzkK => first | exact rfl | assumption); (case zzkd => ktr_room); (case zzku => ktr_units)))
  k_with "compareOp In int bytes" => ((refine in_bytes_int (by assumption) (by assumption) ?_))
  k_with "compareOp NotIn int bytes" => ((refine notIn_bytes_int (by assumption) (by assumption) ?_))
  k_with "eval ListComp" => (k_dflt (k_extra "my_lc"))
  k_with "LcT" => ((refine ⟨?_, _, _, rfl, by assumption, by assumption⟩; walk_at "my_bools"))
  k_with "call ref" => ((k_here; (refine' Calls.use (is_letter_spec _ _ _ _) ?zzk1 ?zzk2 ?zzk3 ?zzk4 ?zzk5 ?zzkK ?zzkd ?zzku ?_); walk_at "my_use"; (intro v9 n9 h9 tk9 hP F9 N9); (obtain ⟨e8, e9⟩ := hP); (subst e8); (subst e9); (try dsimp only); (try k_fold)))
  k_with "call ref" => ((k_here; (refine' Calls.use (is_name_spec _ _ _ _ (by assumption) (by assumption)) ?zzk1 ?zzk2 ?zzk3 ?zzk4 ?zzk5 ?zzkK ?zzkd ?zzku ?_); walk_at "my_use"; (intro v9 n9 h9 tk9 hP F9 N9); (obtain ⟨e8, e9⟩ := hP); (subst e8); (subst e9); (try dsimp only); (try k_fold)))
  k_with "compareOp Eq ref ref" => ((k_here; k_dflt (refine' eq_nil ?zzk0 ?zzk1 ?zzk2 ?zzk3 ?zzk4 ?zzk5 ?_; (case zzk0 => k_asm); (case zzk1 => k_asm); (case zzk2 => k_mem); (case zzk3 => k_mem); (case zzk4 => assumption); (case zzk5 => ktr_units)); (try dsimp only)))
  k_with "compareOp NotEq ref ref" => ((k_here; k_dflt (refine' ne_nil ?zzk0 ?zzk1 ?zzk2 ?zzk3 ?zzk4 ?zzk5 ?_; (case zzk0 => k_asm); (case zzk1 => k_asm); (case zzk2 => k_mem); (case zzk3 => k_mem); (case zzk4 => assumption); (case zzk5 => ktr_units)); (try dsimp only)))
  k_with "exec Assign cons ListComp" => (k_dflt (k_extra "my_lcA"))
  unfold Calls
  k_fill
  intro dp un gd cn cs a ccd cl outer A₀ base h₀ L m s Q E mean mg mb B F X N T hk hdp hun hret
  have hzb : b.size ≤ 16 := by rw [← KBw.ints_length, hb]; exact hz
  k_with "my_lcA" => (
    refine' lcA_bytes (b := b) (tb := tb) (fun x => !isSch x) ?lF ?lN ?le ?lh ?lz ?li ?lt ?_
    (case lF => k_asm)
    (case lN => k_asm)
    (case le => rfl)
    (case lh => rfl)
    (case lz => (rw [sizeLine_eq]; omega))
    (case li => (intro Q' hQ'; walk1; exact hQ'))
    (case lt => (intro k t I oI C oC D ys m₂ h tk E' h0 h1 hC hx F' N'; dsimp only; k_steps))
    intro D vs h tk F' N' off hI
    dsimp only)
  walk_at "my_enter"
  k_steps
  · exact hret _ news _ _ ⟨congrArg Value.bool (by rw [hb]; exact sch_yes (by assumption) (sch_head hb (by assumption))), rfl⟩ (by assumption) (cb_drop (by assumption) fun _ hp => .tail _ (.tail _ hp))
  · refine hret _ news _ _ ⟨congrArg Value.bool ?_, rfl⟩ (by assumption) (cb_drop (by assumption) fun _ hp => .tail _ hp)
    rw [sch_no (sch_head (c := false) hb (by assumption))]
    assumption
  · exact hret _ news _ _ ⟨congrArg Value.bool (sch_none (by assumption)), rfl⟩ (by assumption) (cb_drop (by assumption) fun _ hp => .tail _ hp)
end SB3
/-! # M2 -/
section SM2
set_option maxHeartbeats 4000000 in
theorem check_value_spec (w : World) (b : Array UInt8) (tb : Tok) (ks : List Int) (news : Led) (hb : KBw.bInts b = ks) (hz : ks.length ≤ 16) :
    CallsX w 5 77 [.bytes b tb] news (fun v news' => v = .none ∧ news' = news ∧ valOk ks = true) (valOk ks = false) := by
  k_with_none
  k_with "my_enter" => ((refine wpAny_call ?_; k_dflt (refine' code_def ?zzk1 ?zzk2 ?zzk3 ?zzk4 ?zzk5 ?zzkA ?zzkF ?zzkK ?zzk6 ?zzk7 ?zzk8 ?zzk9 ?zzkB ?_ ?zzc2 ?zzc3 ?zzc4 ?zzc5; (case zzkA => exact rfl); (case zzkF => exact rfl); (case zzkK => first | exact rfl | assumption); (case zzk1 => k_asm); (case zzk2 => k_asm); (case zzk3 => k_asm); (case zzk4 => k_asm); (case zzk5 => k_asm); (case zzk6 => k_is); (case zzk7 => k_is); (case zzk8 => ktr_room); (case zzk9 => exact BindsTo.of_eq rfl); (case zzc5 => decide); (case zzkB => exact locs rfl); (case zzc2 => exact rfl); (case zzc3 => exact rfl); (case zzc4 => exact rfl); k_whole; intro g' L' h' FG' F' N' B' X' T'; (try dsimp only); (try k_fold))))
  k_with "my_bools" => (first | rfl | (simp only [*, Bool.not_true, Bool.not_false, Bool.and_true, Bool.true_and, Bool.and_false, Bool.false_and, Bool.or_true, Bool.or_false, Bool.true_or, Bool.false_or]; done) | (refine Bool.eq_iff_iff.mpr ?_; simp only [isLet, isName, isSch, nameSigns_eq, schemeSigns_eq, decide_eq_true_eq, Bool.or_eq_true, Bool.and_eq_true, Bool.not_eq_true', Bool.not_eq_true, okOct, decide_eq_false_iff_not, Bool.or_eq_false_iff, Bool.and_eq_false_iff, Bool.not_eq_false'] at *; first | omega | (simp_all; done) | (simp_all; omega)))
  k_with "my_use" => (((case zzk1 => k_asm); (case zzk2 => k_asm); (case zzk3 => k_asm); (case zzk4 => k_asm); (case zzk5 => k_asm); (case zzkK => first | exact rfl | assumption); (case zzkd => ktr_room); (case zzku => ktr_units)))
  k_with "compareOp In int bytes" => ((refine in_bytes_int (by assumption) (by assumption) ?_))
  k_with "compareOp NotIn int bytes" => ((refine notIn_bytes_int (by assumption) (by assumption) ?_))
  k_with "eval ListComp" => (k_dflt (k_extra "my_lc"))
  k_with "LcT" => ((refine ⟨?_, _, _, rfl, by assumption, by assumption⟩; walk_at "my_bools"))
  k_with "call ref" => ((k_here; (refine' Calls.use (is_letter_spec _ _ _ _) ?zzk1 ?zzk2 ?zzk3 ?zzk4 ?zzk5 ?zzkK ?zzkd ?zzku ?_); walk_at "my_use"; (intro v9 n9 h9 tk9 hP F9 N9); (obtain ⟨e8, e9⟩ := hP); (subst e8); (subst e9); (try dsimp only); (try k_fold)))
  k_with "call ref" => ((k_here; (refine' Calls.use (is_name_spec _ _ _ _ (by assumption) (by assumption)) ?zzk1 ?zzk2 ?zzk3 ?zzk4 ?zzk5 ?zzkK ?zzkd ?zzku ?_); walk_at "my_use"; (intro v9 n9 h9 tk9 hP F9 N9); (obtain ⟨e8, e9⟩ := hP); (subst e8); (subst e9); (try dsimp only); (try k_fold)))
  k_with "compareOp Eq ref ref" => ((k_here; k_dflt (refine' eq_nil ?zzk0 ?zzk1 ?zzk2 ?zzk3 ?zzk4 ?zzk5 ?_; (case zzk0 => k_asm); (case zzk1 => k_asm); (case zzk2 => k_mem); (case zzk3 => k_mem); (case zzk4 => assumption); (case zzk5 => ktr_units)); (try dsimp only)))
  k_with "compareOp NotEq ref ref" => ((k_here; k_dflt (refine' ne_nil ?zzk0 ?zzk1 ?zzk2 ?zzk3 ?zzk4 ?zzk5 ?_; (case zzk0 => k_asm); (case zzk1 => k_asm); (case zzk2 => k_mem); (case zzk3 => k_mem); (case zzk4 => assumption); (case zzk5 => ktr_units)); (try dsimp only)))
  k_with "exec Assign cons ListComp" => (k_dflt (k_extra "my_lcA"))
  k_with "my_thr" => ((intro e9 s9 hb9 T9; (try dsimp only at T9 ⊢); (try k_unfold); refine x_up (by assumption) (by assumption) rfl rfl rfl ⟨rfl, rfl, rfl⟩ T9 (fun s8 T8 => ?_)))
  k_with "call ref" => ((k_here; k_dflt ((refine' CallsX.use (malformed_spec _ _ _ _ (by decide +kernel)) ?zzk1 ?zzk2 ?zzk3 ?zzk4 ?zzk5 ?zzkK ?zzkd ?zzku ?zzkr ?_); walk_at "my_use"; (case zzkr => (intro v9 n9 h9 tk9 hP; exact hP.elim)); walk_at "my_thr")))
  k_with "my_bare" => (first | exact BytesAre.nil | (refine' BytesAre.cons ?zzba ?zzbb; (case zzba => exact rfl); (case zzbb => walk_at "my_bare")))
  k_with "compareOp In bytes ref" => ((k_here; k_dflt ((refine' in_tuple_bytes ?zzk1 ?zzk2 ?zzk3 ?_); (case zzk1 => first | exact News.isTup (by k_asm) (by k_mem) | exact tupK (by k_in) (by k_is)); (case zzk2 => walk_at "my_bare"); (case zzk3 => first | assumption | rfl)); (try dsimp only)))
  k_with "compareOp NotIn bytes ref" => ((k_here; k_dflt ((refine' notIn_tuple_bytes ?zzk1 ?zzk2 ?zzk3 ?_); (case zzk1 => first | exact News.isTup (by k_asm) (by k_mem) | exact tupK (by k_in) (by k_is)); (case zzk2 => walk_at "my_bare"); (case zzk3 => first | assumption | rfl)); (try dsimp only)))
  k_with "compareOp Eq bytes bytes" => (k_dflt ((refine' eq_bytesI ?zzk1 ?zzk2 ?_); (case zzk1 => first | assumption | rfl); (case zzk2 => first | assumption | rfl)))
  k_with "compareOp NotEq bytes bytes" => (k_dflt ((refine' ne_bytesI ?zzk1 ?zzk2 ?_); (case zzk1 => first | assumption | rfl); (case zzk2 => first | assumption | rfl)))
  unfold CallsX
  k_fill
  intro dp un gd cn cs a ccd cl outer A₀ base h₀ L m s Q E mean mg mb B F X N T hk hdp hun hret hthr
  have hzb : b.size ≤ 16 := by rw [← KBw.ints_length, hb]; exact hz
  k_with "my_lc" => (
    refine' lc_bytes (b := b) (tb := tb) (fun x => !okOct x) ?lF ?lN ?lh ?lz ?li ?lt ?_
    (case lF => k_asm)
    (case lN => k_asm)
    (case lh => rfl)
    (case lz => (rw [sizeLine_eq]; omega))
    (case li => (intro Q' hQ'; walk1; exact hQ'))
    (case lt => (intro k t I oI C oC D ys m₂ h tk E' h0 h1 hC hx F' N'; dsimp only; k_steps))
    intro D vs h tk F' N' off hI
    dsimp only)
  walk_at "my_enter"
  k_steps
  · exact hthr _ _ (val_bad2 (by assumption)) (by assumption)
  · exact hthr _ _ (val_bad3 (by assumption)) (by assumption)
  · exact hret _ news _ _ ⟨rfl, rfl, val_good hb (by assumption) (by assumption) (by assumption)⟩ (by assumption) (cb_drop (by assumption) fun _ hp => .tail _ (.tail _ (.tail _ (.tail _ hp))))
  · exact hthr _ _ (val_bad1 hb (by assumption)) (by assumption)
end SM2
/-! # M3 -/
section SM3
set_option maxHeartbeats 4000000 in
theorem check_name_spec (w : World) (b : Array UInt8) (tb : Tok) (ks : List Int) (news : Led) (hb : KBw.bInts b = ks) (hz : ks.length ≤ 16) :
    CallsX w 5 72 [.bytes b tb] news (fun v news' => v = .none ∧ news' = news ∧ nameOk ks = true) (nameOk ks = false) := by
  k_with_none
  k_with "my_enter" => ((refine wpAny_call ?_; k_dflt (refine' code_def ?zzk1 ?zzk2 ?zzk3 ?zzk4 ?zzk5 ?zzkA ?zzkF ?zzkK ?zzk6 ?zzk7 ?zzk8 ?zzk9 ?zzkB ?_ ?zzc2 ?zzc3 ?zzc4 ?zzc5; (case zzkA => exact rfl); (case zzkF => exact rfl); (case zzkK => first | exact rfl | assumption); (case zzk1 => k_asm); (case zzk2 => k_asm); (case zzk3 => k_asm); (case zzk4 => k_asm); (case zzk5 => k_asm); (case zzk6 => k_is); (case zzk7 => k_is); (case zzk8 => ktr_room); (case zzk9 => exact BindsTo.of_eq rfl); (case zzc5 => decide); (case zzkB => exact locs rfl); (case zzc2 => exact rfl); (case zzc3 => exact rfl); (case zzc4 => exact rfl); k_whole; intro g' L' h' FG' F' N' B' X' T'; (try dsimp only); (try k_fold))))
  k_with "my_bools" => (first | rfl | (simp only [*, Bool.not_true, Bool.not_false, Bool.and_true, Bool.true_and, Bool.and_false, Bool.false_and, Bool.or_true, Bool.or_false, Bool.true_or, Bool.false_or]; done) | (refine Bool.eq_iff_iff.mpr ?_; simp only [isLet, isName, isSch, nameSigns_eq, schemeSigns_eq, decide_eq_true_eq, Bool.or_eq_true, Bool.and_eq_true, Bool.not_eq_true', Bool.not_eq_true, okOct, decide_eq_false_iff_not, Bool.or_eq_false_iff, Bool.and_eq_false_iff, Bool.not_eq_false'] at *; first | omega | (simp_all; done) | (simp_all; omega)))
  k_with "my_use" => (((case zzk1 => k_asm); (case zzk2 => k_asm); (case zzk3 => k_asm); (case zzk4 => k_asm); (case zzk5 => k_asm); (case zzkK => first | exact rfl | assumption); (case zzkd => ktr_room); (case zzku => ktr_units)))
  k_with "compareOp In int bytes" => ((refine in_bytes_int (by assumption) (by assumption) ?_))
  k_with "compareOp NotIn int bytes" => ((refine notIn_bytes_int (by assumption) (by assumption) ?_))
  k_with "eval ListComp" => (k_dflt (k_extra "my_lc"))
  k_with "LcT" => ((refine ⟨?_, _, _, rfl, by assumption, by assumption⟩; walk_at "my_bools"))
  k_with "call ref" => ((k_here; (refine' Calls.use (is_letter_spec _ _ _ _) ?zzk1 ?zzk2 ?zzk3 ?zzk4 ?zzk5 ?zzkK ?zzkd ?zzku ?_); walk_at "my_use"; (intro v9 n9 h9 tk9 hP F9 N9); (obtain ⟨e8, e9⟩ := hP); (subst e8); (subst e9); (try dsimp only); (try k_fold)))
  k_with "call ref" => ((k_here; (refine' Calls.use (is_name_spec _ _ _ _ (by assumption) (by assumption)) ?zzk1 ?zzk2 ?zzk3 ?zzk4 ?zzk5 ?zzkK ?zzkd ?zzku ?_); walk_at "my_use"; (intro v9 n9 h9 tk9 hP F9 N9); (obtain ⟨e8, e9⟩ := hP); (subst e8); (subst e9); (try dsimp only); (try k_fold)))
  k_with "compareOp Eq ref ref" => ((k_here; k_dflt (refine' eq_nil ?zzk0 ?zzk1 ?zzk2 ?zzk3 ?zzk4 ?zzk5 ?_; (case zzk0 => k_asm); (case zzk1 => k_asm); (case zzk2 => k_mem); (case zzk3 => k_mem); (case zzk4 => assumption); (case zzk5 => ktr_units)); (try dsimp only)))
  k_with "compareOp NotEq ref ref" => ((k_here; k_dflt (refine' ne_nil ?zzk0 ?zzk1 ?zzk2 ?zzk3 ?zzk4 ?zzk5 ?_; (case zzk0 => k_asm); (case zzk1 => k_asm); (case zzk2 => k_mem); (case zzk3 => k_mem); (case zzk4 => assumption); (case zzk5 => ktr_units)); (try dsimp only)))
  k_with "exec Assign cons ListComp" => (k_dflt (k_extra "my_lcA"))
  k_with "my_thr" => ((intro e9 s9 hb9 T9; (try dsimp only at T9 ⊢); (try k_unfold); refine x_up (by assumption) (by assumption) rfl rfl rfl ⟨rfl, rfl, rfl⟩ T9 (fun s8 T8 => ?_)))
  k_with "call ref" => ((k_here; k_dflt ((refine' CallsX.use (malformed_spec _ _ _ _ (by decide +kernel)) ?zzk1 ?zzk2 ?zzk3 ?zzk4 ?zzk5 ?zzkK ?zzkd ?zzku ?zzkr ?_); walk_at "my_use"; (case zzkr => (intro v9 n9 h9 tk9 hP; exact hP.elim)); walk_at "my_thr")))
  k_with "my_bare" => (first | exact BytesAre.nil | (refine' BytesAre.cons ?zzba ?zzbb; (case zzba => exact rfl); (case zzbb => walk_at "my_bare")))
  k_with "compareOp In bytes ref" => ((k_here; k_dflt ((refine' in_tuple_bytes ?zzk1 ?zzk2 ?zzk3 ?_); (case zzk1 => first | exact News.isTup (by k_asm) (by k_mem) | exact tupK (by k_in) (by k_is)); (case zzk2 => walk_at "my_bare"); (case zzk3 => first | assumption | rfl)); (try dsimp only)))
  k_with "compareOp NotIn bytes ref" => ((k_here; k_dflt ((refine' notIn_tuple_bytes ?zzk1 ?zzk2 ?zzk3 ?_); (case zzk1 => first | exact News.isTup (by k_asm) (by k_mem) | exact tupK (by k_in) (by k_is)); (case zzk2 => walk_at "my_bare"); (case zzk3 => first | assumption | rfl)); (try dsimp only)))
  k_with "compareOp Eq bytes bytes" => (k_dflt ((refine' eq_bytesI ?zzk1 ?zzk2 ?_); (case zzk1 => first | assumption | rfl); (case zzk2 => first | assumption | rfl)))
  k_with "compareOp NotEq bytes bytes" => (k_dflt ((refine' ne_bytesI ?zzk1 ?zzk2 ?_); (case zzk1 => first | assumption | rfl); (case zzk2 => first | assumption | rfl)))
  unfold CallsX
  k_fill
  intro dp un gd cn cs a ccd cl outer A₀ base h₀ L m s Q E mean mg mb B F X N T hk hdp hun hret hthr
  have hzb : b.size ≤ 16 := by rw [← KBw.ints_length, hb]; exact hz
  k_with "my_lc" => (
    refine' lc_bytes (fun x => !isName x) ?lF ?lN ?lh ?lz ?li ?lt ?_
    (case li => (intro Q' hQ'; walk1; exact hQ'))
    (case lF => k_asm)
    (case lN => k_asm)
    (case lh => rfl)
    (case lz => (first | (rw [sizeLine_eq]; omega) | (refine Nat.le_trans (KBc.size_picked_le _ _ _) ?_; rw [sizeLine_eq]; omega)))
    (case lt => (intro k t I oI C oC D ys m₂ h tk E' h0 h1 hC hx F' N'; dsimp only; k_steps))
    intro D vs h tk F' N' off hI
    dsimp only)
  walk_at "my_enter"
  k_steps
  · exact hthr _ _ (nm_A0 (by assumption) (by assumption)) (by assumption)
  · exact hret _ news _ _ ⟨rfl, rfl, nm_A2 (by assumption) (by assumption) (by assumption) (by assumption)⟩ (by assumption) (cb_drop (by assumption) fun _ hp => .tail _ (.tail _ hp))
  · exact hthr _ _ (nm_A1 (by assumption) (by assumption) (by assumption)) (by assumption)
  · exact hthr _ _ (nm_B0 (by assumption) (by assumption)) (by assumption)
  · exact hret _ news _ _ ⟨rfl, rfl, nm_B2 (by assumption) hb (by assumption) (by assumption)⟩ (by assumption) (cb_drop (by assumption) fun _ hp => .tail _ (.tail _ hp))
  · exact hthr _ _ (nm_B1 (by assumption) hb (by assumption)) (by assumption)
end SM3
/-! # M4 -/
section SM4
set_option maxHeartbeats 4000000 in
theorem check_field_spec (w : World) (nb : Array UInt8) (ta : Tok) (b : Array UInt8) (tb : Tok) (js ks : List Int) (news : Led) (ha : KBw.bInts nb = js) (hb : KBw.bInts b = ks) (hy : js.length ≤ 16) (hz : ks.length ≤ 16)
    (hn : nameOk js = true) (hc : conNames.any (· == js) = false) (ht : (js == [116, 101]) = false) :
    CallsX w 8 84 [.bytes nb ta, .bytes b tb] news (fun v news' => v = .none ∧ news' = news ∧ valOk ks = true) (valOk ks = false) := by
  k_with_none
  k_with "my_enter" => ((refine wpAny_call ?_; k_dflt (refine' code_def ?zzk1 ?zzk2 ?zzk3 ?zzk4 ?zzk5 ?zzkA ?zzkF ?zzkK ?zzk6 ?zzk7 ?zzk8 ?zzk9 ?zzkB ?_ ?zzc2 ?zzc3 ?zzc4 ?zzc5; (case zzkA => exact rfl); (case zzkF => exact rfl); (case zzkK => first | exact rfl | assumption); (case zzk1 => k_asm); (case zzk2 => k_asm); (case zzk3 => k_asm); (case zzk4 => k_asm); (case zzk5 => k_asm); (case zzk6 => k_is); (case zzk7 => k_is); (case zzk8 => ktr_room); (case zzk9 => exact BindsTo.of_eq rfl); (case zzc5 => decide); (case zzkB => exact locs rfl); (case zzc2 => exact rfl); (case zzc3 => exact rfl); (case zzc4 => exact rfl); k_whole; intro g' L' h' FG' F' N' B' X' T'; (try dsimp only); (try k_fold))))
  k_with "my_bools" => (first | rfl | (simp only [*, Bool.not_true, Bool.not_false, Bool.and_true, Bool.true_and, Bool.and_false, Bool.false_and, Bool.or_true, Bool.or_false, Bool.true_or, Bool.false_or]; done) | (refine Bool.eq_iff_iff.mpr ?_; simp only [isLet, isName, isSch, nameSigns_eq, schemeSigns_eq, decide_eq_true_eq, Bool.or_eq_true, Bool.and_eq_true, Bool.not_eq_true', Bool.not_eq_true, okOct, decide_eq_false_iff_not, Bool.or_eq_false_iff, Bool.and_eq_false_iff, Bool.not_eq_false'] at *; first | omega | (simp_all; done) | (simp_all; omega)))
  k_with "my_use" => (((case zzk1 => k_asm); (case zzk2 => k_asm); (case zzk3 => k_asm); (case zzk4 => k_asm); (case zzk5 => k_asm); (case zzkK => first | exact rfl | assumption); (case zzkd => ktr_room); (case zzku => ktr_units)))
  k_with "compareOp In int bytes" => ((refine in_bytes_int (by assumption) (by assumption) ?_))
  k_with "compareOp NotIn int bytes" => ((refine notIn_bytes_int (by assumption) (by assumption) ?_))
  k_with "eval ListComp" => (k_dflt (k_extra "my_lc"))
  k_with "LcT" => ((refine ⟨?_, _, _, rfl, by assumption, by assumption⟩; walk_at "my_bools"))
  k_with "call ref" => ((k_here; (refine' Calls.use (is_letter_spec _ _ _ _) ?zzk1 ?zzk2 ?zzk3 ?zzk4 ?zzk5 ?zzkK ?zzkd ?zzku ?_); walk_at "my_use"; (intro v9 n9 h9 tk9 hP F9 N9); (obtain ⟨e8, e9⟩ := hP); (subst e8); (replace e9 := Eq.symm e9); (subst e9); (try dsimp only); (try k_fold)))
  k_with "call ref" => ((k_here; (refine' Calls.use (is_name_spec _ _ _ _ (by assumption) (by assumption)) ?zzk1 ?zzk2 ?zzk3 ?zzk4 ?zzk5 ?zzkK ?zzkd ?zzku ?_); walk_at "my_use"; (intro v9 n9 h9 tk9 hP F9 N9); (obtain ⟨e8, e9⟩ := hP); (subst e8); (replace e9 := Eq.symm e9); (subst e9); (try dsimp only); (try k_fold)))
  k_with "compareOp Eq ref ref" => ((k_here; k_dflt (refine' eq_nil ?zzk0 ?zzk1 ?zzk2 ?zzk3 ?zzk4 ?zzk5 ?_; (case zzk0 => k_asm); (case zzk1 => k_asm); (case zzk2 => k_mem); (case zzk3 => k_mem); (case zzk4 => assumption); (case zzk5 => ktr_units)); (try dsimp only)))
  k_with "compareOp NotEq ref ref" => ((k_here; k_dflt (refine' ne_nil ?zzk0 ?zzk1 ?zzk2 ?zzk3 ?zzk4 ?zzk5 ?_; (case zzk0 => k_asm); (case zzk1 => k_asm); (case zzk2 => k_mem); (case zzk3 => k_mem); (case zzk4 => assumption); (case zzk5 => ktr_units)); (try dsimp only)))
  k_with "exec Assign cons ListComp" => (k_dflt (k_extra "my_lcA"))
  k_with "my_thr" => ((intro e9 s9 hb9 T9; (try dsimp only at T9 ⊢); (repeat k_unfold); refine x_up (by assumption) (by assumption) rfl rfl rfl ⟨rfl, rfl, rfl⟩ T9 (fun s8 T8 => ?_)))
  k_with "call ref" => ((k_here; k_dflt ((refine' CallsX.use (malformed_spec _ _ _ _ (by decide +kernel)) ?zzk1 ?zzk2 ?zzk3 ?zzk4 ?zzk5 ?zzkK ?zzkd ?zzku ?_ ?_); walk_at "my_use"; (all_goals first | walk_at "my_thr" | (intro v9 n9 h9 tk9 hP; exact hP.elim)))))
  k_with "my_bare" => (first | exact BytesAre.nil | (refine' BytesAre.cons ?zzba ?zzbb; (case zzba => exact rfl); (case zzbb => walk_at "my_bare")))
  k_with "compareOp In bytes ref" => ((k_here; k_dflt ((refine' in_tuple_bytes ?zzk1 ?zzk2 ?zzk3 ?_); (case zzk1 => first | exact News.isTup (by k_asm) (by k_mem) | exact tupK (by k_in) (by k_is)); (case zzk2 => walk_at "my_bare"); (case zzk3 => first | assumption | rfl)); (try dsimp only)))
  k_with "compareOp NotIn bytes ref" => ((k_here; k_dflt ((refine' notIn_tuple_bytes ?zzk1 ?zzk2 ?zzk3 ?_); (case zzk1 => first | exact News.isTup (by k_asm) (by k_mem) | exact tupK (by k_in) (by k_is)); (case zzk2 => walk_at "my_bare"); (case zzk3 => first | assumption | rfl)); (try dsimp only)))
  k_with "compareOp Eq bytes bytes" => (k_dflt ((refine' eq_bytesI ?zzk1 ?zzk2 ?_); (case zzk1 => first | assumption | rfl); (case zzk2 => first | assumption | rfl)))
  k_with "compareOp NotEq bytes bytes" => (k_dflt ((refine' ne_bytesI ?zzk1 ?zzk2 ?_); (case zzk1 => first | assumption | rfl); (case zzk2 => first | assumption | rfl)))
  k_with "call ref" => ((k_here; k_dflt ((refine' CallsX.use (check_value_spec _ _ _ _ _ (by first | assumption | rfl) (by first | assumption | decide +kernel | omega)) ?zzk1 ?zzk2 ?zzk3 ?zzk4 ?zzk5 ?zzkK ?zzkd ?zzku ?_ ?_); walk_at "my_use"; (all_goals first | walk_at "my_thr" | ((intro v9 n9 h9 tk9 hP F9 N9); (obtain ⟨e8, e9, h8⟩ := hP); (subst e8); (replace e9 := Eq.symm e9); (subst e9); (try dsimp only); (try k_fold))))))
  k_with "call ref" => ((k_here; k_dflt ((refine' CallsX.use (check_name_spec _ _ _ _ _ (by first | assumption | rfl) (by first | assumption | decide +kernel | omega)) ?zzk1 ?zzk2 ?zzk3 ?zzk4 ?zzk5 ?zzkK ?zzkd ?zzku ?_ ?_); walk_at "my_use"; (all_goals first | walk_at "my_thr" | ((intro v9 n9 h9 tk9 hP F9 N9); (obtain ⟨e8, e9, h8⟩ := hP); (subst e8); (replace e9 := Eq.symm e9); (subst e9); (try dsimp only); (try k_fold))))))
  unfold CallsX
  k_fill
  intro dp un gd cn cs a ccd cl outer A₀ base h₀ L m s Q E mean mg mb B F X N T hk hdp hun hret hthr
  have hzb : b.size ≤ 16 := by rw [← KBw.ints_length, hb]; exact hz
  walk_at "my_enter"
  k_steps
  · exact (con_false hc (by assumption)).elim
  · exact (te_false ht (by assumption)).elim
  · exact (te_false ht (by assumption)).elim
  · exact hret _ news _ _ ⟨rfl, rfl, by assumption⟩ (by assumption) (by assumption)
  · exact hthr _ _ (by assumption) (by assumption)
  · have q : nameOk js = false := by assumption
    rw [hn] at q; cases q
end SM4
/-! # M14 -/
section SM14
section
variable {prog : Program} {w : World} {A : Around} {E : Value → Shared → Prop} {s : Shared} {h₀ : Heap} {L : Addr} {m : Str → Option Value} {news : Led}
theorem addK {l b : Addr} {vs ws : List Value} {n k : Nat} {ns ms : List Int} {Q : Value → Shared → Prop} (F : Fr h₀ L s.heap m) (N : News h₀ L s.heap ((b, listOf ws.toArray k) :: news)) (hl : (l, listOf vs.toArray n) ∈ news) (hi : IntsAre vs ns) (hj : IntsAre ws ms)
    (h : ∀ D h', Fr h₀ L h' m → News h₀ L h' ((D, listOf (vs ++ ws).toArray 0) :: news) → IntsAre (vs ++ ws) (ns ++ ms) → (∀ p ∈ news, p.1 < D) → Q (.ref D) { s with heap := h' })
    (hsz : ns.length + ms.length ≤ sizeLine) : wpAny (model prog w) A (binaryOp .Add (.ref l) (.ref b)) Q E s :=
  add_lists_ints (hsz := hsz) F N ⟨_, (N _ (.tail _ hl)).1, rfl, _, rfl⟩ ⟨_, (N _ (.head _)).1, rfl, _, rfl⟩ hi hj fun h' F' N' I' => h _ h' F' (fun p hp => N' p (by rcases List.mem_cons.mp hp with rfl | hp; exact .head _; exact .tail _ (.tail _ hp))) I' fun p hp => Heap.lt_size (N p (.tail _ hp)).1
end
theorem allLt9 {l : Led} {x : Nat} {p : Addr × Obj} (h : ∀ p ∈ l, p.1 < x) (hp : p ∈ l) : p.1 < x := h p hp
local macro_rules | `(tactic| k_all) => `(tactic| (intro p9 hp9; refine Nat.ne_of_lt (Nat.lt_succ_of_lt ?_); exact allLt9 (by assumption) hp9))
abbrev signsOf : List Int := [9, 32] ++ List.map (fun a => a) (rangeInts 33 1 ((127 : Int) - 33).toNat) ++ List.map (fun a => a) (rangeInts 128 1 ((256 : Int) - 128).toNat)
theorem byte_all {p q : Int → Bool} (h : ∀ n : Fin 256, p (n.val : Int) = q (n.val : Int)) {b : Array UInt8} {ks : List Int} (hb : KBw.bInts b = ks) : ks.all p = ks.all q := by
  rw [Bool.eq_iff_iff, List.all_eq_true, List.all_eq_true]
  have e : ∀ x ∈ ks, p x = q x := fun x hx => by
    obtain ⟨h0, h1⟩ := KBw.ints_in (b := b) (hb ▸ hx)
    have := h ⟨x.toNat, by omega⟩
    simp only [Int.toNat_of_nonneg h0] at this
    exact this
  exact ⟨fun z x hx => (e x hx).symm.trans (z x hx), fun z x hx => (e x hx).trans (z x hx)⟩
theorem sig_eq {b : Array UInt8} {ks : List Int} (hb : KBw.bInts b = ks) : (List.filter (fun k => !signsOf.any fun x => x == k) (KBw.bInts b)).isEmpty = ks.all okOct := by
  rw [filter_not (fun k => signsOf.any fun x => x == k), hb]
  exact byte_all (by decide +kernel) hb
theorem isv_1 {b : Array UInt8} {ks : List Int} {c : Bool} (_ : KBw.bInts b = ks) (h2 : ([KBw.bInts #[32], KBw.bInts #[9]].any fun x => x == List.take (clipAt ks.length 1) ks) = true) (hc : (![KBw.bInts #[32], KBw.bInts #[9]].any fun x => x == List.take (clipAt ks.length 1) ks) = c) : c = valOk ks := by
  rw [val_bad2 h2, ← hc, h2]; rfl
theorem isv_2 {b : Array UInt8} {ks : List Int} {c : Bool} (hb : KBw.bInts b = ks) (h1 : (List.filter (fun k => !signsOf.any fun x => x == k) (KBw.bInts b)).isEmpty = true) (h2 : ([KBw.bInts #[32], KBw.bInts #[9]].any fun x => x == List.take (clipAt ks.length 1) ks) = false)
    (hc : (![KBw.bInts #[32], KBw.bInts #[9]].any fun x => x == List.take (ks.length - clipAt ks.length (-1)) (List.drop (clipAt ks.length (-1)) ks)) = c) : c = valOk ks := by
  rw [sig_eq hb] at h1
  rw [blanks_eq, clip_head] at h2
  rw [blanks_eq, clip_last] at hc
  rw [valOk, h1, h2, ← hc]; rfl
theorem isv_3 {b : Array UInt8} {ks : List Int} (hb : KBw.bInts b = ks) (h1 : (List.filter (fun k => !signsOf.any fun x => x == k) (KBw.bInts b)).isEmpty = false) : (List.filter (fun k => !signsOf.any fun x => x == k) (KBw.bInts b)).isEmpty = valOk ks := by
  rw [h1]
  rw [sig_eq hb] at h1
  rw [valOk, h1, Bool.false_and]
set_option maxHeartbeats 4000000 in
theorem is_value_spec (w : World) (b : Array UInt8) (t : Tok) (ks : List Int) (hb : KBw.bInts b = ks) (hz : ks.length ≤ 6) (news : Led) :
    Calls w 4 167 [.bytes b t] news (fun v news' => v = .bool (valOk ks) ∧ news' = news) := by
  k_with_none
  k_with "my_enter" => ((refine wpAny_call ?_; k_dflt (refine' code_def ?zzk1 ?zzk2 ?zzk3 ?zzk4 ?zzk5 ?zzkA ?zzkF ?zzkK ?zzk6 ?zzk7 ?zzk8 ?zzk9 ?zzkB ?_ ?zzc2 ?zzc3 ?zzc4 ?zzc5; (case zzkA => exact rfl); (case zzkF => exact rfl); (case zzkK => first | exact rfl | assumption); (case zzk1 => k_asm); (case zzk2 => k_asm); (case zzk3 => k_asm); (case zzk4 => k_asm); (case zzk5 => k_asm); (case zzk6 => k_is); (case zzk7 => k_is); (case zzk8 => ktr_room); (case zzk9 => exact BindsTo.of_eq rfl); (case zzc5 => decide); (case zzkB => exact locs rfl); (case zzc2 => exact rfl); (case zzc3 => exact rfl); (case zzc4 => exact rfl); k_whole; intro g' L' h' FG' F' N' B' X' T'; (try dsimp only); (try k_fold))))
  k_with "my_bools" => (first | rfl | (simp only [*, Bool.not_true, Bool.not_false, Bool.and_true, Bool.true_and, Bool.and_false, Bool.false_and, Bool.or_true, Bool.or_false, Bool.true_or, Bool.false_or]; done) | (refine Bool.eq_iff_iff.mpr ?_; simp only [isLet, isName, isSch, nameSigns_eq, schemeSigns_eq, decide_eq_true_eq, Bool.or_eq_true, Bool.and_eq_true, Bool.not_eq_true', Bool.not_eq_true, okOct, decide_eq_false_iff_not, Bool.or_eq_false_iff, Bool.and_eq_false_iff, Bool.not_eq_false'] at *; first | omega | (simp_all; done) | (simp_all; omega)))
  k_with "my_use" => (((case zzk1 => k_asm); (case zzk2 => k_asm); (case zzk3 => k_asm); (case zzk4 => k_asm); (case zzk5 => k_asm); (case zzkK => first | exact rfl | assumption); (case zzkd => ktr_room); (case zzku => ktr_units)))
  k_with "compareOp In int bytes" => ((refine in_bytes_int (by assumption) (by assumption) ?_))
  k_with "compareOp NotIn int bytes" => ((refine notIn_bytes_int (by assumption) (by assumption) ?_))
  k_with "eval ListComp" => (k_dflt (k_extra "my_lc"))
  k_with "LcT" => ((refine ⟨?_, _, _, rfl, by assumption, by assumption⟩; walk_at "my_bools"))
  k_with "call ref" => ((k_here; (refine' Calls.use (is_letter_spec _ _ _ _) ?zzk1 ?zzk2 ?zzk3 ?zzk4 ?zzk5 ?zzkK ?zzkd ?zzku ?_); walk_at "my_use"; (intro v9 n9 h9 tk9 hP F9 N9); (obtain ⟨e8, e9⟩ := hP); (subst e8); (replace e9 := Eq.symm e9); (subst e9); (try dsimp only); (try k_fold)))
  k_with "call ref" => ((k_here; (refine' Calls.use (is_name_spec _ _ _ _ (by assumption) (by assumption)) ?zzk1 ?zzk2 ?zzk3 ?zzk4 ?zzk5 ?zzkK ?zzkd ?zzku ?_); walk_at "my_use"; (intro v9 n9 h9 tk9 hP F9 N9); (obtain ⟨e8, e9⟩ := hP); (subst e8); (replace e9 := Eq.symm e9); (subst e9); (try dsimp only); (try k_fold)))
  k_with "compareOp Eq ref ref" => ((k_here; k_dflt (refine' eq_nil ?zzk0 ?zzk1 ?zzk2 ?zzk3 ?zzk4 ?zzk5 ?_; (case zzk0 => k_asm); (case zzk1 => k_asm); (case zzk2 => k_mem); (case zzk3 => k_mem); (case zzk4 => assumption); (case zzk5 => ktr_units)); (try dsimp only)))
  k_with "compareOp NotEq ref ref" => ((k_here; k_dflt (refine' ne_nil ?zzk0 ?zzk1 ?zzk2 ?zzk3 ?zzk4 ?zzk5 ?_; (case zzk0 => k_asm); (case zzk1 => k_asm); (case zzk2 => k_mem); (case zzk3 => k_mem); (case zzk4 => assumption); (case zzk5 => ktr_units)); (try dsimp only)))
  k_with "exec Assign cons ListComp" => (k_dflt (k_extra "my_lcA"))
  k_with "my_thr" => ((intro e9 s9 hb9 T9; (try dsimp only at T9 ⊢); (repeat k_unfold); refine x_up (by assumption) (by assumption) rfl rfl rfl ⟨rfl, rfl, rfl⟩ T9 (fun s8 T8 => ?_)))
  k_with "call ref" => ((k_here; k_dflt ((refine' CallsX.use (malformed_spec _ _ _ _ (by decide +kernel)) ?zzk1 ?zzk2 ?zzk3 ?zzk4 ?zzk5 ?zzkK ?zzkd ?zzku ?_ ?_); walk_at "my_use"; (all_goals first | walk_at "my_thr" | (intro v9 n9 h9 tk9 hP; exact hP.elim)))))
  k_with "my_bare" => (first | exact BytesAre.nil | (refine' BytesAre.cons ?zzba ?zzbb; (case zzba => exact rfl); (case zzbb => walk_at "my_bare")))
  k_with "compareOp In bytes ref" => ((k_here; k_dflt ((refine' in_tuple_bytes ?zzk1 ?zzk2 ?zzk3 ?_); (case zzk1 => first | exact News.isTup (by k_asm) (by k_mem) | exact tupK (by k_in) (by k_is)); (case zzk2 => walk_at "my_bare"); (case zzk3 => first | assumption | rfl)); (try dsimp only)))
  k_with "compareOp NotIn bytes ref" => ((k_here; k_dflt ((refine' notIn_tuple_bytes ?zzk1 ?zzk2 ?zzk3 ?_); (case zzk1 => first | exact News.isTup (by k_asm) (by k_mem) | exact tupK (by k_in) (by k_is)); (case zzk2 => walk_at "my_bare"); (case zzk3 => first | assumption | rfl)); (try dsimp only)))
  k_with "compareOp Eq bytes bytes" => (k_dflt ((refine' eq_bytesI ?zzk1 ?zzk2 ?_); (case zzk1 => first | assumption | rfl); (case zzk2 => first | assumption | rfl)))
  k_with "compareOp NotEq bytes bytes" => (k_dflt ((refine' ne_bytesI ?zzk1 ?zzk2 ?_); (case zzk1 => first | assumption | rfl); (case zzk2 => first | assumption | rfl)))
  k_with "eval Dict nil nil" => ((k_here; k_dflt (refine' newDictB ?zzk1 ?zzk2 (TopRead.nolimit (by k_asm)) ?_; (case zzk1 => k_asm); (case zzk2 => k_asm); k_whole); intro d' h' o' F' N' l1 lo' hs'; (try k_lt l1); (try k_sweep)))
  k_with "compareOp In bytes ref" => ((k_here; k_dflt (first | refine inB (by k_asm) (by repeat first | exact List.Mem.head _ | assumption | refine List.Mem.tail _ ?_) (by k_asm) (by k_asm) true (by kernel_rfl!) ?_ | refine inB (by k_asm) (by repeat first | exact List.Mem.head _ | assumption | refine List.Mem.tail _ ?_) (by k_asm) (by k_asm) false (by kernel_rfl!) ?_)))
  k_with "compareOp NotIn bytes ref" => ((k_here; k_dflt (first | refine notInB (by k_asm) (by repeat first | exact List.Mem.head _ | assumption | refine List.Mem.tail _ ?_) (by k_asm) (by k_asm) true (by kernel_rfl!) ?_ | refine notInB (by k_asm) (by repeat first | exact List.Mem.head _ | assumption | refine List.Mem.tail _ ?_) (by k_asm) (by k_asm) false (by kernel_rfl!) ?_)))
  k_with "setItem ref bytes" => ((k_here; k_dflt (refine' setB ?zzF ?zzN ?zzU ?zzd ?zzz ?_; (case zzF => k_asm); (case zzN => k_asm); (case zzU => k_updF); (case zzd => k_asm); (case zzz => (rw [sizeLine_eq]; exact Nat.le_of_ble_eq_true (by kernel_rfl)))); intro h' o' F' N' hd'; (try dsimp only at N')))
  k_with "subscriptTail" => ((k_here; (with_reducible show wpAny _ _ (subscriptTail _ _ (Value.ref _) (Value.bytes _ _)) _ _ _); k_dflt (refine itemB (by k_asm) (by repeat first | exact List.Mem.head _ | assumption | refine List.Mem.tail _ ?_) (by k_asm) (by first | rfl | with_unfolding_all rfl) ?_)))
  k_with "my_enterC" => ((refine wpAny_call ?_; k_dflt (refine' code_defC ?zzk1 ?zzk2 ?zzk3 ?zzk4 ?zzk5 ?zzkA ?zzkF ?zzkK ?zzk6 ?zzk7 ?zzk8 ?zzk9 ?zzkB ?zzkD ?_ ?zzc2 ?zzc3 ?zzc4; (case zzkA => exact rfl); (case zzkF => exact rfl); (case zzkK => first | exact rfl | assumption); (case zzk1 => k_asm); (case zzk2 => k_asm); (case zzk3 => k_asm); (case zzk4 => k_asm); (case zzk5 => k_asm); (case zzk6 => k_is); (case zzk7 => k_is); (case zzk8 => ktr_room); (case zzk9 => exact BindsTo.of_eq rfl); (case zzkB => exact rfl); (case zzkD => decide +kernel); (case zzc2 => exact rfl); (case zzc3 => exact rfl); (case zzc4 => exact rfl); k_whole; intro g' L' h' tk' cells' FG' F' N' Y' B' X' T' l1; (try k_lt l1); k_cells Y'; (try simp only [List.cons_append, List.nil_append] at N'); (try dsimp only); (try k_lift B'); (try k_fold))))
  k_with "binaryOp Add ref ref" => (((try k_made); k_dflt (refine' addK ?zzF ?zzN ?zza ?zzi ?zzj ?_ ?zzz; (case zzF => k_asm); (case zzN => k_asm); (case zza => k_mem); (case zzi => l_ints); (case zzj => l_ints); (case zzz => (rw [sizeLine_eq]; decide +kernel))); intro D9 h9 F9 N9 I9 l9; (try k_lt l9); (try k_fold)))
  unfold Calls
  k_fill
  intro dp un gd cn cs a ccd cl outer A₀ base h₀ L m s Q E mean mg mb B F X N T hk hdp hun hret
  have hzb : b.size ≤ 16 := by rw [← KBw.ints_length, hb]; omega
  k_with "my_lcA" => (
    refine' lcA_bytes (fun k => !signsOf.any fun x => x == k) ?lF ?lN ?lL ?lh ?lz ?li ?lt ?_
    (case li => (intro Q' hQ'; walk1; exact hQ'))
    (case lF => k_asm)
    (case lN => k_asm)
    (case lL => rfl)
    (case lh => rfl)
    (case lz => (rw [sizeLine_eq]; omega))
    (case lt => (intro k t I oI C oC D ys m₂ h tk E' h0 h1 hC hx F' N'; dsimp only; k_steps))
    intro D vs h tk F' N' off hI
    dsimp only)
  walk_at "my_enterC"
  k_steps
  · exact hret _ news _ _ ⟨congrArg Value.bool (isv_1 hb (by assumption) rfl), rfl⟩ (by assumption) (cb_drop (by assumption) (fun _ hp => by repeat first | exact hp | refine List.Mem.tail _ ?_))
  · exact hret _ news _ _ ⟨congrArg Value.bool (isv_2 hb (by assumption) (by assumption) rfl), rfl⟩ (by assumption) (cb_drop (by assumption) (fun _ hp => by repeat first | exact hp | refine List.Mem.tail _ ?_))
  · exact hret _ news _ _ ⟨congrArg Value.bool (isv_3 hb (by assumption)), rfl⟩ (by assumption) (cb_drop (by assumption) (fun _ hp => by repeat first | exact hp | refine List.Mem.tail _ ?_))
end SM14
/-! # M5 -/
section SM5

set_option maxHeartbeats 4000000 in
theorem pseudo_trailer_spec (w : World) (fl p1 kn : Addr) (c c1 c2 : Nat) (b : Array UInt8) (ta tb : Tok) (ks : List Int) (hb : KBw.bInts b = ks) (hz : ks.length ≤ 16) :
    CallsX w 10 101 [.ref fl, .ref kn] [(fl, listOf #[.ref p1] c), (p1, ({ cls := .type "tuple", data := .seq #[.bytes #[97] ta, .bytes b tb] c1 } : Obj)), (kn, ({ cls := .type "tuple", data := .seq #[] c2 } : Obj))]
      (fun _ news' => news' = [] ∧ valOk ks = true) (valOk ks = false) := by
  k_with_none
  k_with "my_enter" => ((refine wpAny_call ?_; k_dflt (refine' code_def ?zzk1 ?zzk2 ?zzk3 ?zzk4 ?zzk5 ?zzkA ?zzkF ?zzkK ?zzk6 ?zzk7 ?zzk8 ?zzk9 ?zzkB ?_ ?zzc2 ?zzc3 ?zzc4 ?zzc5; (case zzkA => exact rfl); (case zzkF => exact rfl); (case zzkK => first | exact rfl | assumption); (case zzk1 => k_asm); (case zzk2 => k_asm); (case zzk3 => k_asm); (case zzk4 => k_asm); (case zzk5 => k_asm); (case zzk6 => k_is); (case zzk7 => k_is); (case zzk8 => ktr_room); (case zzk9 => exact BindsTo.of_eq rfl); (case zzc5 => decide); (case zzkB => exact locs rfl); (case zzc2 => exact rfl); (case zzc3 => exact rfl); (case zzc4 => exact rfl); k_whole; intro g' L' h' FG' F' N' B' X' T'; (try dsimp only); (try k_fold))))
  k_with "my_bools" => (first | rfl | (simp only [*, Bool.not_true, Bool.not_false, Bool.and_true, Bool.true_and, Bool.and_false, Bool.false_and, Bool.or_true, Bool.or_false, Bool.true_or, Bool.false_or]; done) | (refine Bool.eq_iff_iff.mpr ?_; simp only [isLet, isName, isSch, nameSigns_eq, schemeSigns_eq, decide_eq_true_eq, Bool.or_eq_true, Bool.and_eq_true, Bool.not_eq_true', Bool.not_eq_true, okOct, decide_eq_false_iff_not, Bool.or_eq_false_iff, Bool.and_eq_false_iff, Bool.not_eq_false'] at *; first | omega | (simp_all; done) | (simp_all; omega)))
  k_with "my_use" => (((case zzk1 => k_asm); (case zzk2 => k_asm); (case zzk3 => k_asm); (case zzk4 => k_asm); (case zzk5 => k_asm); (case zzkK => first | exact rfl | assumption); (case zzkd => ktr_room); (case zzku => ktr_units)))
  k_with "compareOp In int bytes" => ((refine in_bytes_int (by assumption) (by assumption) ?_))
  k_with "compareOp NotIn int bytes" => ((refine notIn_bytes_int (by assumption) (by assumption) ?_))
  k_with "eval ListComp" => (k_dflt (k_extra "my_lc"))
  k_with "LcT" => ((refine ⟨?_, _, _, rfl, by assumption, by assumption⟩; walk_at "my_bools"))
  k_with "call ref" => ((k_here; (refine' Calls.use (is_letter_spec _ _ _ _) ?zzk1 ?zzk2 ?zzk3 ?zzk4 ?zzk5 ?zzkK ?zzkd ?zzku ?_); walk_at "my_use"; (intro v9 n9 h9 tk9 hP F9 N9); (obtain ⟨e8, e9⟩ := hP); (subst e8); (replace e9 := Eq.symm e9); (subst e9); (try dsimp only); (try k_fold)))
  k_with "call ref" => ((k_here; (refine' Calls.use (is_name_spec _ _ _ _ (by assumption) (by assumption)) ?zzk1 ?zzk2 ?zzk3 ?zzk4 ?zzk5 ?zzkK ?zzkd ?zzku ?_); walk_at "my_use"; (intro v9 n9 h9 tk9 hP F9 N9); (obtain ⟨e8, e9⟩ := hP); (subst e8); (replace e9 := Eq.symm e9); (subst e9); (try dsimp only); (try k_fold)))
  k_with "compareOp Eq ref ref" => ((k_here; k_dflt (refine' eq_nil ?zzk0 ?zzk1 ?zzk2 ?zzk3 ?zzk4 ?zzk5 ?_; (case zzk0 => k_asm); (case zzk1 => k_asm); (case zzk2 => k_mem); (case zzk3 => k_mem); (case zzk4 => assumption); (case zzk5 => ktr_units)); (try dsimp only)))
  k_with "compareOp NotEq ref ref" => ((k_here; k_dflt (refine' ne_nil ?zzk0 ?zzk1 ?zzk2 ?zzk3 ?zzk4 ?zzk5 ?_; (case zzk0 => k_asm); (case zzk1 => k_asm); (case zzk2 => k_mem); (case zzk3 => k_mem); (case zzk4 => assumption); (case zzk5 => ktr_units)); (try dsimp only)))
  k_with "exec Assign cons ListComp" => (k_dflt (k_extra "my_lcA"))
  k_with "my_thr" => ((intro e9 s9 hb9 T9; (try dsimp only at T9 ⊢); (repeat k_unfold); refine x_up (by assumption) (by assumption) rfl rfl rfl ⟨rfl, rfl, rfl⟩ T9 (fun s8 T8 => ?_)))
  k_with "call ref" => ((k_here; k_dflt ((refine' CallsX.use (malformed_spec _ _ _ _ (by decide +kernel)) ?zzk1 ?zzk2 ?zzk3 ?zzk4 ?zzk5 ?zzkK ?zzkd ?zzku ?_ ?_); walk_at "my_use"; (all_goals first | walk_at "my_thr" | (intro v9 n9 h9 tk9 hP; exact hP.elim)))))
  k_with "my_bare" => (first | exact BytesAre.nil | (refine' BytesAre.cons ?zzba ?zzbb; (case zzba => exact rfl); (case zzbb => walk_at "my_bare")))
  k_with "compareOp In bytes ref" => ((k_here; k_dflt ((refine' in_tuple_bytes ?zzk1 ?zzk2 ?zzk3 ?_); (case zzk1 => first | exact News.isTup (by k_asm) (by k_mem) | exact tupK (by k_in) (by k_is)); (case zzk2 => walk_at "my_bare"); (case zzk3 => first | assumption | rfl)); (try dsimp only)))
  k_with "compareOp NotIn bytes ref" => ((k_here; k_dflt ((refine' notIn_tuple_bytes ?zzk1 ?zzk2 ?zzk3 ?_); (case zzk1 => first | exact News.isTup (by k_asm) (by k_mem) | exact tupK (by k_in) (by k_is)); (case zzk2 => walk_at "my_bare"); (case zzk3 => first | assumption | rfl)); (try dsimp only)))
  k_with "compareOp Eq bytes bytes" => (k_dflt ((refine' eq_bytesI ?zzk1 ?zzk2 ?_); (case zzk1 => first | assumption | rfl); (case zzk2 => first | assumption | rfl)))
  k_with "compareOp NotEq bytes bytes" => (k_dflt ((refine' ne_bytesI ?zzk1 ?zzk2 ?_); (case zzk1 => first | assumption | rfl); (case zzk2 => first | assumption | rfl)))
  k_with "eval Dict nil nil" => ((k_here; k_dflt (refine' newDictB ?zzk1 ?zzk2 (TopRead.nolimit (by k_asm)) ?_; (case zzk1 => k_asm); (case zzk2 => k_asm); k_whole); intro d' h' o' F' N' l1 lo' hs'; (try k_lt l1); (try k_sweep)))
  k_with "compareOp In bytes ref" => ((k_here; k_dflt (first | refine inB (by k_asm) (by k_mem) (by k_asm) (by k_asm) true (by kernel_rfl) ?_ | refine inB (by k_asm) (by k_mem) (by k_asm) (by k_asm) false (by kernel_rfl) ?_)))
  k_with "compareOp NotIn bytes ref" => ((k_here; k_dflt (first | refine notInB (by k_asm) (by k_mem) (by k_asm) (by k_asm) true (by kernel_rfl) ?_ | refine notInB (by k_asm) (by k_mem) (by k_asm) (by k_asm) false (by kernel_rfl) ?_)))
  k_with "setItem ref bytes" => ((k_here; k_dflt (refine' setB ?zzF ?zzN ?zzU ?zzd ?zzz ?_; (case zzF => k_asm); (case zzN => k_asm); (case zzU => k_updF); (case zzd => k_asm); (case zzz => (rw [sizeLine_eq]; exact Nat.le_of_ble_eq_true (by kernel_rfl)))); intro h' o' F' N' hd'; (try dsimp only at N')))
  k_with "subscriptTail" => ((k_here; (with_reducible show wpAny _ _ (subscriptTail _ _ (Value.ref _) (Value.bytes _ _)) _ _ _); k_dflt (refine itemB (by k_asm) (by k_mem) (by k_asm) (by kernel_rfl) ?_)))
  k_with "call ref" => ((k_here; k_dflt ((refine' CallsX.use (check_field_spec _ _ _ _ _ _ _ _ (by first | assumption | rfl) (by first | assumption | rfl) (by first | assumption | decide +kernel | omega) (by first | assumption | decide +kernel | omega) (by first | assumption | decide +kernel) (by first | assumption | decide +kernel) (by first | assumption | decide +kernel)) ?zzk1 ?zzk2 ?zzk3 ?zzk4 ?zzk5 ?zzkK ?zzkd ?zzku ?_ ?_); walk_at "my_use"; (all_goals first | walk_at "my_thr" | ((intro v9 n9 h9 tk9 hP F9 N9); (obtain ⟨e8, e9, h8⟩ := hP); (subst e8); (replace e9 := Eq.symm e9); (subst e9); (try dsimp only); (try k_fold))))))
  unfold CallsX
  k_fill
  intro dp un gd cn cs a ccd cl outer A₀ base h₀ L m s Q E mean mg mb B F X N T hk hdp hun hret hthr
  have hzb : b.size ≤ 16 := by rw [← KBw.ints_length, hb]; exact hz
  have ha : KBw.bInts #[97] = [97] := by decide +kernel
  walk_at "my_enter"
  k_steps
  · exact hret _ [] _ _ ⟨rfl, by assumption⟩ (by assumption) News.nil
  · exact hthr _ _ (by assumption) (by assumption)
end SM5
/-! # M6 -/
section SM6

set_option maxHeartbeats 4000000 in
theorem pseudo_request_spec (w : World) (fl p1 p2 p3 p4 : Addr) (c c1 c2 c3 c4 : Nat) (b1 b2 : Array UInt8) (t1 t2 t3 t4 u1 u2 u3 u4 : Tok) (ks1 ks2 : List Int) (hb1 : KBw.bInts b1 = ks1) (hz1 : ks1.length ≤ 16) (hb2 : KBw.bInts b2 = ks2) (hz2 : ks2.length ≤ 16) :
    CallsX w 10 101 [.ref fl, .ref 35] [(fl, listOf #[.ref p1, .ref p2, .ref p3, .ref p4] c), (p1, ({ cls := .type "tuple", data := .seq #[.bytes #[58, 109, 101, 116, 104, 111, 100] t1, .bytes b1 u1] c1 } : Obj)), (p2, ({ cls := .type "tuple", data := .seq #[.bytes #[58, 115, 99, 104, 101, 109, 101] t2, .bytes b2 u2] c2 } : Obj)), (p3, ({ cls := .type "tuple", data := .seq #[.bytes #[58, 112, 97, 116, 104] t3, .bytes #[47] u3] c3 } : Obj)), (p4, ({ cls := .type "tuple", data := .seq #[.bytes #[58, 97, 117, 116, 104, 111, 114, 105, 116, 121] t4, .bytes #[104] u4] c4 } : Obj))]
      (fun v news' => ∃ d o, v = .ref d ∧ (d == sysModules) = false ∧ o.IsDictOf (bytesKind PySem.Challenge.rw_pf0251_01.row.prog w) [((#[58, 109, 101, 116, 104, 111, 100] : Array UInt8).toList, .bytes b1 u1), ((#[58, 115, 99, 104, 101, 109, 101] : Array UInt8).toList, .bytes b2 u2), ((#[58, 112, 97, 116, 104] : Array UInt8).toList, .bytes #[47] u3), ((#[58, 97, 117, 116, 104, 111, 114, 105, 116, 121] : Array UInt8).toList, .bytes #[104] u4)] ∧
        news' = [(d, o), (fl, listOf #[.ref p1, .ref p2, .ref p3, .ref p4] c), (p1, ({ cls := .type "tuple", data := .seq #[.bytes #[58, 109, 101, 116, 104, 111, 100] t1, .bytes b1 u1] c1 } : Obj)), (p2, ({ cls := .type "tuple", data := .seq #[.bytes #[58, 115, 99, 104, 101, 109, 101] t2, .bytes b2 u2] c2 } : Obj)), (p3, ({ cls := .type "tuple", data := .seq #[.bytes #[58, 112, 97, 116, 104] t3, .bytes #[47] u3] c3 } : Obj)), (p4, ({ cls := .type "tuple", data := .seq #[.bytes #[58, 97, 117, 116, 104, 111, 114, 105, 116, 121] t4, .bytes #[104] u4] c4 } : Obj))] ∧ valOk ks1 = true ∧ valOk ks2 = true) (valOk ks1 = false ∨ valOk ks2 = false) := by
  k_with_none
  k_with "my_enter" => ((refine wpAny_call ?_; k_dflt (refine' code_def ?zzk1 ?zzk2 ?zzk3 ?zzk4 ?zzk5 ?zzkA ?zzkF ?zzkK ?zzk6 ?zzk7 ?zzk8 ?zzk9 ?zzkB ?_ ?zzc2 ?zzc3 ?zzc4 ?zzc5; (case zzkA => exact rfl); (case zzkF => exact rfl); (case zzkK => first | exact rfl | assumption); (case zzk1 => k_asm); (case zzk2 => k_asm); (case zzk3 => k_asm); (case zzk4 => k_asm); (case zzk5 => k_asm); (case zzk6 => k_is); (case zzk7 => k_is); (case zzk8 => ktr_room); (case zzk9 => exact BindsTo.of_eq rfl); (case zzc5 => decide); (case zzkB => exact locs rfl); (case zzc2 => exact rfl); (case zzc3 => exact rfl); (case zzc4 => exact rfl); k_whole; intro g' L' h' FG' F' N' B' X' T'; (try dsimp only); (try k_fold))))
  k_with "my_bools" => (first | rfl | (simp only [*, Bool.not_true, Bool.not_false, Bool.and_true, Bool.true_and, Bool.and_false, Bool.false_and, Bool.or_true, Bool.or_false, Bool.true_or, Bool.false_or]; done) | (refine Bool.eq_iff_iff.mpr ?_; simp only [isLet, isName, isSch, nameSigns_eq, schemeSigns_eq, decide_eq_true_eq, Bool.or_eq_true, Bool.and_eq_true, Bool.not_eq_true', Bool.not_eq_true, okOct, decide_eq_false_iff_not, Bool.or_eq_false_iff, Bool.and_eq_false_iff, Bool.not_eq_false'] at *; first | omega | (simp_all; done) | (simp_all; omega)))
  k_with "my_use" => (((case zzk1 => k_asm); (case zzk2 => k_asm); (case zzk3 => k_asm); (case zzk4 => k_asm); (case zzk5 => k_asm); (case zzkK => first | exact rfl | assumption); (case zzkd => ktr_room); (case zzku => ktr_units)))
  k_with "compareOp In int bytes" => ((refine in_bytes_int (by assumption) (by assumption) ?_))
  k_with "compareOp NotIn int bytes" => ((refine notIn_bytes_int (by assumption) (by assumption) ?_))
  k_with "eval ListComp" => (k_dflt (k_extra "my_lc"))
  k_with "LcT" => ((refine ⟨?_, _, _, rfl, by assumption, by assumption⟩; walk_at "my_bools"))
  k_with "call ref" => ((k_here; (refine' Calls.use (is_letter_spec _ _ _ _) ?zzk1 ?zzk2 ?zzk3 ?zzk4 ?zzk5 ?zzkK ?zzkd ?zzku ?_); walk_at "my_use"; (intro v9 n9 h9 tk9 hP F9 N9); (obtain ⟨e8, e9⟩ := hP); (subst e8); (replace e9 := Eq.symm e9); (subst e9); (try dsimp only); (try k_fold)))
  k_with "call ref" => ((k_here; (refine' Calls.use (is_name_spec _ _ _ _ (by assumption) (by assumption)) ?zzk1 ?zzk2 ?zzk3 ?zzk4 ?zzk5 ?zzkK ?zzkd ?zzku ?_); walk_at "my_use"; (intro v9 n9 h9 tk9 hP F9 N9); (obtain ⟨e8, e9⟩ := hP); (subst e8); (replace e9 := Eq.symm e9); (subst e9); (try dsimp only); (try k_fold)))
  k_with "compareOp Eq ref ref" => ((k_here; k_dflt (refine' eq_nil ?zzk0 ?zzk1 ?zzk2 ?zzk3 ?zzk4 ?zzk5 ?_; (case zzk0 => k_asm); (case zzk1 => k_asm); (case zzk2 => k_mem); (case zzk3 => k_mem); (case zzk4 => assumption); (case zzk5 => ktr_units)); (try dsimp only)))
  k_with "compareOp NotEq ref ref" => ((k_here; k_dflt (refine' ne_nil ?zzk0 ?zzk1 ?zzk2 ?zzk3 ?zzk4 ?zzk5 ?_; (case zzk0 => k_asm); (case zzk1 => k_asm); (case zzk2 => k_mem); (case zzk3 => k_mem); (case zzk4 => assumption); (case zzk5 => ktr_units)); (try dsimp only)))
  k_with "exec Assign cons ListComp" => (k_dflt (k_extra "my_lcA"))
  k_with "my_thr" => ((intro e9 s9 hb9 T9; (try dsimp only at T9 ⊢); (repeat k_unfold); refine x_up (by assumption) (by assumption) rfl rfl rfl ⟨rfl, rfl, rfl⟩ T9 (fun s8 T8 => ?_)))
  k_with "call ref" => ((k_here; k_dflt ((refine' CallsX.use (malformed_spec _ _ _ _ (by decide +kernel)) ?zzk1 ?zzk2 ?zzk3 ?zzk4 ?zzk5 ?zzkK ?zzkd ?zzku ?_ ?_); walk_at "my_use"; (all_goals first | walk_at "my_thr" | (intro v9 n9 h9 tk9 hP; exact hP.elim)))))
  k_with "my_bare" => (first | exact BytesAre.nil | (refine' BytesAre.cons ?zzba ?zzbb; (case zzba => exact rfl); (case zzbb => walk_at "my_bare")))
  k_with "compareOp In bytes ref" => ((k_here; k_dflt ((refine' in_tuple_bytes ?zzk1 ?zzk2 ?zzk3 ?_); (case zzk1 => first | exact News.isTup (by k_asm) (by k_mem) | exact tupK (by k_in) (by k_is)); (case zzk2 => walk_at "my_bare"); (case zzk3 => first | assumption | rfl)); (try dsimp only)))
  k_with "compareOp NotIn bytes ref" => ((k_here; k_dflt ((refine' notIn_tuple_bytes ?zzk1 ?zzk2 ?zzk3 ?_); (case zzk1 => first | exact News.isTup (by k_asm) (by k_mem) | exact tupK (by k_in) (by k_is)); (case zzk2 => walk_at "my_bare"); (case zzk3 => first | assumption | rfl)); (try dsimp only)))
  k_with "compareOp Eq bytes bytes" => (k_dflt ((refine' eq_bytesI ?zzk1 ?zzk2 ?_); (case zzk1 => first | assumption | rfl); (case zzk2 => first | assumption | rfl)))
  k_with "compareOp NotEq bytes bytes" => (k_dflt ((refine' ne_bytesI ?zzk1 ?zzk2 ?_); (case zzk1 => first | assumption | rfl); (case zzk2 => first | assumption | rfl)))
  k_with "eval Dict nil nil" => ((k_here; k_dflt (refine' newDictB ?zzk1 ?zzk2 (TopRead.nolimit (by k_asm)) ?_; (case zzk1 => k_asm); (case zzk2 => k_asm); k_whole); intro d' h' o' F' N' l1 lo' hs'; (try k_lt l1); (try k_sweep)))
  k_with "compareOp In bytes ref" => ((k_here; k_dflt (first | refine inB (by k_asm) (by k_mem) (by k_asm) (by k_asm) true (by kernel_rfl!) ?_ | refine inB (by k_asm) (by k_mem) (by k_asm) (by k_asm) false (by kernel_rfl!) ?_)))
  k_with "compareOp NotIn bytes ref" => ((k_here; k_dflt (first | refine notInB (by k_asm) (by k_mem) (by k_asm) (by k_asm) true (by kernel_rfl!) ?_ | refine notInB (by k_asm) (by k_mem) (by k_asm) (by k_asm) false (by kernel_rfl!) ?_)))
  k_with "setItem ref bytes" => ((k_here; k_dflt (refine' setB ?zzF ?zzN ?zzU ?zzd ?zzz ?_; (case zzF => k_asm); (case zzN => k_asm); (case zzU => k_updF); (case zzd => k_asm); (case zzz => (rw [sizeLine_eq]; exact Nat.le_of_ble_eq_true (by kernel_rfl)))); intro h' o' F' N' hd'; (try dsimp only at N')))
  k_with "subscriptTail" => ((k_here; (with_reducible show wpAny _ _ (subscriptTail _ _ (Value.ref _) (Value.bytes _ _)) _ _ _); k_dflt (refine itemB (by k_asm) (by k_mem) (by k_asm) (by kernel_rfl) ?_)))
  k_with "call ref" => ((k_here; k_dflt ((refine' CallsX.use (check_field_spec _ _ _ _ _ _ _ _ (by first | assumption | rfl) (by first | assumption | rfl) (by first | assumption | decide +kernel | omega) (by first | assumption | decide +kernel | omega) (by first | assumption | decide +kernel) (by first | assumption | decide +kernel) (by first | assumption | decide +kernel)) ?zzk1 ?zzk2 ?zzk3 ?zzk4 ?zzk5 ?zzkK ?zzkd ?zzku ?_ ?_); walk_at "my_use"; (all_goals first | walk_at "my_thr" | ((intro v9 n9 h9 tk9 hP F9 N9); (obtain ⟨e8, e9, h8⟩ := hP); (subst e8); (replace e9 := Eq.symm e9); (subst e9); (try dsimp only); (try k_fold))))))
  unfold CallsX
  k_fill
  intro dp un gd cn cs a ccd cl outer A₀ base h₀ L m s Q E mean mg mb B F X N T hk hdp hun hret hthr
  have hzb1 : b1.size ≤ 16 := by rw [← KBw.ints_length, hb1]; exact hz1
  have hzb2 : b2.size ≤ 16 := by rw [← KBw.ints_length, hb2]; exact hz2
  have l1 : KBw.bInts #[58, 109, 101, 116, 104, 111, 100] = [58, 109, 101, 116, 104, 111, 100] := by decide +kernel
  have l2 : KBw.bInts #[58, 115, 99, 104, 101, 109, 101] = [58, 115, 99, 104, 101, 109, 101] := by decide +kernel
  have l3 : KBw.bInts #[58, 112, 97, 116, 104] = [58, 112, 97, 116, 104] := by decide +kernel
  have l4 : KBw.bInts #[58, 97, 117, 116, 104, 111, 114, 105, 116, 121] = [58, 97, 117, 116, 104, 111, 114, 105, 116, 121] := by decide +kernel
  have l5 : KBw.bInts #[47] = [47] := by decide +kernel
  have l6 : KBw.bInts #[104] = [104] := by decide +kernel
  walk_at "my_enter"
  k_steps
  · refine hret _ _ _ _ ⟨_, _, rfl, by assumption, by assumption, rfl, by assumption, by assumption⟩ (by assumption) (cb_drop (by assumption) ?_)
    intro p hp
    exact .tail _ hp
  all_goals first | exact hthr _ _ (.inl (by assumption)) (by assumption) | exact hthr _ _ (.inr (by assumption)) (by assumption) | exact absurd (show valOk [47] = false by assumption) (by decide +kernel) | exact absurd (show valOk [104] = false by assumption) (by decide +kernel)
end SM6
/-! # M7 -/
section SM7
set_option maxHeartbeats 4000000 in
theorem values_of_spec (w : World) (fl p1 p2 p3 p4 : Addr) (c c1 c2 c3 c4 : Nat) (b1 b2 : Array UInt8) (t1 t2 t3 t4 u1 u2 u3 u4 : Tok) (news : Led) (hfl : (fl, listOf #[.ref p1, .ref p2, .ref p3, .ref p4] c) ∈ news) (hm1 : (p1, ({ cls := .type "tuple", data := .seq #[.bytes #[58, 109, 101, 116, 104, 111, 100] t1, .bytes b1 u1] c1 } : Obj)) ∈ news) (hm2 : (p2, ({ cls := .type "tuple", data := .seq #[.bytes #[58, 115, 99, 104, 101, 109, 101] t2, .bytes b2 u2] c2 } : Obj)) ∈ news) (hm3 : (p3, ({ cls := .type "tuple", data := .seq #[.bytes #[58, 112, 97, 116, 104] t3, .bytes #[47] u3] c3 } : Obj)) ∈ news) (hm4 : (p4, ({ cls := .type "tuple", data := .seq #[.bytes #[58, 97, 117, 116, 104, 111, 114, 105, 116, 121] t4, .bytes #[104] u4] c4 } : Obj)) ∈ news) (nb : Array UInt8) (nt : Tok) (js : List Int) (hn : KBw.bInts nb = js) (ho : js = [104, 111, 115, 116] ∨ js = [99, 111, 110, 116, 101, 110, 116, 45, 108, 101, 110, 103, 116, 104]) :
    Calls w 4 94 [.ref fl, .bytes nb nt] news
      (fun v news' => ∃ r cr, v = .ref r ∧ news' = (r, listOf #[] cr) :: news ∧ ∀ p ∈ news, p.1 ≠ r) := by
  k_with_none
  k_with "my_enter" => ((refine wpAny_call ?_; k_dflt (refine' code_def ?zzk1 ?zzk2 ?zzk3 ?zzk4 ?zzk5 ?zzkA ?zzkF ?zzkK ?zzk6 ?zzk7 ?zzk8 ?zzk9 ?zzkB ?_ ?zzc2 ?zzc3 ?zzc4 ?zzc5; (case zzkA => exact rfl); (case zzkF => exact rfl); (case zzkK => first | exact rfl | assumption); (case zzk1 => k_asm); (case zzk2 => k_asm); (case zzk3 => k_asm); (case zzk4 => k_asm); (case zzk5 => k_asm); (case zzk6 => k_is); (case zzk7 => k_is); (case zzk8 => ktr_room); (case zzk9 => exact BindsTo.of_eq rfl); (case zzc5 => decide); (case zzkB => exact locs rfl); (case zzc2 => exact rfl); (case zzc3 => exact rfl); (case zzc4 => exact rfl); k_whole; intro g' L' h' FG' F' N' B' X' T'; (try dsimp only); (try k_fold))))
  k_with "my_bools" => (first | rfl | (simp only [*, Bool.not_true, Bool.not_false, Bool.and_true, Bool.true_and, Bool.and_false, Bool.false_and, Bool.or_true, Bool.or_false, Bool.true_or, Bool.false_or]; done) | (refine Bool.eq_iff_iff.mpr ?_; simp only [isLet, isName, isSch, nameSigns_eq, schemeSigns_eq, decide_eq_true_eq, Bool.or_eq_true, Bool.and_eq_true, Bool.not_eq_true', Bool.not_eq_true, okOct, decide_eq_false_iff_not, Bool.or_eq_false_iff, Bool.and_eq_false_iff, Bool.not_eq_false'] at *; first | omega | (simp_all; done) | (simp_all; omega)))
  k_with "my_use" => (((case zzk1 => k_asm); (case zzk2 => k_asm); (case zzk3 => k_asm); (case zzk4 => k_asm); (case zzk5 => k_asm); (case zzkK => first | exact rfl | assumption); (case zzkd => ktr_room); (case zzku => ktr_units)))
  k_with "compareOp In int bytes" => ((refine in_bytes_int (by assumption) (by assumption) ?_))
  k_with "compareOp NotIn int bytes" => ((refine notIn_bytes_int (by assumption) (by assumption) ?_))
  k_with "eval ListComp" => (k_dflt (k_extra "my_lc"))
  k_with "LcT" => ((refine ⟨?_, _, _, rfl, by assumption, by assumption⟩; walk_at "my_bools"))
  k_with "call ref" => ((k_here; (refine' Calls.use (is_letter_spec _ _ _ _) ?zzk1 ?zzk2 ?zzk3 ?zzk4 ?zzk5 ?zzkK ?zzkd ?zzku ?_); walk_at "my_use"; (intro v9 n9 h9 tk9 hP F9 N9); (obtain ⟨e8, e9⟩ := hP); (subst e8); (replace e9 := Eq.symm e9); (subst e9); (try dsimp only); (try k_fold)))
  k_with "call ref" => ((k_here; (refine' Calls.use (is_name_spec _ _ _ _ (by assumption) (by assumption)) ?zzk1 ?zzk2 ?zzk3 ?zzk4 ?zzk5 ?zzkK ?zzkd ?zzku ?_); walk_at "my_use"; (intro v9 n9 h9 tk9 hP F9 N9); (obtain ⟨e8, e9⟩ := hP); (subst e8); (replace e9 := Eq.symm e9); (subst e9); (try dsimp only); (try k_fold)))
  k_with "compareOp Eq ref ref" => ((k_here; k_dflt (refine' eq_nil ?zzk0 ?zzk1 ?zzk2 ?zzk3 ?zzk4 ?zzk5 ?_; (case zzk0 => k_asm); (case zzk1 => k_asm); (case zzk2 => k_mem); (case zzk3 => k_mem); (case zzk4 => assumption); (case zzk5 => ktr_units)); (try dsimp only)))
  k_with "compareOp NotEq ref ref" => ((k_here; k_dflt (refine' ne_nil ?zzk0 ?zzk1 ?zzk2 ?zzk3 ?zzk4 ?zzk5 ?_; (case zzk0 => k_asm); (case zzk1 => k_asm); (case zzk2 => k_mem); (case zzk3 => k_mem); (case zzk4 => assumption); (case zzk5 => ktr_units)); (try dsimp only)))
  k_with "exec Assign cons ListComp" => (k_dflt (k_extra "my_lcA"))
  k_with "my_thr" => ((intro e9 s9 hb9 T9; (try dsimp only at T9 ⊢); (repeat k_unfold); refine x_up (by assumption) (by assumption) rfl rfl rfl ⟨rfl, rfl, rfl⟩ T9 (fun s8 T8 => ?_)))
  k_with "call ref" => ((k_here; k_dflt ((refine' CallsX.use (malformed_spec _ _ _ _ (by decide +kernel)) ?zzk1 ?zzk2 ?zzk3 ?zzk4 ?zzk5 ?zzkK ?zzkd ?zzku ?_ ?_); walk_at "my_use"; (all_goals first | walk_at "my_thr" | (intro v9 n9 h9 tk9 hP; exact hP.elim)))))
  k_with "my_bare" => (first | exact BytesAre.nil | (refine' BytesAre.cons ?zzba ?zzbb; (case zzba => exact rfl); (case zzbb => walk_at "my_bare")))
  k_with "compareOp In bytes ref" => ((k_here; k_dflt ((refine' in_tuple_bytes ?zzk1 ?zzk2 ?zzk3 ?_); (case zzk1 => first | exact News.isTup (by k_asm) (by k_mem) | exact tupK (by k_in) (by k_is)); (case zzk2 => walk_at "my_bare"); (case zzk3 => first | assumption | rfl)); (try dsimp only)))
  k_with "compareOp NotIn bytes ref" => ((k_here; k_dflt ((refine' notIn_tuple_bytes ?zzk1 ?zzk2 ?zzk3 ?_); (case zzk1 => first | exact News.isTup (by k_asm) (by k_mem) | exact tupK (by k_in) (by k_is)); (case zzk2 => walk_at "my_bare"); (case zzk3 => first | assumption | rfl)); (try dsimp only)))
  k_with "compareOp Eq bytes bytes" => (k_dflt ((refine' eq_bytesI ?zzk1 ?zzk2 ?_); (case zzk1 => first | assumption | rfl); (case zzk2 => first | assumption | rfl)))
  k_with "compareOp NotEq bytes bytes" => (k_dflt ((refine' ne_bytesI ?zzk1 ?zzk2 ?_); (case zzk1 => first | assumption | rfl); (case zzk2 => first | assumption | rfl)))
  k_with "eval Dict nil nil" => ((k_here; k_dflt (refine' newDictB ?zzk1 ?zzk2 (TopRead.nolimit (by k_asm)) ?_; (case zzk1 => k_asm); (case zzk2 => k_asm); k_whole); intro d' h' o' F' N' l1 lo' hs'; (try k_lt l1); (try k_sweep)))
  k_with "compareOp In bytes ref" => ((k_here; k_dflt (first | refine inB (by k_asm) (by k_mem) (by k_asm) (by k_asm) true (by kernel_rfl!) ?_ | refine inB (by k_asm) (by k_mem) (by k_asm) (by k_asm) false (by kernel_rfl!) ?_)))
  k_with "compareOp NotIn bytes ref" => ((k_here; k_dflt (first | refine notInB (by k_asm) (by k_mem) (by k_asm) (by k_asm) true (by kernel_rfl!) ?_ | refine notInB (by k_asm) (by k_mem) (by k_asm) (by k_asm) false (by kernel_rfl!) ?_)))
  k_with "setItem ref bytes" => ((k_here; k_dflt (refine' setB ?zzF ?zzN ?zzU ?zzd ?zzz ?_; (case zzF => k_asm); (case zzN => k_asm); (case zzU => k_updF); (case zzd => k_asm); (case zzz => (rw [sizeLine_eq]; exact Nat.le_of_ble_eq_true (by kernel_rfl)))); intro h' o' F' N' hd'; (try dsimp only at N')))
  k_with "subscriptTail" => ((k_here; (with_reducible show wpAny _ _ (subscriptTail _ _ (Value.ref _) (Value.bytes _ _)) _ _ _); k_dflt (refine itemB (by k_asm) (by k_mem) (by k_asm) (by kernel_rfl) ?_)))
  k_with "my_enterC" => ((refine wpAny_call ?_; k_dflt (refine' code_defC ?zzk1 ?zzk2 ?zzk3 ?zzk4 ?zzk5 ?zzkA ?zzkF ?zzkK ?zzk6 ?zzk7 ?zzk8 ?zzk9 ?zzkB ?zzkD ?_ ?zzc2 ?zzc3 ?zzc4; (case zzkA => exact rfl); (case zzkF => exact rfl); (case zzkK => first | exact rfl | assumption); (case zzk1 => k_asm); (case zzk2 => k_asm); (case zzk3 => k_asm); (case zzk4 => k_asm); (case zzk5 => k_asm); (case zzk6 => k_is); (case zzk7 => k_is); (case zzk8 => ktr_room); (case zzk9 => exact BindsTo.of_eq rfl); (case zzkB => exact rfl); (case zzkD => decide +kernel); (case zzc2 => exact rfl); (case zzc3 => exact rfl); (case zzc4 => exact rfl); k_whole; intro g' L' h' tk' cells' FG' F' N' Y' B' X' T' l1; (try k_lt l1); k_cells Y'; (try simp only [List.cons_append, List.nil_append] at N'); (try dsimp only); (try k_lift B'); (try k_fold))))
  k_with "call ref" => ((k_here; k_dflt ((refine' CallsX.use (check_field_spec _ _ _ _ _ _ _ _ (by first | assumption | rfl) (by first | assumption | rfl) (by first | assumption | decide +kernel | omega) (by first | assumption | decide +kernel | omega) (by first | assumption | decide +kernel) (by first | assumption | decide +kernel) (by first | assumption | decide +kernel)) ?zzk1 ?zzk2 ?zzk3 ?zzk4 ?zzk5 ?zzkK ?zzkd ?zzku ?_ ?_); walk_at "my_use"; (all_goals first | walk_at "my_thr" | ((intro v9 n9 h9 tk9 hP F9 N9); (obtain ⟨e8, e9, h8⟩ := hP); (subst e8); (replace e9 := Eq.symm e9); (subst e9); (try dsimp only); (try k_fold))))))
  unfold Calls
  k_fill
  intro dp un gd cn cs a ccd cl outer A₀ base h₀ L m s Q E mean mg mb B F X N T hk hdp hun hret
  have l1 : KBw.bInts #[58, 109, 101, 116, 104, 111, 100] = [58, 109, 101, 116, 104, 111, 100] := by decide +kernel
  have l2 : KBw.bInts #[58, 115, 99, 104, 101, 109, 101] = [58, 115, 99, 104, 101, 109, 101] := by decide +kernel
  have l3 : KBw.bInts #[58, 112, 97, 116, 104] = [58, 112, 97, 116, 104] := by decide +kernel
  have l4 : KBw.bInts #[58, 97, 117, 116, 104, 111, 114, 105, 116, 121] = [58, 97, 117, 116, 104, 111, 114, 105, 116, 121] := by decide +kernel
  have l5 : KBw.bInts #[47] = [47] := by decide +kernel
  have l6 : KBw.bInts #[104] = [104] := by decide +kernel
  k_with "my_lc" => (
    refine' lc_none (fun v => ∃ b t, v = .bytes b t ∧ (KBw.bInts b == js) = false) ?lF ?lN ?lh ?lm ?lits ?li ?lt ?_
    (case li => (intro Q' hQ'; walk1; exact hQ'))
    (case lF => k_asm)
    (case lN => k_asm)
    (case lh => rfl)
    (case lm => (repeat first | assumption | refine List.Mem.tail _ ?_))
    (case lits => (intro v hv; simp only [List.mem_cons, List.not_mem_nil, or_false] at hv; rcases hv with h | h | h | h <;> subst h <;> exact ⟨_, _, _, _, rfl, by (repeat first | assumption | refine List.Mem.tail _ ?_), _, _, rfl, by rcases ho with h | h <;> (rw [h]; decide +kernel)⟩))
    (case lt => (rintro _ v₂ C oC ot I oI D h tk E' ⟨b9, t9, rfl, hne⟩ hC hx hx2 F' N'; dsimp only; k_steps))
    intro D h tk F' N' hD9
    dsimp only)
  walk_at "my_enterC"
  k_steps
  refine hret _ _ _ _ ⟨_, 0, rfl, rfl, fun p hp => (by assumption : ∀ p ∈ _ :: _, p.1 ≠ _) p (.tail _ hp)⟩ (by assumption) (cb_drop (by assumption) ?_)
  intro p hp
  rcases List.mem_cons.mp hp with rfl | hp
  · exact .head _
  · exact .tail _ (.tail _ hp)
end SM7
/-! # M15 -/
section SM15
local macro_rules | `(tactic| k_all) => `(tactic| (intro p9 hp9; refine Nat.ne_of_lt (Nat.lt_succ_of_lt ?_); exact allLt9 (by assumption) hp9))
abbrev lettersOf : Array UInt8 := #[97, 98, 99, 100, 101, 102, 103, 104, 105, 106, 107, 108, 109, 110, 111, 112, 113, 114, 115, 116, 117, 118, 119, 120, 121, 122, 65, 66, 67, 68, 69, 70, 71, 72, 73, 74, 75, 76, 77, 78, 79, 80, 81, 82, 83, 84, 85, 86, 87, 88, 89, 90, 48, 49, 50, 51, 52, 53, 54, 55, 56, 57]
def isAlnum (x : Int) : Bool := isLet x || (decide (48 ≤ x) && decide (x ≤ 57))
def wordOk (ks ms : List Int) : Bool := !ks.isEmpty && ks.all fun x => isAlnum x || ms.contains x
theorem byte_all2 {p q : Int → Bool} (h : ∀ n : Fin 256, p (n.val : Int) = q (n.val : Int)) {x : Int} (h0 : 0 ≤ x) (h1 : x < 256) : p x = q x := by
  have := h ⟨x.toNat, by omega⟩
  simp only [Int.toNat_of_nonneg h0] at this
  exact this
theorem letters_eq {x : Int} (h0 : 0 ≤ x) (h1 : x < 256) : (KBw.bInts lettersOf).contains x = isAlnum x := byte_all2 (p := fun x => (KBw.bInts lettersOf).contains x) (by decide +kernel) h0 h1
theorem bInts_app (a c : Array UInt8) : KBw.bInts (a ++ c) = KBw.bInts a ++ KBw.bInts c := by
  simp [KBw.bInts]
theorem isw_1 {b : Array UInt8} {ks ms : List Int} (_ : KBw.bInts b = ks) (h : (ks == KBw.bInts #[]) = true) : (!ks == KBw.bInts #[]) = wordOk ks ms := by
  rw [show KBw.bInts #[] = [] from by decide +kernel] at h ⊢
  rw [h, eq_of_beq h]; rfl
theorem isw_2 {b c : Array UInt8} {ks ms : List Int} (hb : KBw.bInts b = ks) (hc : KBw.bInts c = ms) (h : (ks == KBw.bInts #[]) = false) : (List.filter (fun x => !(KBw.bInts (lettersOf ++ c)).contains x) (KBw.bInts b)).isEmpty = wordOk ks ms := by
  rw [show KBw.bInts #[] = [] from by decide +kernel] at h
  rw [filter_not (fun x => (KBw.bInts (lettersOf ++ c)).contains x), hb, wordOk]
  have e : ks.isEmpty = false := by cases ks with
    | nil => cases h
    | cons _ _ => rfl
  rw [e, Bool.not_false, Bool.true_and, Bool.eq_iff_iff, List.all_eq_true, List.all_eq_true]
  have z : ∀ x ∈ ks, (KBw.bInts (lettersOf ++ c)).contains x = (isAlnum x || ms.contains x) := fun x hx => by
    obtain ⟨h0, h1⟩ := KBw.ints_in (b := b) (hb ▸ hx)
    rw [bInts_app, hc, ← letters_eq h0 h1, Bool.eq_iff_iff]
    simp only [List.contains_iff_mem, List.mem_append, Bool.or_eq_true]
  exact ⟨fun y x hx => (z x hx).symm.trans (y x hx), fun y x hx => (z x hx).trans (y x hx)⟩
set_option maxHeartbeats 4000000 in
theorem is_word_spec (w : World) (b : Array UInt8) (t : Tok) (ks : List Int) (hb : KBw.bInts b = ks) (hz : ks.length ≤ 6) (c : Array UInt8) (u : Tok) (ms : List Int) (hc : KBw.bInts c = ms) (hm : ms.length ≤ 20) (news : Led) :
    Calls w 4 172 [.bytes b t, .bytes c u] news (fun v news' => v = .bool (wordOk ks ms) ∧ news' = news) := by
  k_with_none
  k_with "my_enter" => ((refine wpAny_call ?_; k_dflt (refine' code_def ?zzk1 ?zzk2 ?zzk3 ?zzk4 ?zzk5 ?zzkA ?zzkF ?zzkK ?zzk6 ?zzk7 ?zzk8 ?zzk9 ?zzkB ?_ ?zzc2 ?zzc3 ?zzc4 ?zzc5; (case zzkA => exact rfl); (case zzkF => exact rfl); (case zzkK => first | exact rfl | assumption); (case zzk1 => k_asm); (case zzk2 => k_asm); (case zzk3 => k_asm); (case zzk4 => k_asm); (case zzk5 => k_asm); (case zzk6 => k_is); (case zzk7 => k_is); (case zzk8 => ktr_room); (case zzk9 => exact BindsTo.of_eq rfl); (case zzc5 => decide); (case zzkB => exact locs rfl); (case zzc2 => exact rfl); (case zzc3 => exact rfl); (case zzc4 => exact rfl); k_whole; intro g' L' h' FG' F' N' B' X' T'; (try dsimp only); (try k_fold))))
  k_with "my_bools" => (first | rfl | (simp only [*, Bool.not_true, Bool.not_false, Bool.and_true, Bool.true_and, Bool.and_false, Bool.false_and, Bool.or_true, Bool.or_false, Bool.true_or, Bool.false_or]; done) | (refine Bool.eq_iff_iff.mpr ?_; simp only [isLet, isName, isSch, nameSigns_eq, schemeSigns_eq, decide_eq_true_eq, Bool.or_eq_true, Bool.and_eq_true, Bool.not_eq_true', Bool.not_eq_true, okOct, decide_eq_false_iff_not, Bool.or_eq_false_iff, Bool.and_eq_false_iff, Bool.not_eq_false'] at *; first | omega | (simp_all; done) | (simp_all; omega)))
  k_with "my_use" => (((case zzk1 => k_asm); (case zzk2 => k_asm); (case zzk3 => k_asm); (case zzk4 => k_asm); (case zzk5 => k_asm); (case zzkK => first | exact rfl | assumption); (case zzkd => ktr_room); (case zzku => ktr_units)))
  k_with "compareOp In int bytes" => ((refine in_bytes_int (by assumption) (by assumption) ?_))
  k_with "compareOp NotIn int bytes" => ((refine notIn_bytes_int (by assumption) (by assumption) ?_))
  k_with "eval ListComp" => (k_dflt (k_extra "my_lc"))
  k_with "LcT" => ((refine ⟨?_, _, _, rfl, by assumption, by assumption⟩; walk_at "my_bools"))
  k_with "call ref" => ((k_here; (refine' Calls.use (is_letter_spec _ _ _ _) ?zzk1 ?zzk2 ?zzk3 ?zzk4 ?zzk5 ?zzkK ?zzkd ?zzku ?_); walk_at "my_use"; (intro v9 n9 h9 tk9 hP F9 N9); (obtain ⟨e8, e9⟩ := hP); (subst e8); (replace e9 := Eq.symm e9); (subst e9); (try dsimp only); (try k_fold)))
  k_with "call ref" => ((k_here; (refine' Calls.use (is_name_spec _ _ _ _ (by assumption) (by assumption)) ?zzk1 ?zzk2 ?zzk3 ?zzk4 ?zzk5 ?zzkK ?zzkd ?zzku ?_); walk_at "my_use"; (intro v9 n9 h9 tk9 hP F9 N9); (obtain ⟨e8, e9⟩ := hP); (subst e8); (replace e9 := Eq.symm e9); (subst e9); (try dsimp only); (try k_fold)))
  k_with "compareOp Eq ref ref" => ((k_here; k_dflt (refine' eq_nil ?zzk0 ?zzk1 ?zzk2 ?zzk3 ?zzk4 ?zzk5 ?_; (case zzk0 => k_asm); (case zzk1 => k_asm); (case zzk2 => k_mem); (case zzk3 => k_mem); (case zzk4 => assumption); (case zzk5 => ktr_units)); (try dsimp only)))
  k_with "compareOp NotEq ref ref" => ((k_here; k_dflt (refine' ne_nil ?zzk0 ?zzk1 ?zzk2 ?zzk3 ?zzk4 ?zzk5 ?_; (case zzk0 => k_asm); (case zzk1 => k_asm); (case zzk2 => k_mem); (case zzk3 => k_mem); (case zzk4 => assumption); (case zzk5 => ktr_units)); (try dsimp only)))
  k_with "exec Assign cons ListComp" => (k_dflt (k_extra "my_lcA"))
  k_with "my_thr" => ((intro e9 s9 hb9 T9; (try dsimp only at T9 ⊢); (repeat k_unfold); refine x_up (by assumption) (by assumption) rfl rfl rfl ⟨rfl, rfl, rfl⟩ T9 (fun s8 T8 => ?_)))
  k_with "call ref" => ((k_here; k_dflt ((refine' CallsX.use (malformed_spec _ _ _ _ (by decide +kernel)) ?zzk1 ?zzk2 ?zzk3 ?zzk4 ?zzk5 ?zzkK ?zzkd ?zzku ?_ ?_); walk_at "my_use"; (all_goals first | walk_at "my_thr" | (intro v9 n9 h9 tk9 hP; exact hP.elim)))))
  k_with "my_bare" => (first | exact BytesAre.nil | (refine' BytesAre.cons ?zzba ?zzbb; (case zzba => exact rfl); (case zzbb => walk_at "my_bare")))
  k_with "compareOp In bytes ref" => ((k_here; k_dflt ((refine' in_tuple_bytes ?zzk1 ?zzk2 ?zzk3 ?_); (case zzk1 => first | exact News.isTup (by k_asm) (by k_mem) | exact tupK (by k_in) (by k_is)); (case zzk2 => walk_at "my_bare"); (case zzk3 => first | assumption | rfl)); (try dsimp only)))
  k_with "compareOp NotIn bytes ref" => ((k_here; k_dflt ((refine' notIn_tuple_bytes ?zzk1 ?zzk2 ?zzk3 ?_); (case zzk1 => first | exact News.isTup (by k_asm) (by k_mem) | exact tupK (by k_in) (by k_is)); (case zzk2 => walk_at "my_bare"); (case zzk3 => first | assumption | rfl)); (try dsimp only)))
  k_with "compareOp Eq bytes bytes" => (k_dflt ((refine' eq_bytesI ?zzk1 ?zzk2 ?_); (case zzk1 => first | assumption | rfl); (case zzk2 => first | assumption | rfl)))
  k_with "compareOp NotEq bytes bytes" => (k_dflt ((refine' ne_bytesI ?zzk1 ?zzk2 ?_); (case zzk1 => first | assumption | rfl); (case zzk2 => first | assumption | rfl)))
  k_with "eval Dict nil nil" => ((k_here; k_dflt (refine' newDictB ?zzk1 ?zzk2 (TopRead.nolimit (by k_asm)) ?_; (case zzk1 => k_asm); (case zzk2 => k_asm); k_whole); intro d' h' o' F' N' l1 lo' hs'; (try k_lt l1); (try k_sweep)))
  k_with "compareOp In bytes ref" => ((k_here; k_dflt (first | refine inB (by k_asm) (by repeat first | exact List.Mem.head _ | assumption | refine List.Mem.tail _ ?_) (by k_asm) (by k_asm) true (by kernel_rfl!) ?_ | refine inB (by k_asm) (by repeat first | exact List.Mem.head _ | assumption | refine List.Mem.tail _ ?_) (by k_asm) (by k_asm) false (by kernel_rfl!) ?_)))
  k_with "compareOp NotIn bytes ref" => ((k_here; k_dflt (first | refine notInB (by k_asm) (by repeat first | exact List.Mem.head _ | assumption | refine List.Mem.tail _ ?_) (by k_asm) (by k_asm) true (by kernel_rfl!) ?_ | refine notInB (by k_asm) (by repeat first | exact List.Mem.head _ | assumption | refine List.Mem.tail _ ?_) (by k_asm) (by k_asm) false (by kernel_rfl!) ?_)))
  k_with "setItem ref bytes" => ((k_here; k_dflt (refine' setB ?zzF ?zzN ?zzU ?zzd ?zzz ?_; (case zzF => k_asm); (case zzN => k_asm); (case zzU => k_updF); (case zzd => k_asm); (case zzz => (rw [sizeLine_eq]; exact Nat.le_of_ble_eq_true (by kernel_rfl)))); intro h' o' F' N' hd'; (try dsimp only at N')))
  k_with "subscriptTail" => ((k_here; (with_reducible show wpAny _ _ (subscriptTail _ _ (Value.ref _) (Value.bytes _ _)) _ _ _); k_dflt (refine itemB (by k_asm) (by repeat first | exact List.Mem.head _ | assumption | refine List.Mem.tail _ ?_) (by k_asm) (by first | rfl | with_unfolding_all rfl) ?_)))
  k_with "my_enterC" => ((refine wpAny_call ?_; k_dflt (refine' code_defC ?zzk1 ?zzk2 ?zzk3 ?zzk4 ?zzk5 ?zzkA ?zzkF ?zzkK ?zzk6 ?zzk7 ?zzk8 ?zzk9 ?zzkB ?zzkD ?_ ?zzc2 ?zzc3 ?zzc4; (case zzkA => exact rfl); (case zzkF => exact rfl); (case zzkK => first | exact rfl | assumption); (case zzk1 => k_asm); (case zzk2 => k_asm); (case zzk3 => k_asm); (case zzk4 => k_asm); (case zzk5 => k_asm); (case zzk6 => k_is); (case zzk7 => k_is); (case zzk8 => ktr_room); (case zzk9 => exact BindsTo.of_eq rfl); (case zzkB => exact rfl); (case zzkD => decide +kernel); (case zzc2 => exact rfl); (case zzc3 => exact rfl); (case zzc4 => exact rfl); k_whole; intro g' L' h' tk' cells' FG' F' N' Y' B' X' T' l1; (try k_lt l1); k_cells Y'; (try simp only [List.cons_append, List.nil_append] at N'); (try dsimp only); (try k_lift B'); (try k_fold))))
  unfold Calls
  k_fill
  intro dp un gd cn cs a ccd cl outer A₀ base h₀ L m s Q E mean mg mb B F X N T hk hdp hun hret
  have hzb : b.size ≤ 16 := by rw [← KBw.ints_length, hb]; omega
  have hzc : c.size ≤ 20 := by rw [← KBw.ints_length, hc]; omega
  k_with "my_lc" => (
    refine' lc_bytes (fun x => !(KBw.bInts (lettersOf ++ c)).contains x) ?lF ?lN ?lh ?lz ?li ?lt ?_
    (case li => (intro Q' hQ'; walk1; exact hQ'))
    (case lF => k_asm)
    (case lN => k_asm)
    (case lh => rfl)
    (case lz => (rw [sizeLine_eq]; omega))
    (case lt => (intro k t I oI C oC D ys m₂ h tk E' h0 h1 hC hx F' N'; dsimp only; k_steps))
    intro D vs h tk F' N' off hI
    dsimp only)
  walk_at "my_enterC"
  k_steps
  · exact hret _ news _ _ ⟨congrArg Value.bool (isw_1 hb (by assumption)), rfl⟩ (by assumption) (cb_drop (by assumption) (fun _ hp => by repeat first | exact hp | refine List.Mem.tail _ ?_))
  · exact hret _ news _ _ ⟨congrArg Value.bool (isw_2 hb hc (by assumption)), rfl⟩ (by assumption) (cb_drop (by assumption) (fun _ hp => by repeat first | exact hp | refine List.Mem.tail _ ?_))
end SM15
/-! # M16 -/
section SM16
local macro_rules | `(tactic| k_all) => `(tactic| assumption)
local macro_rules | `(tactic| k_ne) => `(tactic| assumption)
def DrawP (inner : Addr) (n : Int) (many : Int) (v : Value) (oa ob : Obj) : Prop := ∃ x tx tn cb vs ns ci, v = .int x tx ∧ 0 ≤ x ∧ x < many ∧ oa = listOf #[.ref inner, .int (n + 1) tn] cb ∧ ob = listOf vs.toArray ci ∧ IntsAre vs ns ∧ ns.length ≤ 40
theorem seq0 (y : Value) (us : List Value) : seqIndex? 0 (y :: us).toArray.size = some 0 := by
  simp [seqIndex?]
theorem fmod_in {x many : Int} (hm : 0 < many) : 0 ≤ x.fmod many ∧ x.fmod many < many := ⟨Int.fmod_nonneg_of_pos x hm, Int.fmod_lt_of_pos x hm⟩
set_option maxHeartbeats 4000000 in
theorem draw_spec (w : World) (box inner : Addr) (n : Int) (tn : Tok) (cb ci : Nat) (vs : List Value) (ns : List Int) (hI : IntsAre vs ns) (hz : ns.length ≤ 40) (hbi : box ≠ inner) (many : Int) (tm : Tok) (hm : 0 < many) :
    TwoC w 3 148 [.ref box, .int many tm] box inner (listOf #[.ref inner, .int n tn] cb) (listOf (vs : List Value).toArray ci) (DrawP inner n many) := by
  k_with_none
  k_with "my_enter" => ((refine wpAny_call ?_; k_dflt (refine' code_def ?zzk1 ?zzk2 ?zzk3 ?zzk4 ?zzk5 ?zzkA ?zzkF ?zzkK ?zzk6 ?zzk7 ?zzk8 ?zzk9 ?zzkB ?_ ?zzc2 ?zzc3 ?zzc4 ?zzc5; (case zzkA => exact rfl); (case zzkF => exact rfl); (case zzkK => first | exact rfl | assumption); (case zzk1 => k_asm); (case zzk2 => k_asm); (case zzk3 => k_asm); (case zzk4 => k_asm); (case zzk5 => k_asm); (case zzk6 => k_is); (case zzk7 => k_is); (case zzk8 => ktr_room); (case zzk9 => exact BindsTo.of_eq rfl); (case zzc5 => decide); (case zzkB => exact locs rfl); (case zzc2 => exact rfl); (case zzc3 => exact rfl); (case zzc4 => exact rfl); k_whole; intro g' L' h' FG' F' N' B' X' T'; (try dsimp only); (try k_fold))))
  k_with "my_bools" => (first | rfl | (simp only [*, Bool.not_true, Bool.not_false, Bool.and_true, Bool.true_and, Bool.and_false, Bool.false_and, Bool.or_true, Bool.or_false, Bool.true_or, Bool.false_or]; done) | (refine Bool.eq_iff_iff.mpr ?_; simp only [isLet, isName, isSch, nameSigns_eq, schemeSigns_eq, decide_eq_true_eq, Bool.or_eq_true, Bool.and_eq_true, Bool.not_eq_true', Bool.not_eq_true, okOct, decide_eq_false_iff_not, Bool.or_eq_false_iff, Bool.and_eq_false_iff, Bool.not_eq_false'] at *; first | omega | (simp_all; done) | (simp_all; omega)))
  k_with "my_use" => (((case zzk1 => k_asm); (case zzk2 => k_asm); (case zzk3 => k_asm); (case zzk4 => k_asm); (case zzk5 => k_asm); (case zzkK => first | exact rfl | assumption); (case zzkd => ktr_room); (case zzku => ktr_units)))
  k_with "compareOp In int bytes" => ((refine in_bytes_int (by assumption) (by assumption) ?_))
  k_with "compareOp NotIn int bytes" => ((refine notIn_bytes_int (by assumption) (by assumption) ?_))
  k_with "eval ListComp" => (k_dflt (k_extra "my_lc"))
  k_with "LcT" => ((refine ⟨?_, _, _, rfl, by assumption, by assumption⟩; walk_at "my_bools"))
  k_with "call ref" => ((k_here; (refine' Calls.use (is_letter_spec _ _ _ _) ?zzk1 ?zzk2 ?zzk3 ?zzk4 ?zzk5 ?zzkK ?zzkd ?zzku ?_); walk_at "my_use"; (intro v9 n9 h9 tk9 hP F9 N9); (obtain ⟨e8, e9⟩ := hP); (subst e8); (replace e9 := Eq.symm e9); (subst e9); (try dsimp only); (try k_fold)))
  k_with "call ref" => ((k_here; (refine' Calls.use (is_name_spec _ _ _ _ (by assumption) (by assumption)) ?zzk1 ?zzk2 ?zzk3 ?zzk4 ?zzk5 ?zzkK ?zzkd ?zzku ?_); walk_at "my_use"; (intro v9 n9 h9 tk9 hP F9 N9); (obtain ⟨e8, e9⟩ := hP); (subst e8); (replace e9 := Eq.symm e9); (subst e9); (try dsimp only); (try k_fold)))
  k_with "compareOp Eq ref ref" => ((k_here; k_dflt (refine' eq_nil ?zzk0 ?zzk1 ?zzk2 ?zzk3 ?zzk4 ?zzk5 ?_; (case zzk0 => k_asm); (case zzk1 => k_asm); (case zzk2 => k_mem); (case zzk3 => k_mem); (case zzk4 => assumption); (case zzk5 => ktr_units)); (try dsimp only)))
  k_with "compareOp NotEq ref ref" => ((k_here; k_dflt (refine' ne_nil ?zzk0 ?zzk1 ?zzk2 ?zzk3 ?zzk4 ?zzk5 ?_; (case zzk0 => k_asm); (case zzk1 => k_asm); (case zzk2 => k_mem); (case zzk3 => k_mem); (case zzk4 => assumption); (case zzk5 => ktr_units)); (try dsimp only)))
  k_with "exec Assign cons ListComp" => (k_dflt (k_extra "my_lcA"))
  k_with "my_thr" => ((intro e9 s9 hb9 T9; (try dsimp only at T9 ⊢); (repeat k_unfold); refine x_up (by assumption) (by assumption) rfl rfl rfl ⟨rfl, rfl, rfl⟩ T9 (fun s8 T8 => ?_)))
  k_with "call ref" => ((k_here; k_dflt ((refine' CallsX.use (malformed_spec _ _ _ _ (by decide +kernel)) ?zzk1 ?zzk2 ?zzk3 ?zzk4 ?zzk5 ?zzkK ?zzkd ?zzku ?_ ?_); walk_at "my_use"; (all_goals first | walk_at "my_thr" | (intro v9 n9 h9 tk9 hP; exact hP.elim)))))
  k_with "my_bare" => (first | exact BytesAre.nil | (refine' BytesAre.cons ?zzba ?zzbb; (case zzba => exact rfl); (case zzbb => walk_at "my_bare")))
  k_with "compareOp In bytes ref" => ((k_here; k_dflt ((refine' in_tuple_bytes ?zzk1 ?zzk2 ?zzk3 ?_); (case zzk1 => first | exact News.isTup (by k_asm) (by k_mem) | exact tupK (by k_in) (by k_is)); (case zzk2 => walk_at "my_bare"); (case zzk3 => first | assumption | rfl)); (try dsimp only)))
  k_with "compareOp NotIn bytes ref" => ((k_here; k_dflt ((refine' notIn_tuple_bytes ?zzk1 ?zzk2 ?zzk3 ?_); (case zzk1 => first | exact News.isTup (by k_asm) (by k_mem) | exact tupK (by k_in) (by k_is)); (case zzk2 => walk_at "my_bare"); (case zzk3 => first | assumption | rfl)); (try dsimp only)))
  k_with "compareOp Eq bytes bytes" => (k_dflt ((refine' eq_bytesI ?zzk1 ?zzk2 ?_); (case zzk1 => first | assumption | rfl); (case zzk2 => first | assumption | rfl)))
  k_with "compareOp NotEq bytes bytes" => (k_dflt ((refine' ne_bytesI ?zzk1 ?zzk2 ?_); (case zzk1 => first | assumption | rfl); (case zzk2 => first | assumption | rfl)))
  k_with "eval Dict nil nil" => ((k_here; k_dflt (refine' newDictB ?zzk1 ?zzk2 (TopRead.nolimit (by k_asm)) ?_; (case zzk1 => k_asm); (case zzk2 => k_asm); k_whole); intro d' h' o' F' N' l1 lo' hs'; (try k_lt l1); (try k_sweep)))
  k_with "compareOp In bytes ref" => ((k_here; k_dflt (first | refine inB (by k_asm) (by repeat first | exact List.Mem.head _ | assumption | refine List.Mem.tail _ ?_) (by k_asm) (by k_asm) true (by kernel_rfl!) ?_ | refine inB (by k_asm) (by repeat first | exact List.Mem.head _ | assumption | refine List.Mem.tail _ ?_) (by k_asm) (by k_asm) false (by kernel_rfl!) ?_)))
  k_with "compareOp NotIn bytes ref" => ((k_here; k_dflt (first | refine notInB (by k_asm) (by repeat first | exact List.Mem.head _ | assumption | refine List.Mem.tail _ ?_) (by k_asm) (by k_asm) true (by kernel_rfl!) ?_ | refine notInB (by k_asm) (by repeat first | exact List.Mem.head _ | assumption | refine List.Mem.tail _ ?_) (by k_asm) (by k_asm) false (by kernel_rfl!) ?_)))
  k_with "setItem ref bytes" => ((k_here; k_dflt (refine' setB ?zzF ?zzN ?zzU ?zzd ?zzz ?_; (case zzF => k_asm); (case zzN => k_asm); (case zzU => k_updF); (case zzd => k_asm); (case zzz => (rw [sizeLine_eq]; exact Nat.le_of_ble_eq_true (by kernel_rfl)))); intro h' o' F' N' hd'; (try dsimp only at N')))
  k_with "subscriptTail" => ((k_here; (with_reducible show wpAny _ _ (subscriptTail _ _ (Value.ref _) (Value.bytes _ _)) _ _ _); k_dflt (refine itemB (by k_asm) (by repeat first | exact List.Mem.head _ | assumption | refine List.Mem.tail _ ?_) (by k_asm) (by first | rfl | with_unfolding_all rfl) ?_)))
  k_with "my_enterC" => ((refine wpAny_call ?_; k_dflt (refine' code_defC ?zzk1 ?zzk2 ?zzk3 ?zzk4 ?zzk5 ?zzkA ?zzkF ?zzkK ?zzk6 ?zzk7 ?zzk8 ?zzk9 ?zzkB ?zzkD ?_ ?zzc2 ?zzc3 ?zzc4; (case zzkA => exact rfl); (case zzkF => exact rfl); (case zzkK => first | exact rfl | assumption); (case zzk1 => k_asm); (case zzk2 => k_asm); (case zzk3 => k_asm); (case zzk4 => k_asm); (case zzk5 => k_asm); (case zzk6 => k_is); (case zzk7 => k_is); (case zzk8 => ktr_room); (case zzk9 => exact BindsTo.of_eq rfl); (case zzkB => exact rfl); (case zzkD => decide +kernel); (case zzc2 => exact rfl); (case zzc3 => exact rfl); (case zzc4 => exact rfl); k_whole; intro g' L' h' tk' cells' FG' F' N' Y' B' X' T' l1; (try k_lt l1); k_cells Y'; (try simp only [List.cons_append, List.nil_append] at N'); (try dsimp only); (try k_lift B'); (try k_fold))))
  k_with "call builtin:list.pop" => ((k_dflt (refine' kl_popAt (p := []) ?zzF ?zzN ?zzf ?zzk ?zze ?zzU ?zzz ?_; (case zzF => k_asm); (case zzN => k_asm); (case zzU => k_upd); (case zzf => rfl); (case zzk => exact seq0 _ _); (case zze => rfl); (case zzz => assumption)); (intro h' F' N'; (try dsimp only [List.nil_append, List.cons_append] at N'); (try k_fold))))
  k_with "binaryOp FloorDiv int int" => (((k_dflt (refine floordiv_int (by decide) ?_ (Or.inl (PyProof.noPylong_small (by decide))))); (try dsimp only); (try k_fold)))
  k_with "binaryOp Mod int int" => (((k_dflt (refine mod_int (by assumption) ?_)); (try dsimp only); (try k_fold)))
  k_with "getMethod ref" => ((refine stop ?_))
  intro rest hra hrb
  unfold Calls
  k_fill
  intro dp un gd cn cs a ccd cl outer A₀ base h₀ L m s Q E mean mg mb B F X N T hk hdp hun hret
  have hib : inner ≠ box := Ne.symm hbi
  have hn1 : @Ne Nat box inner := hbi
  have hn2 : @Ne Nat inner box := Ne.symm hbi
  have hm0 : many ≠ 0 := Int.ne_of_gt hm
  walk_at "my_enter"
  k_steps
  all_goals try unfold Stop
  · cases hI with
    | nil => exact absurd (show (0 : Int) < (([] : List Int).length : Int) by assumption) (by decide)
    | @cons x tx us ms hJ =>
      have hzl : ms.length + 1 ≤ 40 := hz
      have hzz : ((Value.int x tx :: us).toArray).toList.length ≤ sizeLine := by rw [sizeLine_eq, List.toList_toArray, List.length_cons, hJ.length]; omega
      refine' kl_method ?N ?m PySem.F.slot_list_pop PySem.F.type_list_pop ?_
      (case N => k_asm)
      (case m => k_mem)
      k_steps
      exact hret _ _ _ _ ⟨_, _, ⟨_, _, _, _, us, ms, _, rfl, (fmod_in hm).1, (fmod_in hm).2, rfl, rfl, hJ, by omega⟩, rfl⟩ (by assumption) (by assumption)
  · exact hret _ _ _ _ ⟨_, _, ⟨_, _, _, _, vs, ns, _, rfl, (fmod_in hm).1, (fmod_in hm).2, rfl, rfl, hI, hz⟩, rfl⟩ (by assumption) (by assumption)
end SM16
/-! # M17 -/
section SM17
theorem allLt8 {l : Led} {x : Nat} {p : Addr × Obj} (h : AllLt x l) (hp : p ∈ l) : p.1 < x := ktn_ltOf h p hp
set_option maxHeartbeats 4000000 in
theorem edges_spec (w : World) (news : Led) :
    Calls w 2 134 [] news (fun v nw => ∃ r c vs, v = .ref r ∧ IntsAre vs [0, 1, 8, 9, 10, 13, 31, 32, 33, 34, 40, 43, 45, 46, 47, 48, 57, 58, 64, 65, 90, 91, 95, 97, 122, 123, 126, 127, 128, 255] ∧ nw = (r, listOf vs.toArray c) :: news ∧ ∀ p ∈ news, p.1 ≠ r) := by
  k_with_none
  k_with "my_enter" => ((refine wpAny_call ?_; k_dflt (refine' code_def ?zzk1 ?zzk2 ?zzk3 ?zzk4 ?zzk5 ?zzkA ?zzkF ?zzkK ?zzk6 ?zzk7 ?zzk8 ?zzk9 ?zzkB ?_ ?zzc2 ?zzc3 ?zzc4 ?zzc5; (case zzkA => exact rfl); (case zzkF => exact rfl); (case zzkK => first | exact rfl | assumption); (case zzk1 => k_asm); (case zzk2 => k_asm); (case zzk3 => k_asm); (case zzk4 => k_asm); (case zzk5 => k_asm); (case zzk6 => k_is); (case zzk7 => k_is); (case zzk8 => ktr_room); (case zzk9 => exact BindsTo.of_eq rfl); (case zzc5 => decide); (case zzkB => exact locs rfl); (case zzc2 => exact rfl); (case zzc3 => exact rfl); (case zzc4 => exact rfl); k_whole; intro g' L' h' FG' F' N' B' X' T'; (try dsimp only); (try k_fold))))
  k_with "my_bools" => (first | rfl | (simp only [*, Bool.not_true, Bool.not_false, Bool.and_true, Bool.true_and, Bool.and_false, Bool.false_and, Bool.or_true, Bool.or_false, Bool.true_or, Bool.false_or]; done) | (refine Bool.eq_iff_iff.mpr ?_; simp only [isLet, isName, isSch, nameSigns_eq, schemeSigns_eq, decide_eq_true_eq, Bool.or_eq_true, Bool.and_eq_true, Bool.not_eq_true', Bool.not_eq_true, okOct, decide_eq_false_iff_not, Bool.or_eq_false_iff, Bool.and_eq_false_iff, Bool.not_eq_false'] at *; first | omega | (simp_all; done) | (simp_all; omega)))
  k_with "my_use" => (((case zzk1 => k_asm); (case zzk2 => k_asm); (case zzk3 => k_asm); (case zzk4 => k_asm); (case zzk5 => k_asm); (case zzkK => first | exact rfl | assumption); (case zzkd => ktr_room); (case zzku => ktr_units)))
  k_with "compareOp In int bytes" => ((refine in_bytes_int (by assumption) (by assumption) ?_))
  k_with "compareOp NotIn int bytes" => ((refine notIn_bytes_int (by assumption) (by assumption) ?_))
  k_with "eval ListComp" => (k_dflt (k_extra "my_lc"))
  k_with "LcT" => ((refine ⟨?_, _, _, rfl, by assumption, by assumption⟩; walk_at "my_bools"))
  k_with "call ref" => ((k_here; (refine' Calls.use (is_letter_spec _ _ _ _) ?zzk1 ?zzk2 ?zzk3 ?zzk4 ?zzk5 ?zzkK ?zzkd ?zzku ?_); walk_at "my_use"; (intro v9 n9 h9 tk9 hP F9 N9); (obtain ⟨e8, e9⟩ := hP); (subst e8); (replace e9 := Eq.symm e9); (subst e9); (try dsimp only); (try k_fold)))
  k_with "call ref" => ((k_here; (refine' Calls.use (is_name_spec _ _ _ _ (by assumption) (by assumption)) ?zzk1 ?zzk2 ?zzk3 ?zzk4 ?zzk5 ?zzkK ?zzkd ?zzku ?_); walk_at "my_use"; (intro v9 n9 h9 tk9 hP F9 N9); (obtain ⟨e8, e9⟩ := hP); (subst e8); (replace e9 := Eq.symm e9); (subst e9); (try dsimp only); (try k_fold)))
  k_with "compareOp Eq ref ref" => ((k_here; k_dflt (refine' eq_nil ?zzk0 ?zzk1 ?zzk2 ?zzk3 ?zzk4 ?zzk5 ?_; (case zzk0 => k_asm); (case zzk1 => k_asm); (case zzk2 => k_mem); (case zzk3 => k_mem); (case zzk4 => assumption); (case zzk5 => ktr_units)); (try dsimp only)))
  k_with "compareOp NotEq ref ref" => ((k_here; k_dflt (refine' ne_nil ?zzk0 ?zzk1 ?zzk2 ?zzk3 ?zzk4 ?zzk5 ?_; (case zzk0 => k_asm); (case zzk1 => k_asm); (case zzk2 => k_mem); (case zzk3 => k_mem); (case zzk4 => assumption); (case zzk5 => ktr_units)); (try dsimp only)))
  k_with "exec Assign cons ListComp" => (k_dflt (k_extra "my_lcA"))
  k_with "my_thr" => ((intro e9 s9 hb9 T9; (try dsimp only at T9 ⊢); (repeat k_unfold); refine x_up (by assumption) (by assumption) rfl rfl rfl ⟨rfl, rfl, rfl⟩ T9 (fun s8 T8 => ?_)))
  k_with "call ref" => ((k_here; k_dflt ((refine' CallsX.use (malformed_spec _ _ _ _ (by decide +kernel)) ?zzk1 ?zzk2 ?zzk3 ?zzk4 ?zzk5 ?zzkK ?zzkd ?zzku ?_ ?_); walk_at "my_use"; (all_goals first | walk_at "my_thr" | (intro v9 n9 h9 tk9 hP; exact hP.elim)))))
  k_with "my_bare" => (first | exact BytesAre.nil | (refine' BytesAre.cons ?zzba ?zzbb; (case zzba => exact rfl); (case zzbb => walk_at "my_bare")))
  k_with "compareOp In bytes ref" => ((k_here; k_dflt ((refine' in_tuple_bytes ?zzk1 ?zzk2 ?zzk3 ?_); (case zzk1 => first | exact News.isTup (by k_asm) (by k_mem) | exact tupK (by k_in) (by k_is)); (case zzk2 => walk_at "my_bare"); (case zzk3 => first | assumption | rfl)); (try dsimp only)))
  k_with "compareOp NotIn bytes ref" => ((k_here; k_dflt ((refine' notIn_tuple_bytes ?zzk1 ?zzk2 ?zzk3 ?_); (case zzk1 => first | exact News.isTup (by k_asm) (by k_mem) | exact tupK (by k_in) (by k_is)); (case zzk2 => walk_at "my_bare"); (case zzk3 => first | assumption | rfl)); (try dsimp only)))
  k_with "compareOp Eq bytes bytes" => (k_dflt ((refine' eq_bytesI ?zzk1 ?zzk2 ?_); (case zzk1 => first | assumption | rfl); (case zzk2 => first | assumption | rfl)))
  k_with "compareOp NotEq bytes bytes" => (k_dflt ((refine' ne_bytesI ?zzk1 ?zzk2 ?_); (case zzk1 => first | assumption | rfl); (case zzk2 => first | assumption | rfl)))
  k_with "eval Dict nil nil" => ((k_here; k_dflt (refine' newDictB ?zzk1 ?zzk2 (TopRead.nolimit (by k_asm)) ?_; (case zzk1 => k_asm); (case zzk2 => k_asm); k_whole); intro d' h' o' F' N' l1 lo' hs'; (try k_lt l1); (try k_sweep)))
  k_with "compareOp In bytes ref" => ((k_here; k_dflt (first | refine inB (by k_asm) (by repeat first | exact List.Mem.head _ | assumption | refine List.Mem.tail _ ?_) (by k_asm) (by k_asm) true (by kernel_rfl!) ?_ | refine inB (by k_asm) (by repeat first | exact List.Mem.head _ | assumption | refine List.Mem.tail _ ?_) (by k_asm) (by k_asm) false (by kernel_rfl!) ?_)))
  k_with "compareOp NotIn bytes ref" => ((k_here; k_dflt (first | refine notInB (by k_asm) (by repeat first | exact List.Mem.head _ | assumption | refine List.Mem.tail _ ?_) (by k_asm) (by k_asm) true (by kernel_rfl!) ?_ | refine notInB (by k_asm) (by repeat first | exact List.Mem.head _ | assumption | refine List.Mem.tail _ ?_) (by k_asm) (by k_asm) false (by kernel_rfl!) ?_)))
  k_with "setItem ref bytes" => ((k_here; k_dflt (refine' setB ?zzF ?zzN ?zzU ?zzd ?zzz ?_; (case zzF => k_asm); (case zzN => k_asm); (case zzU => k_updF); (case zzd => k_asm); (case zzz => (rw [sizeLine_eq]; exact Nat.le_of_ble_eq_true (by kernel_rfl)))); intro h' o' F' N' hd'; (try dsimp only at N')))
  k_with "subscriptTail" => ((k_here; (with_reducible show wpAny _ _ (subscriptTail _ _ (Value.ref _) (Value.bytes _ _)) _ _ _); k_dflt (refine itemB (by k_asm) (by repeat first | exact List.Mem.head _ | assumption | refine List.Mem.tail _ ?_) (by k_asm) (by first | rfl | with_unfolding_all rfl) ?_)))
  k_with "my_enterC" => ((refine wpAny_call ?_; k_dflt (refine' code_defC ?zzk1 ?zzk2 ?zzk3 ?zzk4 ?zzk5 ?zzkA ?zzkF ?zzkK ?zzk6 ?zzk7 ?zzk8 ?zzk9 ?zzkB ?zzkD ?_ ?zzc2 ?zzc3 ?zzc4; (case zzkA => exact rfl); (case zzkF => exact rfl); (case zzkK => first | exact rfl | assumption); (case zzk1 => k_asm); (case zzk2 => k_asm); (case zzk3 => k_asm); (case zzk4 => k_asm); (case zzk5 => k_asm); (case zzk6 => k_is); (case zzk7 => k_is); (case zzk8 => ktr_room); (case zzk9 => exact BindsTo.of_eq rfl); (case zzkB => exact rfl); (case zzkD => decide +kernel); (case zzc2 => exact rfl); (case zzc3 => exact rfl); (case zzc4 => exact rfl); k_whole; intro g' L' h' tk' cells' FG' F' N' Y' B' X' T' l1; (try k_lt l1); k_cells Y'; (try simp only [List.cons_append, List.nil_append] at N'); (try dsimp only); (try k_lift B'); (try k_fold))))
  unfold Calls
  k_fill
  intro dp un gd cn cs a ccd cl outer A₀ base h₀ L m s Q E mean mg mb B F X N T hk hdp hun hret
  walk_at "my_enter"
  k_steps
  rename_i l1 _ _ _ _
  refine hret _ _ _ _ ⟨_, 0, _, rfl, ?_, rfl, fun p hp => Nat.ne_of_lt (l1 p hp)⟩ (by assumption) (by assumption)
  repeat constructor
set_option maxHeartbeats 4000000 in
theorem letters_spec (w : World) (news : Led) :
    Calls w 2 141 [] news (fun v nw => ∃ r c vs, v = .ref r ∧ IntsAre vs [97, 65, 57, 122, 48, 90] ∧ nw = (r, listOf vs.toArray c) :: news ∧ ∀ p ∈ news, p.1 ≠ r) := by
  k_with_none
  k_with "my_enter" => ((refine wpAny_call ?_; k_dflt (refine' code_def ?zzk1 ?zzk2 ?zzk3 ?zzk4 ?zzk5 ?zzkA ?zzkF ?zzkK ?zzk6 ?zzk7 ?zzk8 ?zzk9 ?zzkB ?_ ?zzc2 ?zzc3 ?zzc4 ?zzc5; (case zzkA => exact rfl); (case zzkF => exact rfl); (case zzkK => first | exact rfl | assumption); (case zzk1 => k_asm); (case zzk2 => k_asm); (case zzk3 => k_asm); (case zzk4 => k_asm); (case zzk5 => k_asm); (case zzk6 => k_is); (case zzk7 => k_is); (case zzk8 => ktr_room); (case zzk9 => exact BindsTo.of_eq rfl); (case zzc5 => decide); (case zzkB => exact locs rfl); (case zzc2 => exact rfl); (case zzc3 => exact rfl); (case zzc4 => exact rfl); k_whole; intro g' L' h' FG' F' N' B' X' T'; (try dsimp only); (try k_fold))))
  k_with "my_bools" => (first | rfl | (simp only [*, Bool.not_true, Bool.not_false, Bool.and_true, Bool.true_and, Bool.and_false, Bool.false_and, Bool.or_true, Bool.or_false, Bool.true_or, Bool.false_or]; done) | (refine Bool.eq_iff_iff.mpr ?_; simp only [isLet, isName, isSch, nameSigns_eq, schemeSigns_eq, decide_eq_true_eq, Bool.or_eq_true, Bool.and_eq_true, Bool.not_eq_true', Bool.not_eq_true, okOct, decide_eq_false_iff_not, Bool.or_eq_false_iff, Bool.and_eq_false_iff, Bool.not_eq_false'] at *; first | omega | (simp_all; done) | (simp_all; omega)))
  k_with "my_use" => (((case zzk1 => k_asm); (case zzk2 => k_asm); (case zzk3 => k_asm); (case zzk4 => k_asm); (case zzk5 => k_asm); (case zzkK => first | exact rfl | assumption); (case zzkd => ktr_room); (case zzku => ktr_units)))
  k_with "compareOp In int bytes" => ((refine in_bytes_int (by assumption) (by assumption) ?_))
  k_with "compareOp NotIn int bytes" => ((refine notIn_bytes_int (by assumption) (by assumption) ?_))
  k_with "eval ListComp" => (k_dflt (k_extra "my_lc"))
  k_with "LcT" => ((refine ⟨?_, _, _, rfl, by assumption, by assumption⟩; walk_at "my_bools"))
  k_with "call ref" => ((k_here; (refine' Calls.use (is_letter_spec _ _ _ _) ?zzk1 ?zzk2 ?zzk3 ?zzk4 ?zzk5 ?zzkK ?zzkd ?zzku ?_); walk_at "my_use"; (intro v9 n9 h9 tk9 hP F9 N9); (obtain ⟨e8, e9⟩ := hP); (subst e8); (replace e9 := Eq.symm e9); (subst e9); (try dsimp only); (try k_fold)))
  k_with "call ref" => ((k_here; (refine' Calls.use (is_name_spec _ _ _ _ (by assumption) (by assumption)) ?zzk1 ?zzk2 ?zzk3 ?zzk4 ?zzk5 ?zzkK ?zzkd ?zzku ?_); walk_at "my_use"; (intro v9 n9 h9 tk9 hP F9 N9); (obtain ⟨e8, e9⟩ := hP); (subst e8); (replace e9 := Eq.symm e9); (subst e9); (try dsimp only); (try k_fold)))
  k_with "compareOp Eq ref ref" => ((k_here; k_dflt (refine' eq_nil ?zzk0 ?zzk1 ?zzk2 ?zzk3 ?zzk4 ?zzk5 ?_; (case zzk0 => k_asm); (case zzk1 => k_asm); (case zzk2 => k_mem); (case zzk3 => k_mem); (case zzk4 => assumption); (case zzk5 => ktr_units)); (try dsimp only)))
  k_with "compareOp NotEq ref ref" => ((k_here; k_dflt (refine' ne_nil ?zzk0 ?zzk1 ?zzk2 ?zzk3 ?zzk4 ?zzk5 ?_; (case zzk0 => k_asm); (case zzk1 => k_asm); (case zzk2 => k_mem); (case zzk3 => k_mem); (case zzk4 => assumption); (case zzk5 => ktr_units)); (try dsimp only)))
  k_with "exec Assign cons ListComp" => (k_dflt (k_extra "my_lcA"))
  k_with "my_thr" => ((intro e9 s9 hb9 T9; (try dsimp only at T9 ⊢); (repeat k_unfold); refine x_up (by assumption) (by assumption) rfl rfl rfl ⟨rfl, rfl, rfl⟩ T9 (fun s8 T8 => ?_)))
  k_with "call ref" => ((k_here; k_dflt ((refine' CallsX.use (malformed_spec _ _ _ _ (by decide +kernel)) ?zzk1 ?zzk2 ?zzk3 ?zzk4 ?zzk5 ?zzkK ?zzkd ?zzku ?_ ?_); walk_at "my_use"; (all_goals first | walk_at "my_thr" | (intro v9 n9 h9 tk9 hP; exact hP.elim)))))
  k_with "my_bare" => (first | exact BytesAre.nil | (refine' BytesAre.cons ?zzba ?zzbb; (case zzba => exact rfl); (case zzbb => walk_at "my_bare")))
  k_with "compareOp In bytes ref" => ((k_here; k_dflt ((refine' in_tuple_bytes ?zzk1 ?zzk2 ?zzk3 ?_); (case zzk1 => first | exact News.isTup (by k_asm) (by k_mem) | exact tupK (by k_in) (by k_is)); (case zzk2 => walk_at "my_bare"); (case zzk3 => first | assumption | rfl)); (try dsimp only)))
  k_with "compareOp NotIn bytes ref" => ((k_here; k_dflt ((refine' notIn_tuple_bytes ?zzk1 ?zzk2 ?zzk3 ?_); (case zzk1 => first | exact News.isTup (by k_asm) (by k_mem) | exact tupK (by k_in) (by k_is)); (case zzk2 => walk_at "my_bare"); (case zzk3 => first | assumption | rfl)); (try dsimp only)))
  k_with "compareOp Eq bytes bytes" => (k_dflt ((refine' eq_bytesI ?zzk1 ?zzk2 ?_); (case zzk1 => first | assumption | rfl); (case zzk2 => first | assumption | rfl)))
  k_with "compareOp NotEq bytes bytes" => (k_dflt ((refine' ne_bytesI ?zzk1 ?zzk2 ?_); (case zzk1 => first | assumption | rfl); (case zzk2 => first | assumption | rfl)))
  k_with "eval Dict nil nil" => ((k_here; k_dflt (refine' newDictB ?zzk1 ?zzk2 (TopRead.nolimit (by k_asm)) ?_; (case zzk1 => k_asm); (case zzk2 => k_asm); k_whole); intro d' h' o' F' N' l1 lo' hs'; (try k_lt l1); (try k_sweep)))
  k_with "compareOp In bytes ref" => ((k_here; k_dflt (first | refine inB (by k_asm) (by repeat first | exact List.Mem.head _ | assumption | refine List.Mem.tail _ ?_) (by k_asm) (by k_asm) true (by kernel_rfl!) ?_ | refine inB (by k_asm) (by repeat first | exact List.Mem.head _ | assumption | refine List.Mem.tail _ ?_) (by k_asm) (by k_asm) false (by kernel_rfl!) ?_)))
  k_with "compareOp NotIn bytes ref" => ((k_here; k_dflt (first | refine notInB (by k_asm) (by repeat first | exact List.Mem.head _ | assumption | refine List.Mem.tail _ ?_) (by k_asm) (by k_asm) true (by kernel_rfl!) ?_ | refine notInB (by k_asm) (by repeat first | exact List.Mem.head _ | assumption | refine List.Mem.tail _ ?_) (by k_asm) (by k_asm) false (by kernel_rfl!) ?_)))
  k_with "setItem ref bytes" => ((k_here; k_dflt (refine' setB ?zzF ?zzN ?zzU ?zzd ?zzz ?_; (case zzF => k_asm); (case zzN => k_asm); (case zzU => k_updF); (case zzd => k_asm); (case zzz => (rw [sizeLine_eq]; exact Nat.le_of_ble_eq_true (by kernel_rfl)))); intro h' o' F' N' hd'; (try dsimp only at N')))
  k_with "subscriptTail" => ((k_here; (with_reducible show wpAny _ _ (subscriptTail _ _ (Value.ref _) (Value.bytes _ _)) _ _ _); k_dflt (refine itemB (by k_asm) (by repeat first | exact List.Mem.head _ | assumption | refine List.Mem.tail _ ?_) (by k_asm) (by first | rfl | with_unfolding_all rfl) ?_)))
  k_with "my_enterC" => ((refine wpAny_call ?_; k_dflt (refine' code_defC ?zzk1 ?zzk2 ?zzk3 ?zzk4 ?zzk5 ?zzkA ?zzkF ?zzkK ?zzk6 ?zzk7 ?zzk8 ?zzk9 ?zzkB ?zzkD ?_ ?zzc2 ?zzc3 ?zzc4; (case zzkA => exact rfl); (case zzkF => exact rfl); (case zzkK => first | exact rfl | assumption); (case zzk1 => k_asm); (case zzk2 => k_asm); (case zzk3 => k_asm); (case zzk4 => k_asm); (case zzk5 => k_asm); (case zzk6 => k_is); (case zzk7 => k_is); (case zzk8 => ktr_room); (case zzk9 => exact BindsTo.of_eq rfl); (case zzkB => exact rfl); (case zzkD => decide +kernel); (case zzc2 => exact rfl); (case zzc3 => exact rfl); (case zzc4 => exact rfl); k_whole; intro g' L' h' tk' cells' FG' F' N' Y' B' X' T' l1; (try k_lt l1); k_cells Y'; (try simp only [List.cons_append, List.nil_append] at N'); (try dsimp only); (try k_lift B'); (try k_fold))))
  unfold Calls
  k_fill
  intro dp un gd cn cs a ccd cl outer A₀ base h₀ L m s Q E mean mg mb B F X N T hk hdp hun hret
  walk_at "my_enter"
  k_steps
  rename_i l1 _ _ _ _
  refine hret _ _ _ _ ⟨_, 0, _, rfl, ?_, rfl, fun p hp => Nat.ne_of_lt (l1 p hp)⟩ (by assumption) (by assumption)
  repeat constructor
end SM17
/-! # M8 -/
section SM8
theorem o1ne {a b : Addr} {X Y : Prop} (h : X ∧ (@Ne Nat a b) ∧ Y) : b ≠ a := Ne.symm h.2.1
theorem d9ne {r : Addr} {p : Addr × Obj} {l : Led} (h : ∀ q ∈ p :: l, q.1 ≠ r) : r ≠ p.1 := Ne.symm (h p (.head _))
local macro_rules | `(tactic| k_ne) => `(tactic| first | exact o1ne (by assumption) | exact d9ne (by assumption))
local macro_rules | `(tactic| k_all) => `(tactic| (intro p9 hp9; refine Nat.ne_of_lt (Nat.lt_succ_of_lt ?_); exact allLt9 (by assumption) hp9))
set_option maxHeartbeats 4000000 in
theorem content_length_spec (w : World) (fl p1 p2 p3 p4 : Addr) (c c1 c2 c3 c4 : Nat) (b1 b2 : Array UInt8) (t1 t2 t3 t4 u1 u2 u3 u4 : Tok) (news : Led) (hfl : (fl, listOf #[.ref p1, .ref p2, .ref p3, .ref p4] c) ∈ news) (hm1 : (p1, ({ cls := .type "tuple", data := .seq #[.bytes #[58, 109, 101, 116, 104, 111, 100] t1, .bytes b1 u1] c1 } : Obj)) ∈ news) (hm2 : (p2, ({ cls := .type "tuple", data := .seq #[.bytes #[58, 115, 99, 104, 101, 109, 101] t2, .bytes b2 u2] c2 } : Obj)) ∈ news) (hm3 : (p3, ({ cls := .type "tuple", data := .seq #[.bytes #[58, 112, 97, 116, 104] t3, .bytes #[47] u3] c3 } : Obj)) ∈ news) (hm4 : (p4, ({ cls := .type "tuple", data := .seq #[.bytes #[58, 97, 117, 116, 104, 111, 114, 105, 116, 121] t4, .bytes #[104] u4] c4 } : Obj)) ∈ news) :
    Calls w 6 127 [.ref fl] news (fun v news' => v = .none ∧ news' = news) := by
  k_with_none
  k_with "my_enter" => ((refine wpAny_call ?_; k_dflt (refine' code_def ?zzk1 ?zzk2 ?zzk3 ?zzk4 ?zzk5 ?zzkA ?zzkF ?zzkK ?zzk6 ?zzk7 ?zzk8 ?zzk9 ?zzkB ?_ ?zzc2 ?zzc3 ?zzc4 ?zzc5; (case zzkA => exact rfl); (case zzkF => exact rfl); (case zzkK => first | exact rfl | assumption); (case zzk1 => k_asm); (case zzk2 => k_asm); (case zzk3 => k_asm); (case zzk4 => k_asm); (case zzk5 => k_asm); (case zzk6 => k_is); (case zzk7 => k_is); (case zzk8 => ktr_room); (case zzk9 => exact BindsTo.of_eq rfl); (case zzc5 => decide); (case zzkB => exact locs rfl); (case zzc2 => exact rfl); (case zzc3 => exact rfl); (case zzc4 => exact rfl); k_whole; intro g' L' h' FG' F' N' B' X' T'; (try dsimp only); (try k_fold))))
  k_with "my_bools" => (first | rfl | (simp only [*, Bool.not_true, Bool.not_false, Bool.and_true, Bool.true_and, Bool.and_false, Bool.false_and, Bool.or_true, Bool.or_false, Bool.true_or, Bool.false_or]; done) | (refine Bool.eq_iff_iff.mpr ?_; simp only [isLet, isName, isSch, nameSigns_eq, schemeSigns_eq, decide_eq_true_eq, Bool.or_eq_true, Bool.and_eq_true, Bool.not_eq_true', Bool.not_eq_true, okOct, decide_eq_false_iff_not, Bool.or_eq_false_iff, Bool.and_eq_false_iff, Bool.not_eq_false'] at *; first | omega | (simp_all; done) | (simp_all; omega)))
  k_with "my_use" => (((case zzk1 => k_asm); (case zzk2 => k_asm); (case zzk3 => k_asm); (case zzk4 => k_asm); (case zzk5 => k_asm); (case zzkK => first | exact rfl | assumption); (case zzkd => ktr_room); (case zzku => ktr_units)))
  k_with "compareOp In int bytes" => ((refine in_bytes_int (by assumption) (by assumption) ?_))
  k_with "compareOp NotIn int bytes" => ((refine notIn_bytes_int (by assumption) (by assumption) ?_))
  k_with "eval ListComp" => (k_dflt (k_extra "my_lc"))
  k_with "LcT" => ((refine ⟨?_, _, _, rfl, by assumption, by assumption⟩; walk_at "my_bools"))
  k_with "call ref" => ((k_here; (refine' Calls.use (is_letter_spec _ _ _ _) ?zzk1 ?zzk2 ?zzk3 ?zzk4 ?zzk5 ?zzkK ?zzkd ?zzku ?_); walk_at "my_use"; (intro v9 n9 h9 tk9 hP F9 N9); (obtain ⟨e8, e9⟩ := hP); (subst e8); (replace e9 := Eq.symm e9); (subst e9); (try dsimp only); (try k_fold)))
  k_with "call ref" => ((k_here; (refine' Calls.use (is_name_spec _ _ _ _ (by assumption) (by assumption)) ?zzk1 ?zzk2 ?zzk3 ?zzk4 ?zzk5 ?zzkK ?zzkd ?zzku ?_); walk_at "my_use"; (intro v9 n9 h9 tk9 hP F9 N9); (obtain ⟨e8, e9⟩ := hP); (subst e8); (replace e9 := Eq.symm e9); (subst e9); (try dsimp only); (try k_fold)))
  k_with "compareOp Eq ref ref" => ((k_here; k_dflt (refine' eq_nil ?zzk0 ?zzk1 ?zzk2 ?zzk3 ?zzk4 ?zzk5 ?_; (case zzk0 => k_asm); (case zzk1 => k_asm); (case zzk2 => k_mem); (case zzk3 => k_mem); (case zzk4 => assumption); (case zzk5 => ktr_units)); (try dsimp only)))
  k_with "compareOp NotEq ref ref" => ((k_here; k_dflt (refine' ne_nil ?zzk0 ?zzk1 ?zzk2 ?zzk3 ?zzk4 ?zzk5 ?_; (case zzk0 => k_asm); (case zzk1 => k_asm); (case zzk2 => k_mem); (case zzk3 => k_mem); (case zzk4 => assumption); (case zzk5 => ktr_units)); (try dsimp only)))
  k_with "exec Assign cons ListComp" => (k_dflt (k_extra "my_lcA"))
  k_with "my_thr" => ((intro e9 s9 hb9 T9; (try dsimp only at T9 ⊢); (repeat k_unfold); refine x_up (by assumption) (by assumption) rfl rfl rfl ⟨rfl, rfl, rfl⟩ T9 (fun s8 T8 => ?_)))
  k_with "call ref" => ((k_here; k_dflt ((refine' CallsX.use (malformed_spec _ _ _ _ (by decide +kernel)) ?zzk1 ?zzk2 ?zzk3 ?zzk4 ?zzk5 ?zzkK ?zzkd ?zzku ?_ ?_); walk_at "my_use"; (all_goals first | walk_at "my_thr" | (intro v9 n9 h9 tk9 hP; exact hP.elim)))))
  k_with "my_bare" => (first | exact BytesAre.nil | (refine' BytesAre.cons ?zzba ?zzbb; (case zzba => exact rfl); (case zzbb => walk_at "my_bare")))
  k_with "compareOp In bytes ref" => ((k_here; k_dflt ((refine' in_tuple_bytes ?zzk1 ?zzk2 ?zzk3 ?_); (case zzk1 => first | exact News.isTup (by k_asm) (by k_mem) | exact tupK (by k_in) (by k_is)); (case zzk2 => walk_at "my_bare"); (case zzk3 => first | assumption | rfl)); (try dsimp only)))
  k_with "compareOp NotIn bytes ref" => ((k_here; k_dflt ((refine' notIn_tuple_bytes ?zzk1 ?zzk2 ?zzk3 ?_); (case zzk1 => first | exact News.isTup (by k_asm) (by k_mem) | exact tupK (by k_in) (by k_is)); (case zzk2 => walk_at "my_bare"); (case zzk3 => first | assumption | rfl)); (try dsimp only)))
  k_with "compareOp Eq bytes bytes" => (k_dflt ((refine' eq_bytesI ?zzk1 ?zzk2 ?_); (case zzk1 => first | assumption | rfl); (case zzk2 => first | assumption | rfl)))
  k_with "compareOp NotEq bytes bytes" => (k_dflt ((refine' ne_bytesI ?zzk1 ?zzk2 ?_); (case zzk1 => first | assumption | rfl); (case zzk2 => first | assumption | rfl)))
  k_with "eval Dict nil nil" => ((k_here; k_dflt (refine' newDictB ?zzk1 ?zzk2 (TopRead.nolimit (by k_asm)) ?_; (case zzk1 => k_asm); (case zzk2 => k_asm); k_whole); intro d' h' o' F' N' l1 lo' hs'; (try k_lt l1); (try k_sweep)))
  k_with "compareOp In bytes ref" => ((k_here; k_dflt (first | refine inB (by k_asm) (by k_mem) (by k_asm) (by k_asm) true (by kernel_rfl!) ?_ | refine inB (by k_asm) (by k_mem) (by k_asm) (by k_asm) false (by kernel_rfl!) ?_)))
  k_with "compareOp NotIn bytes ref" => ((k_here; k_dflt (first | refine notInB (by k_asm) (by k_mem) (by k_asm) (by k_asm) true (by kernel_rfl!) ?_ | refine notInB (by k_asm) (by k_mem) (by k_asm) (by k_asm) false (by kernel_rfl!) ?_)))
  k_with "setItem ref bytes" => ((k_here; k_dflt (refine' setB ?zzF ?zzN ?zzU ?zzd ?zzz ?_; (case zzF => k_asm); (case zzN => k_asm); (case zzU => k_updF); (case zzd => k_asm); (case zzz => (rw [sizeLine_eq]; exact Nat.le_of_ble_eq_true (by kernel_rfl)))); intro h' o' F' N' hd'; (try dsimp only at N')))
  k_with "subscriptTail" => ((k_here; (with_reducible show wpAny _ _ (subscriptTail _ _ (Value.ref _) (Value.bytes _ _)) _ _ _); k_dflt (refine itemB (by k_asm) (by k_mem) (by k_asm) (by kernel_rfl) ?_)))
  k_with "my_enterC" => ((refine wpAny_call ?_; k_dflt (refine' code_defC ?zzk1 ?zzk2 ?zzk3 ?zzk4 ?zzk5 ?zzkA ?zzkF ?zzkK ?zzk6 ?zzk7 ?zzk8 ?zzk9 ?zzkB ?zzkD ?_ ?zzc2 ?zzc3 ?zzc4; (case zzkA => exact rfl); (case zzkF => exact rfl); (case zzkK => first | exact rfl | assumption); (case zzk1 => k_asm); (case zzk2 => k_asm); (case zzk3 => k_asm); (case zzk4 => k_asm); (case zzk5 => k_asm); (case zzk6 => k_is); (case zzk7 => k_is); (case zzk8 => ktr_room); (case zzk9 => exact BindsTo.of_eq rfl); (case zzkB => exact rfl); (case zzkD => decide +kernel); (case zzc2 => exact rfl); (case zzc3 => exact rfl); (case zzc4 => exact rfl); k_whole; intro g' L' h' tk' cells' FG' F' N' Y' B' X' T' l1; (try k_lt l1); k_cells Y'; (try simp only [List.cons_append, List.nil_append] at N'); (try dsimp only); (try k_lift B'); (try k_fold))))
  k_with "call ref" => ((k_here; k_dflt (refine' Calls.use (values_of_spec _ _ _ _ _ _ _ _ _ _ _ _ _ _ _ _ _ _ _ _ _ _ ?zzm0 ?zzm1 ?zzm2 ?zzm3 ?zzm4 _ _ _ ?zzma ?zzmb) ?zzk1 ?zzk2 ?zzk3 ?zzk4 ?zzk5 ?zzkK ?zzkd ?zzku ?_; (case zzk1 => k_asm); (case zzk2 => k_asm); (case zzk3 => k_asm); (case zzk4 => k_asm); (case zzk5 => k_asm); (case zzkK => first | exact rfl | assumption); (case zzkd => ktr_room); (case zzku => ktr_units); (case zzm0 => (repeat first | assumption | refine List.Mem.tail _ ?_)); (case zzm1 => (repeat first | assumption | refine List.Mem.tail _ ?_)); (case zzm2 => (repeat first | assumption | refine List.Mem.tail _ ?_)); (case zzm3 => (repeat first | assumption | refine List.Mem.tail _ ?_)); (case zzm4 => (repeat first | assumption | refine List.Mem.tail _ ?_)); (case zzma => assumption); (case zzmb => first | exact .inl rfl | exact .inr rfl)); (intro v9 n9 h9 tk9 hP F9 N9); (obtain ⟨r9, c9, e8, e9, d9⟩ := hP); (subst e8); (subst e9); (try dsimp only); (try k_fold)))
  k_with "call ref" => ((exact (List.not_mem_nil (by assumption : _ ∈ ([] : List Int))).elim))
  unfold Calls
  k_fill
  intro dp un gd cn cs a ccd cl outer A₀ base h₀ L m s Q E mean mg mb B F X N T hk hdp hun hret
  have l0 : KBw.bInts #[99, 111, 110, 116, 101, 110, 116, 45, 108, 101, 110, 103, 116, 104] = [99, 111, 110, 116, 101, 110, 116, 45, 108, 101, 110, 103, 116, 104] := by decide +kernel
  walk_at "my_enterC"
  k_steps
  exact hret _ news _ _ ⟨rfl, rfl⟩ (by assumption) (cb_drop (by assumption) (fun _ hp => .tail _ (.tail _ (.tail _ (.tail _ (.tail _ hp))))))
end SM8
/-! # M9 -/
section SM9
set_option maxHeartbeats 4000000 in
theorem check_authority_spec (w : World) (dd : Addr) (od : Obj) (fl p1 p2 p3 p4 : Addr) (c c1 c2 c3 c4 : Nat) (b1 b2 : Array UInt8) (t1 t2 t3 t4 u1 u2 u3 u4 : Tok) (news : Led) (hdd : (dd, od) ∈ news) (hlo : (dd == sysModules) = false) (hod : od.IsDictOf (bytesKind PySem.Challenge.rw_pf0251_01.row.prog w) [((#[58, 109, 101, 116, 104, 111, 100] : Array UInt8).toList, .bytes b1 u1), ((#[58, 115, 99, 104, 101, 109, 101] : Array UInt8).toList, .bytes b2 u2), ((#[58, 112, 97, 116, 104] : Array UInt8).toList, .bytes #[47] u3), ((#[58, 97, 117, 116, 104, 111, 114, 105, 116, 121] : Array UInt8).toList, .bytes #[104] u4)]) (hfl : (fl, listOf #[.ref p1, .ref p2, .ref p3, .ref p4] c) ∈ news) (hm1 : (p1, ({ cls := .type "tuple", data := .seq #[.bytes #[58, 109, 101, 116, 104, 111, 100] t1, .bytes b1 u1] c1 } : Obj)) ∈ news) (hm2 : (p2, ({ cls := .type "tuple", data := .seq #[.bytes #[58, 115, 99, 104, 101, 109, 101] t2, .bytes b2 u2] c2 } : Obj)) ∈ news) (hm3 : (p3, ({ cls := .type "tuple", data := .seq #[.bytes #[58, 112, 97, 116, 104] t3, .bytes #[47] u3] c3 } : Obj)) ∈ news) (hm4 : (p4, ({ cls := .type "tuple", data := .seq #[.bytes #[58, 97, 117, 116, 104, 111, 114, 105, 116, 121] t4, .bytes #[104] u4] c4 } : Obj)) ∈ news) :
    Calls w 6 108 [.ref dd, .ref fl] news (fun v news' => v = .none ∧ news' = news) := by
  k_with_none
  k_with "my_enter" => ((refine wpAny_call ?_; k_dflt (refine' code_def ?zzk1 ?zzk2 ?zzk3 ?zzk4 ?zzk5 ?zzkA ?zzkF ?zzkK ?zzk6 ?zzk7 ?zzk8 ?zzk9 ?zzkB ?_ ?zzc2 ?zzc3 ?zzc4 ?zzc5; (case zzkA => exact rfl); (case zzkF => exact rfl); (case zzkK => first | exact rfl | assumption); (case zzk1 => k_asm); (case zzk2 => k_asm); (case zzk3 => k_asm); (case zzk4 => k_asm); (case zzk5 => k_asm); (case zzk6 => k_is); (case zzk7 => k_is); (case zzk8 => ktr_room); (case zzk9 => exact BindsTo.of_eq rfl); (case zzc5 => decide); (case zzkB => exact locs rfl); (case zzc2 => exact rfl); (case zzc3 => exact rfl); (case zzc4 => exact rfl); k_whole; intro g' L' h' FG' F' N' B' X' T'; (try dsimp only); (try k_fold))))
  k_with "my_bools" => (first | rfl | (simp only [*, Bool.not_true, Bool.not_false, Bool.and_true, Bool.true_and, Bool.and_false, Bool.false_and, Bool.or_true, Bool.or_false, Bool.true_or, Bool.false_or]; done) | (refine Bool.eq_iff_iff.mpr ?_; simp only [isLet, isName, isSch, nameSigns_eq, schemeSigns_eq, decide_eq_true_eq, Bool.or_eq_true, Bool.and_eq_true, Bool.not_eq_true', Bool.not_eq_true, okOct, decide_eq_false_iff_not, Bool.or_eq_false_iff, Bool.and_eq_false_iff, Bool.not_eq_false'] at *; first | omega | (simp_all; done) | (simp_all; omega)))
  k_with "my_use" => (((case zzk1 => k_asm); (case zzk2 => k_asm); (case zzk3 => k_asm); (case zzk4 => k_asm); (case zzk5 => k_asm); (case zzkK => first | exact rfl | assumption); (case zzkd => ktr_room); (case zzku => ktr_units)))
  k_with "compareOp In int bytes" => ((refine in_bytes_int (by assumption) (by assumption) ?_))
  k_with "compareOp NotIn int bytes" => ((refine notIn_bytes_int (by assumption) (by assumption) ?_))
  k_with "eval ListComp" => (k_dflt (k_extra "my_lc"))
  k_with "LcT" => ((refine ⟨?_, _, _, rfl, by assumption, by assumption⟩; walk_at "my_bools"))
  k_with "call ref" => ((k_here; (refine' Calls.use (is_letter_spec _ _ _ _) ?zzk1 ?zzk2 ?zzk3 ?zzk4 ?zzk5 ?zzkK ?zzkd ?zzku ?_); walk_at "my_use"; (intro v9 n9 h9 tk9 hP F9 N9); (obtain ⟨e8, e9⟩ := hP); (subst e8); (replace e9 := Eq.symm e9); (subst e9); (try dsimp only); (try k_fold)))
  k_with "call ref" => ((k_here; (refine' Calls.use (is_name_spec _ _ _ _ (by assumption) (by assumption)) ?zzk1 ?zzk2 ?zzk3 ?zzk4 ?zzk5 ?zzkK ?zzkd ?zzku ?_); walk_at "my_use"; (intro v9 n9 h9 tk9 hP F9 N9); (obtain ⟨e8, e9⟩ := hP); (subst e8); (replace e9 := Eq.symm e9); (subst e9); (try dsimp only); (try k_fold)))
  k_with "compareOp Eq ref ref" => ((k_here; k_dflt (refine' eq_nil ?zzk0 ?zzk1 ?zzk2 ?zzk3 ?zzk4 ?zzk5 ?_; (case zzk0 => k_asm); (case zzk1 => k_asm); (case zzk2 => k_mem); (case zzk3 => k_mem); (case zzk4 => assumption); (case zzk5 => ktr_units)); (try dsimp only)))
  k_with "compareOp NotEq ref ref" => ((k_here; k_dflt (refine' ne_nil ?zzk0 ?zzk1 ?zzk2 ?zzk3 ?zzk4 ?zzk5 ?_; (case zzk0 => k_asm); (case zzk1 => k_asm); (case zzk2 => k_mem); (case zzk3 => k_mem); (case zzk4 => assumption); (case zzk5 => ktr_units)); (try dsimp only)))
  k_with "exec Assign cons ListComp" => (k_dflt (k_extra "my_lcA"))
  k_with "my_thr" => ((intro e9 s9 hb9 T9; (try dsimp only at T9 ⊢); (repeat k_unfold); refine x_up (by assumption) (by assumption) rfl rfl rfl ⟨rfl, rfl, rfl⟩ T9 (fun s8 T8 => ?_)))
  k_with "call ref" => ((k_here; k_dflt ((refine' CallsX.use (malformed_spec _ _ _ _ (by decide +kernel)) ?zzk1 ?zzk2 ?zzk3 ?zzk4 ?zzk5 ?zzkK ?zzkd ?zzku ?_ ?_); walk_at "my_use"; (all_goals first | walk_at "my_thr" | (intro v9 n9 h9 tk9 hP; exact hP.elim)))))
  k_with "my_bare" => (first | exact BytesAre.nil | (refine' BytesAre.cons ?zzba ?zzbb; (case zzba => exact rfl); (case zzbb => walk_at "my_bare")))
  k_with "compareOp In bytes ref" => ((k_here; k_dflt ((refine' in_tuple_bytes ?zzk1 ?zzk2 ?zzk3 ?_); (case zzk1 => first | exact News.isTup (by k_asm) (by k_mem) | exact tupK (by k_in) (by k_is)); (case zzk2 => walk_at "my_bare"); (case zzk3 => first | assumption | rfl)); (try dsimp only)))
  k_with "compareOp NotIn bytes ref" => ((k_here; k_dflt ((refine' notIn_tuple_bytes ?zzk1 ?zzk2 ?zzk3 ?_); (case zzk1 => first | exact News.isTup (by k_asm) (by k_mem) | exact tupK (by k_in) (by k_is)); (case zzk2 => walk_at "my_bare"); (case zzk3 => first | assumption | rfl)); (try dsimp only)))
  k_with "compareOp Eq bytes bytes" => (k_dflt ((refine' eq_bytesI ?zzk1 ?zzk2 ?_); (case zzk1 => first | assumption | rfl); (case zzk2 => first | assumption | rfl)))
  k_with "compareOp NotEq bytes bytes" => (k_dflt ((refine' ne_bytesI ?zzk1 ?zzk2 ?_); (case zzk1 => first | assumption | rfl); (case zzk2 => first | assumption | rfl)))
  k_with "eval Dict nil nil" => ((k_here; k_dflt (refine' newDictB ?zzk1 ?zzk2 (TopRead.nolimit (by k_asm)) ?_; (case zzk1 => k_asm); (case zzk2 => k_asm); k_whole); intro d' h' o' F' N' l1 lo' hs'; (try k_lt l1); (try k_sweep)))
  k_with "compareOp In bytes ref" => ((k_here; k_dflt (first | refine inB (by k_asm) (by repeat first | exact List.Mem.head _ | assumption | refine List.Mem.tail _ ?_) (by k_asm) (by k_asm) true (by kernel_rfl!) ?_ | refine inB (by k_asm) (by repeat first | exact List.Mem.head _ | assumption | refine List.Mem.tail _ ?_) (by k_asm) (by k_asm) false (by kernel_rfl!) ?_)))
  k_with "compareOp NotIn bytes ref" => ((k_here; k_dflt (first | refine notInB (by k_asm) (by repeat first | exact List.Mem.head _ | assumption | refine List.Mem.tail _ ?_) (by k_asm) (by k_asm) true (by kernel_rfl!) ?_ | refine notInB (by k_asm) (by repeat first | exact List.Mem.head _ | assumption | refine List.Mem.tail _ ?_) (by k_asm) (by k_asm) false (by kernel_rfl!) ?_)))
  k_with "setItem ref bytes" => ((k_here; k_dflt (refine' setB ?zzF ?zzN ?zzU ?zzd ?zzz ?_; (case zzF => k_asm); (case zzN => k_asm); (case zzU => k_updF); (case zzd => k_asm); (case zzz => (rw [sizeLine_eq]; exact Nat.le_of_ble_eq_true (by kernel_rfl)))); intro h' o' F' N' hd'; (try dsimp only at N')))
  k_with "subscriptTail" => ((k_here; (with_reducible show wpAny _ _ (subscriptTail _ _ (Value.ref _) (Value.bytes _ _)) _ _ _); k_dflt (refine itemB (by k_asm) (by repeat first | exact List.Mem.head _ | assumption | refine List.Mem.tail _ ?_) (by k_asm) (by first | rfl | with_unfolding_all rfl) ?_)))
  k_with "my_enterC" => ((refine wpAny_call ?_; k_dflt (refine' code_defC ?zzk1 ?zzk2 ?zzk3 ?zzk4 ?zzk5 ?zzkA ?zzkF ?zzkK ?zzk6 ?zzk7 ?zzk8 ?zzk9 ?zzkB ?zzkD ?_ ?zzc2 ?zzc3 ?zzc4; (case zzkA => exact rfl); (case zzkF => exact rfl); (case zzkK => first | exact rfl | assumption); (case zzk1 => k_asm); (case zzk2 => k_asm); (case zzk3 => k_asm); (case zzk4 => k_asm); (case zzk5 => k_asm); (case zzk6 => k_is); (case zzk7 => k_is); (case zzk8 => ktr_room); (case zzk9 => exact BindsTo.of_eq rfl); (case zzkB => exact rfl); (case zzkD => decide +kernel); (case zzc2 => exact rfl); (case zzc3 => exact rfl); (case zzc4 => exact rfl); k_whole; intro g' L' h' tk' cells' FG' F' N' Y' B' X' T' l1; (try k_lt l1); k_cells Y'; (try simp only [List.cons_append, List.nil_append] at N'); (try dsimp only); (try k_lift B'); (try k_fold))))
  k_with "call ref" => ((k_here; k_dflt (refine' Calls.use (values_of_spec _ _ _ _ _ _ _ _ _ _ _ _ _ _ _ _ _ _ _ _ _ _ ?zzm0 ?zzm1 ?zzm2 ?zzm3 ?zzm4 _ _ _ ?zzma ?zzmb) ?zzk1 ?zzk2 ?zzk3 ?zzk4 ?zzk5 ?zzkK ?zzkd ?zzku ?_; (case zzk1 => k_asm); (case zzk2 => k_asm); (case zzk3 => k_asm); (case zzk4 => k_asm); (case zzk5 => k_asm); (case zzkK => first | exact rfl | assumption); (case zzkd => ktr_room); (case zzku => ktr_units); (case zzm0 => (repeat first | assumption | refine List.Mem.tail _ ?_)); (case zzm1 => (repeat first | assumption | refine List.Mem.tail _ ?_)); (case zzm2 => (repeat first | assumption | refine List.Mem.tail _ ?_)); (case zzm3 => (repeat first | assumption | refine List.Mem.tail _ ?_)); (case zzm4 => (repeat first | assumption | refine List.Mem.tail _ ?_)); (case zzma => assumption); (case zzmb => first | exact .inl rfl | exact .inr rfl)); (intro v9 n9 h9 tk9 hP F9 N9); (obtain ⟨r9, c9, e8, e9, d9⟩ := hP); (subst e8); (subst e9); (try dsimp only); (try k_fold)))
  unfold Calls
  k_fill
  intro dp un gd cn cs a ccd cl outer A₀ base h₀ L m s Q E mean mg mb B F X N T hk hdp hun hret
  have l0 : KBw.bInts #[104, 111, 115, 116] = [104, 111, 115, 116] := by decide +kernel
  have l1 : KBw.bInts #[58, 109, 101, 116, 104, 111, 100] = [58, 109, 101, 116, 104, 111, 100] := by decide +kernel
  have l2 : KBw.bInts #[58, 115, 99, 104, 101, 109, 101] = [58, 115, 99, 104, 101, 109, 101] := by decide +kernel
  have l3 : KBw.bInts #[58, 112, 97, 116, 104] = [58, 112, 97, 116, 104] := by decide +kernel
  have l4 : KBw.bInts #[58, 97, 117, 116, 104, 111, 114, 105, 116, 121] = [58, 97, 117, 116, 104, 111, 114, 105, 116, 121] := by decide +kernel
  have l5 : KBw.bInts #[47] = [47] := by decide +kernel
  have l6 : KBw.bInts #[104] = [104] := by decide +kernel
  walk_at "my_enter"
  k_steps
  exact hret _ news _ _ ⟨rfl, rfl⟩ (by assumption) (cb_drop (by assumption) (fun _ hp => by repeat first | exact hp | refine List.Mem.tail _ ?_))
end SM9
/-! # M10 -/
section SM10
set_option maxHeartbeats 4000000 in
theorem check_trailer_spec (w : World) (fl p1 : Addr) (c c1 : Nat) (b : Array UInt8) (ta tb : Tok) (ks : List Int) (hb : KBw.bInts b = ks) (hz : ks.length ≤ 16) :
    CallsX w 12 122 [.ref fl] [(fl, listOf #[.ref p1] c), (p1, ({ cls := .type "tuple", data := .seq #[.bytes #[97] ta, .bytes b tb] c1 } : Obj))]
      (fun v news' => v = .none ∧ news' = [] ∧ valOk ks = true) (valOk ks = false) := by
  k_with_none
  k_with "my_enter" => ((refine wpAny_call ?_; k_dflt (refine' code_def ?zzk1 ?zzk2 ?zzk3 ?zzk4 ?zzk5 ?zzkA ?zzkF ?zzkK ?zzk6 ?zzk7 ?zzk8 ?zzk9 ?zzkB ?_ ?zzc2 ?zzc3 ?zzc4 ?zzc5; (case zzkA => exact rfl); (case zzkF => exact rfl); (case zzkK => first | exact rfl | assumption); (case zzk1 => k_asm); (case zzk2 => k_asm); (case zzk3 => k_asm); (case zzk4 => k_asm); (case zzk5 => k_asm); (case zzk6 => k_is); (case zzk7 => k_is); (case zzk8 => ktr_room); (case zzk9 => exact BindsTo.of_eq rfl); (case zzc5 => decide); (case zzkB => exact locs rfl); (case zzc2 => exact rfl); (case zzc3 => exact rfl); (case zzc4 => exact rfl); k_whole; intro g' L' h' FG' F' N' B' X' T'; (try dsimp only); (try k_fold))))
  k_with "my_bools" => (first | rfl | (simp only [*, Bool.not_true, Bool.not_false, Bool.and_true, Bool.true_and, Bool.and_false, Bool.false_and, Bool.or_true, Bool.or_false, Bool.true_or, Bool.false_or]; done) | (refine Bool.eq_iff_iff.mpr ?_; simp only [isLet, isName, isSch, nameSigns_eq, schemeSigns_eq, decide_eq_true_eq, Bool.or_eq_true, Bool.and_eq_true, Bool.not_eq_true', Bool.not_eq_true, okOct, decide_eq_false_iff_not, Bool.or_eq_false_iff, Bool.and_eq_false_iff, Bool.not_eq_false'] at *; first | omega | (simp_all; done) | (simp_all; omega)))
  k_with "my_use" => (((case zzk1 => k_asm); (case zzk2 => k_asm); (case zzk3 => k_asm); (case zzk4 => k_asm); (case zzk5 => k_asm); (case zzkK => first | exact rfl | assumption); (case zzkd => ktr_room); (case zzku => ktr_units)))
  k_with "compareOp In int bytes" => ((refine in_bytes_int (by assumption) (by assumption) ?_))
  k_with "compareOp NotIn int bytes" => ((refine notIn_bytes_int (by assumption) (by assumption) ?_))
  k_with "eval ListComp" => (k_dflt (k_extra "my_lc"))
  k_with "LcT" => ((refine ⟨?_, _, _, rfl, by assumption, by assumption⟩; walk_at "my_bools"))
  k_with "call ref" => ((k_here; (refine' Calls.use (is_letter_spec _ _ _ _) ?zzk1 ?zzk2 ?zzk3 ?zzk4 ?zzk5 ?zzkK ?zzkd ?zzku ?_); walk_at "my_use"; (intro v9 n9 h9 tk9 hP F9 N9); (obtain ⟨e8, e9⟩ := hP); (subst e8); (replace e9 := Eq.symm e9); (subst e9); (try dsimp only); (try k_fold)))
  k_with "call ref" => ((k_here; (refine' Calls.use (is_name_spec _ _ _ _ (by assumption) (by assumption)) ?zzk1 ?zzk2 ?zzk3 ?zzk4 ?zzk5 ?zzkK ?zzkd ?zzku ?_); walk_at "my_use"; (intro v9 n9 h9 tk9 hP F9 N9); (obtain ⟨e8, e9⟩ := hP); (subst e8); (replace e9 := Eq.symm e9); (subst e9); (try dsimp only); (try k_fold)))
  k_with "compareOp Eq ref ref" => ((k_here; k_dflt (refine' eq_nil ?zzk0 ?zzk1 ?zzk2 ?zzk3 ?zzk4 ?zzk5 ?_; (case zzk0 => k_asm); (case zzk1 => k_asm); (case zzk2 => k_mem); (case zzk3 => k_mem); (case zzk4 => assumption); (case zzk5 => ktr_units)); (try dsimp only)))
  k_with "compareOp NotEq ref ref" => ((k_here; k_dflt (refine' ne_nil ?zzk0 ?zzk1 ?zzk2 ?zzk3 ?zzk4 ?zzk5 ?_; (case zzk0 => k_asm); (case zzk1 => k_asm); (case zzk2 => k_mem); (case zzk3 => k_mem); (case zzk4 => assumption); (case zzk5 => ktr_units)); (try dsimp only)))
  k_with "exec Assign cons ListComp" => (k_dflt (k_extra "my_lcA"))
  k_with "my_thr" => ((intro e9 s9 hb9 T9; (try dsimp only at T9 ⊢); (repeat k_unfold); refine x_up (by assumption) (by assumption) rfl rfl rfl ⟨rfl, rfl, rfl⟩ T9 (fun s8 T8 => ?_)))
  k_with "call ref" => ((k_here; k_dflt ((refine' CallsX.use (malformed_spec _ _ _ _ (by decide +kernel)) ?zzk1 ?zzk2 ?zzk3 ?zzk4 ?zzk5 ?zzkK ?zzkd ?zzku ?_ ?_); walk_at "my_use"; (all_goals first | walk_at "my_thr" | (intro v9 n9 h9 tk9 hP; exact hP.elim)))))
  k_with "my_bare" => (first | exact BytesAre.nil | (refine' BytesAre.cons ?zzba ?zzbb; (case zzba => exact rfl); (case zzbb => walk_at "my_bare")))
  k_with "compareOp In bytes ref" => ((k_here; k_dflt ((refine' in_tuple_bytes ?zzk1 ?zzk2 ?zzk3 ?_); (case zzk1 => first | exact News.isTup (by k_asm) (by k_mem) | exact tupK (by k_in) (by k_is)); (case zzk2 => walk_at "my_bare"); (case zzk3 => first | assumption | rfl)); (try dsimp only)))
  k_with "compareOp NotIn bytes ref" => ((k_here; k_dflt ((refine' notIn_tuple_bytes ?zzk1 ?zzk2 ?zzk3 ?_); (case zzk1 => first | exact News.isTup (by k_asm) (by k_mem) | exact tupK (by k_in) (by k_is)); (case zzk2 => walk_at "my_bare"); (case zzk3 => first | assumption | rfl)); (try dsimp only)))
  k_with "compareOp Eq bytes bytes" => (k_dflt ((refine' eq_bytesI ?zzk1 ?zzk2 ?_); (case zzk1 => first | assumption | rfl); (case zzk2 => first | assumption | rfl)))
  k_with "compareOp NotEq bytes bytes" => (k_dflt ((refine' ne_bytesI ?zzk1 ?zzk2 ?_); (case zzk1 => first | assumption | rfl); (case zzk2 => first | assumption | rfl)))
  k_with "eval Dict nil nil" => ((k_here; k_dflt (refine' newDictB ?zzk1 ?zzk2 (TopRead.nolimit (by k_asm)) ?_; (case zzk1 => k_asm); (case zzk2 => k_asm); k_whole); intro d' h' o' F' N' l1 lo' hs'; (try k_lt l1); (try k_sweep)))
  k_with "compareOp In bytes ref" => ((k_here; k_dflt (first | refine inB (by k_asm) (by repeat first | exact List.Mem.head _ | assumption | refine List.Mem.tail _ ?_) (by k_asm) (by k_asm) true (by kernel_rfl!) ?_ | refine inB (by k_asm) (by repeat first | exact List.Mem.head _ | assumption | refine List.Mem.tail _ ?_) (by k_asm) (by k_asm) false (by kernel_rfl!) ?_)))
  k_with "compareOp NotIn bytes ref" => ((k_here; k_dflt (first | refine notInB (by k_asm) (by repeat first | exact List.Mem.head _ | assumption | refine List.Mem.tail _ ?_) (by k_asm) (by k_asm) true (by kernel_rfl!) ?_ | refine notInB (by k_asm) (by repeat first | exact List.Mem.head _ | assumption | refine List.Mem.tail _ ?_) (by k_asm) (by k_asm) false (by kernel_rfl!) ?_)))
  k_with "setItem ref bytes" => ((k_here; k_dflt (refine' setB ?zzF ?zzN ?zzU ?zzd ?zzz ?_; (case zzF => k_asm); (case zzN => k_asm); (case zzU => k_updF); (case zzd => k_asm); (case zzz => (rw [sizeLine_eq]; exact Nat.le_of_ble_eq_true (by kernel_rfl)))); intro h' o' F' N' hd'; (try dsimp only at N')))
  k_with "subscriptTail" => ((k_here; (with_reducible show wpAny _ _ (subscriptTail _ _ (Value.ref _) (Value.bytes _ _)) _ _ _); k_dflt (refine itemB (by k_asm) (by repeat first | exact List.Mem.head _ | assumption | refine List.Mem.tail _ ?_) (by k_asm) (by first | rfl | with_unfolding_all rfl) ?_)))
  k_with "my_enterC" => ((refine wpAny_call ?_; k_dflt (refine' code_defC ?zzk1 ?zzk2 ?zzk3 ?zzk4 ?zzk5 ?zzkA ?zzkF ?zzkK ?zzk6 ?zzk7 ?zzk8 ?zzk9 ?zzkB ?zzkD ?_ ?zzc2 ?zzc3 ?zzc4; (case zzkA => exact rfl); (case zzkF => exact rfl); (case zzkK => first | exact rfl | assumption); (case zzk1 => k_asm); (case zzk2 => k_asm); (case zzk3 => k_asm); (case zzk4 => k_asm); (case zzk5 => k_asm); (case zzk6 => k_is); (case zzk7 => k_is); (case zzk8 => ktr_room); (case zzk9 => exact BindsTo.of_eq rfl); (case zzkB => exact rfl); (case zzkD => decide +kernel); (case zzc2 => exact rfl); (case zzc3 => exact rfl); (case zzc4 => exact rfl); k_whole; intro g' L' h' tk' cells' FG' F' N' Y' B' X' T' l1; (try k_lt l1); k_cells Y'; (try simp only [List.cons_append, List.nil_append] at N'); (try dsimp only); (try k_lift B'); (try k_fold))))
  k_with "call ref" => ((k_here; k_dflt ((refine' CallsX.use (pseudo_trailer_spec _ _ _ _ _ _ _ _ _ _ _ ?zzma ?zzmb) ?zzk1 ?zzk2 ?zzk3 ?zzk4 ?zzk5 ?zzkK ?zzkd ?zzku ?_ ?_); (case zzk1 => k_asm); (case zzk2 => k_asm); (case zzk3 => k_asm); (case zzk4 => (refine cb_drop (by k_asm) (List.forall_mem_cons.mpr ⟨?zzx1, List.forall_mem_cons.mpr ⟨?zzx2, List.forall_mem_cons.mpr ⟨?zzx3, List.forall_mem_nil _⟩⟩⟩); (case zzx1 => k_mem); (case zzx2 => k_mem); (case zzx3 => k_mem))); (case zzk5 => k_asm); (case zzkK => first | exact rfl | assumption); (case zzkd => ktr_room); (case zzku => ktr_units); (case zzma => assumption); (case zzmb => (first | assumption | omega)); (all_goals first | walk_at "my_thr" | ((intro v9 n9 h9 tk9 hP F9 N9); (obtain ⟨e9, q9⟩ := hP); (subst e9); (try dsimp only); (try k_fold))))))
  unfold CallsX
  k_fill
  intro dp un gd cn cs a ccd cl outer A₀ base h₀ L m s Q E mean mg mb B F X N T hk hdp hun hret hthr
  walk_at "my_enter"
  k_steps
  · exact hret _ [] _ _ ⟨rfl, rfl, by assumption⟩ (by assumption) News.nil
  · exact hthr _ _ (by assumption) (by assumption)
end SM10
/-! # M11 -/
section SM11
theorem and4 {a b c d : Bool} (h1 : a = true) (h2 : b = true) (h3 : c = true) (h4 : d = true) : (a && b && c && d) = true := by rw [h1, h2, h3, h4]; rfl
theorem and4a {a b c d : Bool} (h : a = false ∨ b = false) : (a && b && c && d) = false := by rcases h with h | h <;> rw [h] <;> simp
theorem and4c {a b c d : Bool} (h : c = false) : (a && b && c && d) = false := by rw [h]; simp
theorem and4d {a b c d : Bool} (h : d = false) : (a && b && c && d) = false := by rw [h]; simp
theorem conn_false {ks : List Int} (hz : ks.length ≤ 6) (h : (ks == KBw.bInts #[67, 79, 78, 78, 69, 67, 84]) = true) : False := by
  rw [show KBw.bInts #[67, 79, 78, 78, 69, 67, 84] = [67, 79, 78, 78, 69, 67, 84] from by decide +kernel] at h
  have := eq_of_beq h
  rw [this] at hz
  exact absurd hz (by decide)
set_option maxHeartbeats 4000000 in
theorem check_request_spec (w : World) (fl p1 p2 p3 p4 : Addr) (c c1 c2 c3 c4 : Nat) (b1 b2 : Array UInt8) (t1 t2 t3 t4 u1 u2 u3 u4 : Tok) (ks1 ks2 : List Int) (hb1 : KBw.bInts b1 = ks1) (hz1 : ks1.length ≤ 6) (hb2 : KBw.bInts b2 = ks2) (hz2 : ks2.length ≤ 6) :
    CallsX w 12 115 [.ref fl] [(fl, listOf #[.ref p1, .ref p2, .ref p3, .ref p4] c), (p1, ({ cls := .type "tuple", data := .seq #[.bytes #[58, 109, 101, 116, 104, 111, 100] t1, .bytes b1 u1] c1 } : Obj)), (p2, ({ cls := .type "tuple", data := .seq #[.bytes #[58, 115, 99, 104, 101, 109, 101] t2, .bytes b2 u2] c2 } : Obj)), (p3, ({ cls := .type "tuple", data := .seq #[.bytes #[58, 112, 97, 116, 104] t3, .bytes #[47] u3] c3 } : Obj)), (p4, ({ cls := .type "tuple", data := .seq #[.bytes #[58, 97, 117, 116, 104, 111, 114, 105, 116, 121] t4, .bytes #[104] u4] c4 } : Obj))]
      (fun v news' => ∃ d o, v = .ref d ∧ (d == sysModules) = false ∧ o.IsDictOf (bytesKind PySem.Challenge.rw_pf0251_01.row.prog w) [((#[58, 109, 101, 116, 104, 111, 100] : Array UInt8).toList, .bytes b1 u1), ((#[58, 115, 99, 104, 101, 109, 101] : Array UInt8).toList, .bytes b2 u2), ((#[58, 112, 97, 116, 104] : Array UInt8).toList, .bytes #[47] u3), ((#[58, 97, 117, 116, 104, 111, 114, 105, 116, 121] : Array UInt8).toList, .bytes #[104] u4)] ∧ news' = [(d, o)] ∧ (valOk ks1 && valOk ks2 && tokOk ks1 && schOk ks2) = true) ((valOk ks1 && valOk ks2 && tokOk ks1 && schOk ks2) = false) := by
  k_with_none
  k_with "my_enter" => ((refine wpAny_call ?_; k_dflt (refine' code_def ?zzk1 ?zzk2 ?zzk3 ?zzk4 ?zzk5 ?zzkA ?zzkF ?zzkK ?zzk6 ?zzk7 ?zzk8 ?zzk9 ?zzkB ?_ ?zzc2 ?zzc3 ?zzc4 ?zzc5; (case zzkA => exact rfl); (case zzkF => exact rfl); (case zzkK => first | exact rfl | assumption); (case zzk1 => k_asm); (case zzk2 => k_asm); (case zzk3 => k_asm); (case zzk4 => k_asm); (case zzk5 => k_asm); (case zzk6 => k_is); (case zzk7 => k_is); (case zzk8 => ktr_room); (case zzk9 => exact BindsTo.of_eq rfl); (case zzc5 => decide); (case zzkB => exact locs rfl); (case zzc2 => exact rfl); (case zzc3 => exact rfl); (case zzc4 => exact rfl); k_whole; intro g' L' h' FG' F' N' B' X' T'; (try dsimp only); (try k_fold))))
  k_with "my_bools" => (first | rfl | (simp only [*, Bool.not_true, Bool.not_false, Bool.and_true, Bool.true_and, Bool.and_false, Bool.false_and, Bool.or_true, Bool.or_false, Bool.true_or, Bool.false_or]; done) | (refine Bool.eq_iff_iff.mpr ?_; simp only [isLet, isName, isSch, nameSigns_eq, schemeSigns_eq, decide_eq_true_eq, Bool.or_eq_true, Bool.and_eq_true, Bool.not_eq_true', Bool.not_eq_true, okOct, decide_eq_false_iff_not, Bool.or_eq_false_iff, Bool.and_eq_false_iff, Bool.not_eq_false'] at *; first | omega | (simp_all; done) | (simp_all; omega)))
  k_with "my_use" => (((case zzk1 => k_asm); (case zzk2 => k_asm); (case zzk3 => k_asm); (case zzk4 => k_asm); (case zzk5 => k_asm); (case zzkK => first | exact rfl | assumption); (case zzkd => ktr_room); (case zzku => ktr_units)))
  k_with "compareOp In int bytes" => ((refine in_bytes_int (by assumption) (by assumption) ?_))
  k_with "compareOp NotIn int bytes" => ((refine notIn_bytes_int (by assumption) (by assumption) ?_))
  k_with "eval ListComp" => (k_dflt (k_extra "my_lc"))
  k_with "LcT" => ((refine ⟨?_, _, _, rfl, by assumption, by assumption⟩; walk_at "my_bools"))
  k_with "call ref" => ((k_here; (refine' Calls.use (is_letter_spec _ _ _ _) ?zzk1 ?zzk2 ?zzk3 ?zzk4 ?zzk5 ?zzkK ?zzkd ?zzku ?_); walk_at "my_use"; (intro v9 n9 h9 tk9 hP F9 N9); (obtain ⟨e8, e9⟩ := hP); (subst e8); (replace e9 := Eq.symm e9); (subst e9); (try dsimp only); (try k_fold)))
  k_with "call ref" => ((k_here; (refine' Calls.use (is_name_spec _ _ _ _ (by assumption) (by assumption)) ?zzk1 ?zzk2 ?zzk3 ?zzk4 ?zzk5 ?zzkK ?zzkd ?zzku ?_); walk_at "my_use"; (intro v9 n9 h9 tk9 hP F9 N9); (obtain ⟨e8, e9⟩ := hP); (subst e8); (replace e9 := Eq.symm e9); (subst e9); (try dsimp only); (try k_fold)))
  k_with "compareOp Eq ref ref" => ((k_here; k_dflt (refine' eq_nil ?zzk0 ?zzk1 ?zzk2 ?zzk3 ?zzk4 ?zzk5 ?_; (case zzk0 => k_asm); (case zzk1 => k_asm); (case zzk2 => k_mem); (case zzk3 => k_mem); (case zzk4 => assumption); (case zzk5 => ktr_units)); (try dsimp only)))
  k_with "compareOp NotEq ref ref" => ((k_here; k_dflt (refine' ne_nil ?zzk0 ?zzk1 ?zzk2 ?zzk3 ?zzk4 ?zzk5 ?_; (case zzk0 => k_asm); (case zzk1 => k_asm); (case zzk2 => k_mem); (case zzk3 => k_mem); (case zzk4 => assumption); (case zzk5 => ktr_units)); (try dsimp only)))
  k_with "exec Assign cons ListComp" => (k_dflt (k_extra "my_lcA"))
  k_with "my_thr" => ((intro e9 s9 hb9 T9; (try dsimp only at T9 ⊢); (repeat k_unfold); refine x_up (by assumption) (by assumption) rfl rfl rfl ⟨rfl, rfl, rfl⟩ T9 (fun s8 T8 => ?_)))
  k_with "call ref" => ((k_here; k_dflt ((refine' CallsX.use (malformed_spec _ _ _ _ (by decide +kernel)) ?zzk1 ?zzk2 ?zzk3 ?zzk4 ?zzk5 ?zzkK ?zzkd ?zzku ?_ ?_); walk_at "my_use"; (all_goals first | walk_at "my_thr" | (intro v9 n9 h9 tk9 hP; exact hP.elim)))))
  k_with "my_bare" => (first | exact BytesAre.nil | (refine' BytesAre.cons ?zzba ?zzbb; (case zzba => exact rfl); (case zzbb => walk_at "my_bare")))
  k_with "compareOp In bytes ref" => ((k_here; k_dflt ((refine' in_tuple_bytes ?zzk1 ?zzk2 ?zzk3 ?_); (case zzk1 => first | exact News.isTup (by k_asm) (by k_mem) | exact tupK (by k_in) (by k_is)); (case zzk2 => walk_at "my_bare"); (case zzk3 => first | assumption | rfl)); (try dsimp only)))
  k_with "compareOp NotIn bytes ref" => ((k_here; k_dflt ((refine' notIn_tuple_bytes ?zzk1 ?zzk2 ?zzk3 ?_); (case zzk1 => first | exact News.isTup (by k_asm) (by k_mem) | exact tupK (by k_in) (by k_is)); (case zzk2 => walk_at "my_bare"); (case zzk3 => first | assumption | rfl)); (try dsimp only)))
  k_with "compareOp Eq bytes bytes" => (k_dflt ((refine' eq_bytesI ?zzk1 ?zzk2 ?_); (case zzk1 => first | assumption | rfl); (case zzk2 => first | assumption | rfl)))
  k_with "compareOp NotEq bytes bytes" => (k_dflt ((refine' ne_bytesI ?zzk1 ?zzk2 ?_); (case zzk1 => first | assumption | rfl); (case zzk2 => first | assumption | rfl)))
  k_with "eval Dict nil nil" => ((k_here; k_dflt (refine' newDictB ?zzk1 ?zzk2 (TopRead.nolimit (by k_asm)) ?_; (case zzk1 => k_asm); (case zzk2 => k_asm); k_whole); intro d' h' o' F' N' l1 lo' hs'; (try k_lt l1); (try k_sweep)))
  k_with "compareOp In bytes ref" => ((k_here; k_dflt (first | refine inB (by k_asm) (by repeat first | exact List.Mem.head _ | assumption | refine List.Mem.tail _ ?_) (by k_asm) (by k_asm) true (by kernel_rfl!) ?_ | refine inB (by k_asm) (by repeat first | exact List.Mem.head _ | assumption | refine List.Mem.tail _ ?_) (by k_asm) (by k_asm) false (by kernel_rfl!) ?_)))
  k_with "compareOp NotIn bytes ref" => ((k_here; k_dflt (first | refine notInB (by k_asm) (by repeat first | exact List.Mem.head _ | assumption | refine List.Mem.tail _ ?_) (by k_asm) (by k_asm) true (by kernel_rfl!) ?_ | refine notInB (by k_asm) (by repeat first | exact List.Mem.head _ | assumption | refine List.Mem.tail _ ?_) (by k_asm) (by k_asm) false (by kernel_rfl!) ?_)))
  k_with "setItem ref bytes" => ((k_here; k_dflt (refine' setB ?zzF ?zzN ?zzU ?zzd ?zzz ?_; (case zzF => k_asm); (case zzN => k_asm); (case zzU => k_updF); (case zzd => k_asm); (case zzz => (rw [sizeLine_eq]; exact Nat.le_of_ble_eq_true (by kernel_rfl)))); intro h' o' F' N' hd'; (try dsimp only at N')))
  k_with "subscriptTail" => ((k_here; (with_reducible show wpAny _ _ (subscriptTail _ _ (Value.ref _) (Value.bytes _ _)) _ _ _); k_dflt (refine itemB (by k_asm) (by repeat first | exact List.Mem.head _ | assumption | refine List.Mem.tail _ ?_) (by k_asm) (by first | rfl | with_unfolding_all rfl) ?_)))
  k_with "my_enterC" => ((refine wpAny_call ?_; k_dflt (refine' code_defC ?zzk1 ?zzk2 ?zzk3 ?zzk4 ?zzk5 ?zzkA ?zzkF ?zzkK ?zzk6 ?zzk7 ?zzk8 ?zzk9 ?zzkB ?zzkD ?_ ?zzc2 ?zzc3 ?zzc4; (case zzkA => exact rfl); (case zzkF => exact rfl); (case zzkK => first | exact rfl | assumption); (case zzk1 => k_asm); (case zzk2 => k_asm); (case zzk3 => k_asm); (case zzk4 => k_asm); (case zzk5 => k_asm); (case zzk6 => k_is); (case zzk7 => k_is); (case zzk8 => ktr_room); (case zzk9 => exact BindsTo.of_eq rfl); (case zzkB => exact rfl); (case zzkD => decide +kernel); (case zzc2 => exact rfl); (case zzc3 => exact rfl); (case zzc4 => exact rfl); k_whole; intro g' L' h' tk' cells' FG' F' N' Y' B' X' T' l1; (try k_lt l1); k_cells Y'; (try simp only [List.cons_append, List.nil_append] at N'); (try dsimp only); (try k_lift B'); (try k_fold))))
  k_with "call ref" => ((k_here; k_dflt ((refine' CallsX.use (pseudo_request_spec _ _ _ _ _ _ _ _ _ _ _ _ _ _ _ _ _ _ _ _ _ _ _ ?zzma ?zzmb ?zzmc ?zzmd) ?zzk1 ?zzk2 ?zzk3 ?zzk4 ?zzk5 ?zzkK ?zzkd ?zzku ?_ ?_); (case zzk1 => k_asm); (case zzk2 => k_asm); (case zzk3 => k_asm); (case zzk4 => k_asm); (case zzk5 => k_asm); (case zzkK => first | exact rfl | assumption); (case zzkd => ktr_room); (case zzku => ktr_units); (case zzma => assumption); (case zzmb => (first | assumption | omega)); (case zzmc => assumption); (case zzmd => (first | assumption | omega)); (all_goals first | walk_at "my_thr" | ((intro v9 n9 h9 tk9 hP F9 N9); (obtain ⟨d8, o8, e8, lo8, hd8, e9, q8, q9⟩ := hP); (subst e8); (subst e9); (try dsimp only); (try k_fold))))))
  k_with "call ref" => ((k_here; k_dflt (refine' Calls.use (is_token_spec _ _ _ _ _ (by first | assumption | rfl) (by first | assumption | decide +kernel | omega)) ?zzk1 ?zzk2 ?zzk3 ?zzk4 ?zzk5 ?zzkK ?zzkd ?zzku ?_); walk_at "my_use"; (intro v9 n9 h9 tk9 hP F9 N9); (obtain ⟨e8, e9⟩ := hP); (subst e8); (replace e9 := Eq.symm e9); (subst e9); (try dsimp only); (try k_fold)))
  k_with "call ref" => ((k_here; k_dflt (refine' Calls.use (is_scheme_spec _ _ _ _ _ (by first | assumption | rfl) (by first | assumption | decide +kernel | omega)) ?zzk1 ?zzk2 ?zzk3 ?zzk4 ?zzk5 ?zzkK ?zzkd ?zzku ?_); walk_at "my_use"; (intro v9 n9 h9 tk9 hP F9 N9); (obtain ⟨e8, e9⟩ := hP); (subst e8); (replace e9 := Eq.symm e9); (subst e9); (try dsimp only); (try k_fold)))
  k_with "call ref" => ((k_here; k_dflt (refine' Calls.use (check_authority_spec _ _ _ _ _ _ _ _ _ _ _ _ _ _ _ _ _ _ _ _ _ _ _ _ ?zzma ?zzmb ?zzmc ?zzm0 ?zzm1 ?zzm2 ?zzm3 ?zzm4) ?zzk1 ?zzk2 ?zzk3 ?zzk4 ?zzk5 ?zzkK ?zzkd ?zzku ?_; (case zzk1 => k_asm); (case zzk2 => k_asm); (case zzk3 => k_asm); (case zzk4 => k_asm); (case zzk5 => k_asm); (case zzkK => first | exact rfl | assumption); (case zzkd => ktr_room); (case zzku => ktr_units); (case zzm0 => (repeat first | exact List.Mem.head _ | assumption | refine List.Mem.tail _ ?_)); (case zzm1 => (repeat first | exact List.Mem.head _ | assumption | refine List.Mem.tail _ ?_)); (case zzm2 => (repeat first | exact List.Mem.head _ | assumption | refine List.Mem.tail _ ?_)); (case zzm3 => (repeat first | exact List.Mem.head _ | assumption | refine List.Mem.tail _ ?_)); (case zzm4 => (repeat first | exact List.Mem.head _ | assumption | refine List.Mem.tail _ ?_)); (case zzma => (repeat first | exact List.Mem.head _ | assumption | refine List.Mem.tail _ ?_)); (case zzmb => assumption); (case zzmc => assumption)); (intro v9 n9 h9 tk9 hP F9 N9); (obtain ⟨e8, e9⟩ := hP); (subst e8); (replace e9 := Eq.symm e9); (subst e9); (try dsimp only); (try k_fold)))
  k_with "call ref" => ((k_here; k_dflt (refine' Calls.use (content_length_spec _ _ _ _ _ _ _ _ _ _ _ _ _ _ _ _ _ _ _ _ _ _ ?zzm0 ?zzm1 ?zzm2 ?zzm3 ?zzm4) ?zzk1 ?zzk2 ?zzk3 ?zzk4 ?zzk5 ?zzkK ?zzkd ?zzku ?_; (case zzk1 => k_asm); (case zzk2 => k_asm); (case zzk3 => k_asm); (case zzk4 => k_asm); (case zzk5 => k_asm); (case zzkK => first | exact rfl | assumption); (case zzkd => ktr_room); (case zzku => ktr_units); (case zzm0 => (repeat first | exact List.Mem.head _ | assumption | refine List.Mem.tail _ ?_)); (case zzm1 => (repeat first | exact List.Mem.head _ | assumption | refine List.Mem.tail _ ?_)); (case zzm2 => (repeat first | exact List.Mem.head _ | assumption | refine List.Mem.tail _ ?_)); (case zzm3 => (repeat first | exact List.Mem.head _ | assumption | refine List.Mem.tail _ ?_)); (case zzm4 => (repeat first | exact List.Mem.head _ | assumption | refine List.Mem.tail _ ?_))); (intro v9 n9 h9 tk9 hP F9 N9); (obtain ⟨e8, e9⟩ := hP); (subst e8); (replace e9 := Eq.symm e9); (subst e9); (try dsimp only); (try k_fold)))
  unfold CallsX
  k_fill
  intro dp un gd cn cs a ccd cl outer A₀ base h₀ L m s Q E mean mg mb B F X N T hk hdp hun hret hthr
  have hzb1 : b1.size ≤ 16 := by rw [← KBw.ints_length, hb1]; omega
  have hzb2 : b2.size ≤ 16 := by rw [← KBw.ints_length, hb2]; omega
  have hzc1 : ks1.length ≤ 16 := by omega
  have hzc2 : ks2.length ≤ 16 := by omega
  have l1 : KBw.bInts #[58, 109, 101, 116, 104, 111, 100] = [58, 109, 101, 116, 104, 111, 100] := by decide +kernel
  have l2 : KBw.bInts #[58, 115, 99, 104, 101, 109, 101] = [58, 115, 99, 104, 101, 109, 101] := by decide +kernel
  have l3 : KBw.bInts #[58, 112, 97, 116, 104] = [58, 112, 97, 116, 104] := by decide +kernel
  have l4 : KBw.bInts #[58, 97, 117, 116, 104, 111, 114, 105, 116, 121] = [58, 97, 117, 116, 104, 111, 114, 105, 116, 121] := by decide +kernel
  have l5 : KBw.bInts #[47] = [47] := by decide +kernel
  have l6 : KBw.bInts #[104] = [104] := by decide +kernel
  walk_at "my_enter"
  k_steps
  · exact (conn_false hz1 (by assumption)).elim
  · exact hret _ [(_, _)] _ _ ⟨_, _, rfl, by assumption, by assumption, rfl, and4 (by assumption) (by assumption) (by assumption) (by assumption)⟩ (by assumption) (cb_drop (by assumption) (fun p hp => by rw [List.mem_singleton.mp hp]; exact .tail _ (.head _)))
  · exact hret _ [(_, _)] _ _ ⟨_, _, rfl, by assumption, by assumption, rfl, and4 (by assumption) (by assumption) (by assumption) (by assumption)⟩ (by assumption) (cb_drop (by assumption) (fun p hp => by rw [List.mem_singleton.mp hp]; exact .tail _ (.head _)))
  · exact hthr _ _ (and4d (by assumption)) (by assumption)
  · exact hthr _ _ (and4c (by assumption)) (by assumption)
  · exact hthr _ _ (and4a (by assumption)) (by assumption)
end SM11
/-! # M18 -/
section SM18
local macro_rules | `(tactic| k_all) => `(tactic| first | assumption | (intro p9 hp9; exact Nat.ne_of_lt (ktn_ltOf (by assumption) p9 hp9)) | (intro p9 hp9; exact Nat.ne_of_lt ((by assumption : ∀ p ∈ _, p.1 < _) p9 hp9)))
local macro_rules | `(tactic| k_ne) => `(tactic| assumption)
def OctJ (fnd box inner : Addr) (rest : Led) (i : Nat) (nw : Led) : Prop := ∃ us l k n tn cb vs ns ci, nw = (fnd, listOf us.toArray k) :: (box, listOf #[.ref inner, .int n tn] cb) :: (inner, listOf vs.toArray ci) :: rest ∧ IntsAre us l ∧ l.length = i ∧ (∀ x ∈ l, (0 : Int) ≤ x ∧ x < 256) ∧ IntsAre vs ns ∧ ns.length ≤ 40
theorem loop_oct {prog : Program} {w : World} {A : Around} {E : Value → Shared → Prop} {s : Shared} {env : Env} {h₀ : Heap} {body : List Stmt} {Q : Flow → Shared → Prop} {r : Addr} {b : Int} {t u v : Tok} {m : Str → Option Value} {fnd box inner : Addr} {rest : Led} {k₀ cb₀ ci₀ : Nat} {n₀ : Int} {tn₀ : Tok} {vs₀ : List Value} {ns₀ : List Int}
    (hr : IsRange s.heap r 0 b 1 t u v) (hb : 0 ≤ b) (hn : b < 5) (hh : A.handled = none) (F : Fr h₀ env.locals s.heap m) (N : News h₀ env.locals s.heap ((fnd, listOf #[] k₀) :: (box, listOf #[.ref inner, .int n₀ tn₀] cb₀) :: (inner, listOf vs₀.toArray ci₀) :: rest)) (hI : IntsAre vs₀ ns₀) (hz : ns₀.length ≤ 40)
    (step : ∀ (i : Nat) tv f us l k n tn cb vs ns ci I oI h tk, l.length = i → i < 5 → (∀ x ∈ l, (0 : Int) ≤ x ∧ x < 256) → IntsAre us l → IntsAre vs ns → ns.length ≤ 40 → (∀ p ∈ (fnd, listOf us.toArray k) :: (box, listOf #[.ref inner, .int n tn] cb) :: (inner, listOf vs.toArray ci) :: rest, p.1 ≠ I) → Fr h₀ env.locals h (fun y => if y = "turn" then some (.int i tv) else over f m ["turn", "form"] y) →
      News h₀ env.locals h ((I, oI) :: (fnd, listOf us.toArray k) :: (box, listOf #[.ref inner, .int n tn] cb) :: (inner, listOf vs.toArray ci) :: rest) →
      wpAny (model prog w) A (execs body env) (TurnO h₀ env.locals I oI m ["turn", "form"] (OctJ fnd box inner rest (i + 1)) { s with heap := h, toks := tk } (fun v s' => Q (.ret v) s')) E { s with heap := h, toks := tk })
    (fin : ∀ h tk f us l k n tn cb vs ns ci, l.length ≤ 4 → (∀ x ∈ l, (0 : Int) ≤ x ∧ x < 256) → IntsAre us l → IntsAre vs ns → ns.length ≤ 40 → Fr h₀ env.locals h (over f m ["turn", "form"]) → News h₀ env.locals h ((fnd, listOf us.toArray k) :: (box, listOf #[.ref inner, .int n tn] cb) :: (inner, listOf vs.toArray ci) :: rest) → Q .next { s with heap := h, toks := tk }) :
    wpAny (model prog w) A (pyIter (.ref r)) (fun it s₂ => LoopAtV prog w A h₀ env "turn" body Q E it s₂) E s := by
  refine loop_over b.toNat ["turn", "form"] (OctJ fnd box inner rest) hr (by omega) (by omega) hh (.head _) F N ⟨[], [], _, _, _, _, _, _, _, rfl, .nil, rfl, (fun x hx => nomatch hx), hI, hz⟩ ?_ ?_
  · rintro i tv f nw I oI h tk hi ⟨us, l, k, n, tn, cb, vs, ns, ci, rfl, h1, h2, h3, h4, h5⟩ ho F' N'
    exact step i tv f us l k n tn cb vs ns ci I oI h tk h2 (by omega) h3 h1 h4 h5 ho F' N'
  · rintro h tk f nw F' N' ⟨us, l, k, n, tn, cb, vs, ns, ci, rfl, h1, h2, h3, h4, h5⟩
    exact fin h tk f us l k n tn cb vs ns ci (by omega) h3 h1 h4 h5 F' N'
theorem over_out {f m : Str → Option Value} : ∀ {zs : List Str} {y : Str}, y ∉ zs → over f m zs y = m y
  | [], y, h => rfl
  | z :: r, y, h => by
    show (if y = z then f z else over f m r y) = m y
    rw [if_neg (fun e => h (by rw [e]; exact .head _))]
    exact over_out fun q => h (.tail _ q)
theorem oct_end {h₀ h : Heap} {L I fnd box inner : Addr} {oI o1 o2 o3 : Obj} {m f : Str → Option Value} {a b : Option Value} {rest all : Led} {us : List Value} {l : List Int} {i k cb ci tk : Nat} {x n : Int} {tx tn : Tok} {vs : List Value} {ns : List Int} {s₁ : Shared} {Qr : Value → Shared → Prop}
    (hI : IntsAre us l) (hl : l.length = i) (hr : ∀ x ∈ l, (0 : Int) ≤ x ∧ x < 256) (hx : 0 ≤ x ∧ x < 256)
    (F : Fr h₀ L h (fun y => if y = "form" then a else if y = "turn" then b else over f m ["turn", "form"] y)) (N : News h₀ L h all)
    (sub : ∀ p ∈ (I, oI) :: (fnd, listOf (us.toArray.push (.int x tx)) k) :: (box, listOf #[.ref inner, .int n tn] cb) :: (inner, listOf vs.toArray ci) :: rest, p ∈ all)
    (q7 : ∀ p ∈ (fnd, o1) :: (box, o2) :: (inner, o3) :: rest, p.1 ≠ I) (hJ : IntsAre vs ns) (hz : ns.length ≤ 40) :
    TurnO h₀ L I oI m ["turn", "form"] (OctJ fnd box inner rest (i + 1)) s₁ Qr .next { s₁ with heap := h, toks := tk } := by
  refine ⟨h, tk, _, (fnd, listOf (us.toArray.push (.int x tx)) k) :: (box, listOf #[.ref inner, .int n tn] cb) :: (inner, listOf vs.toArray ci) :: rest, rfl, F, fun p hp => N p (sub p hp), fun p hp => ?_, fun y hy => ?_, us ++ [.int x tx], l ++ [x], k, n, tn, cb, vs, ns, ci, ?_, hI.append (.cons _ _ .nil), ?_, ?_, hJ, hz⟩
  · rcases List.mem_cons.mp hp with rfl | hp
    · exact q7 (fnd, o1) (.head _)
    · rcases List.mem_cons.mp hp with rfl | hp
      · exact q7 (box, o2) (.tail _ (.head _))
      · rcases List.mem_cons.mp hp with rfl | hp
        · exact q7 (inner, o3) (.tail _ (.tail _ (.head _)))
        · exact q7 _ (.tail _ (.tail _ (.tail _ hp)))
  · show (if y = "form" then a else if y = "turn" then b else over f m ["turn", "form"] y) = m y
    rw [if_neg (fun e => hy (by rw [e]; exact .tail _ (.head _))), if_neg (fun e => hy (by rw [e]; exact .head _))]
    exact over_out hy
  · rw [List.push_toArray]
  · rw [List.length_append, hl]; rfl
  · intro z hz
    rcases List.mem_append.mp hz with hz | hz
    · exact hr z hz
    · rw [List.mem_singleton.mp hz]; exact hx
theorem ed_in (j : Nat) : 0 ≤ ([0, 1, 8, 9, 10, 13, 31, 32, 33, 34, 40, 43, 45, 46, 47, 48, 57, 58, 64, 65, 90, 91, 95, 97, 122, 123, 126, 127, 128, 255] : List Int).getD j 0 ∧ ([0, 1, 8, 9, 10, 13, 31, 32, 33, 34, 40, 43, 45, 46, 47, 48, 57, 58, 64, 65, 90, 91, 95, 97, 122, 123, 126, 127, 128, 255] : List Int).getD j 0 < 256 := KBw.getD_in (by decide)
theorem lt_in (j : Nat) : 0 ≤ ([97, 65, 57, 122, 48, 90] : List Int).getD j 0 ∧ ([97, 65, 57, 122, 48, 90] : List Int).getD j 0 < 256 := KBw.getD_in (by decide)
theorem sub_cons {p : Addr × Obj} {r : Led} {I : Addr × Obj} : ∀ q ∈ I :: r, q ∈ p :: I :: r := fun _ h => .tail _ h
theorem byteArr_ints {l : List Int} (h : ∀ x ∈ l, (0 : Int) ≤ x ∧ x < 256) : (KBw.bInts (byteArr l)).length = l.length := by
  rw [KBw.ints_length]
  simp [byteArr]
def OctP (inner : Addr) (v : Value) (oa ob : Obj) : Prop := ∃ b t n tn cb vs ns ci, v = .bytes b t ∧ (KBw.bInts b).length ≤ 4 ∧ oa = listOf #[.ref inner, .int n tn] cb ∧ ob = listOf vs.toArray ci ∧ IntsAre vs ns ∧ ns.length ≤ 40
set_option maxHeartbeats 4000000 in
theorem octets_spec (w : World) (box inner : Addr) (n : Int) (tn : Tok) (cb ci : Nat) (vs : List Value) (ns : List Int) (hI : IntsAre vs ns) (hz : ns.length ≤ 40) (hbi : box ≠ inner) :
    TwoC w 6 155 [.ref box] box inner (listOf #[.ref inner, .int n tn] cb) (listOf vs.toArray ci) (OctP inner) := by
  k_with_none
  k_with "my_enter" => ((refine wpAny_call ?_; k_dflt (refine' code_def ?zzk1 ?zzk2 ?zzk3 ?zzk4 ?zzk5 ?zzkA ?zzkF ?zzkK ?zzk6 ?zzk7 ?zzk8 ?zzk9 ?zzkB ?_ ?zzc2 ?zzc3 ?zzc4 ?zzc5; (case zzkA => exact rfl); (case zzkF => exact rfl); (case zzkK => first | exact rfl | assumption); (case zzk1 => k_asm); (case zzk2 => k_asm); (case zzk3 => k_asm); (case zzk4 => k_asm); (case zzk5 => k_asm); (case zzk6 => k_is); (case zzk7 => k_is); (case zzk8 => ktr_room); (case zzk9 => exact BindsTo.of_eq rfl); (case zzc5 => decide); (case zzkB => exact locs rfl); (case zzc2 => exact rfl); (case zzc3 => exact rfl); (case zzc4 => exact rfl); k_whole; intro g' L' h' FG' F' N' B' X' T'; (try dsimp only); (try k_fold))))
  k_with "my_bools" => (first | rfl | (simp only [*, Bool.not_true, Bool.not_false, Bool.and_true, Bool.true_and, Bool.and_false, Bool.false_and, Bool.or_true, Bool.or_false, Bool.true_or, Bool.false_or]; done) | (refine Bool.eq_iff_iff.mpr ?_; simp only [isLet, isName, isSch, nameSigns_eq, schemeSigns_eq, decide_eq_true_eq, Bool.or_eq_true, Bool.and_eq_true, Bool.not_eq_true', Bool.not_eq_true, okOct, decide_eq_false_iff_not, Bool.or_eq_false_iff, Bool.and_eq_false_iff, Bool.not_eq_false'] at *; first | omega | (simp_all; done) | (simp_all; omega)))
  k_with "my_use" => (((case zzk1 => k_asm); (case zzk2 => k_asm); (case zzk3 => k_asm); (case zzk4 => k_asm); (case zzk5 => k_asm); (case zzkK => first | exact rfl | assumption); (case zzkd => ktr_room); (case zzku => ktr_units)))
  k_with "compareOp In int bytes" => ((refine in_bytes_int (by assumption) (by assumption) ?_))
  k_with "compareOp NotIn int bytes" => ((refine notIn_bytes_int (by assumption) (by assumption) ?_))
  k_with "eval ListComp" => (k_dflt (k_extra "my_lc"))
  k_with "LcT" => ((refine ⟨?_, _, _, rfl, by assumption, by assumption⟩; walk_at "my_bools"))
  k_with "call ref" => ((k_here; (refine' Calls.use (is_letter_spec _ _ _ _) ?zzk1 ?zzk2 ?zzk3 ?zzk4 ?zzk5 ?zzkK ?zzkd ?zzku ?_); walk_at "my_use"; (intro v9 n9 h9 tk9 hP F9 N9); (obtain ⟨e8, e9⟩ := hP); (subst e8); (replace e9 := Eq.symm e9); (subst e9); (try dsimp only); (try k_fold)))
  k_with "call ref" => ((k_here; (refine' Calls.use (is_name_spec _ _ _ _ (by assumption) (by assumption)) ?zzk1 ?zzk2 ?zzk3 ?zzk4 ?zzk5 ?zzkK ?zzkd ?zzku ?_); walk_at "my_use"; (intro v9 n9 h9 tk9 hP F9 N9); (obtain ⟨e8, e9⟩ := hP); (subst e8); (replace e9 := Eq.symm e9); (subst e9); (try dsimp only); (try k_fold)))
  k_with "compareOp Eq ref ref" => ((k_here; k_dflt (refine' eq_nil ?zzk0 ?zzk1 ?zzk2 ?zzk3 ?zzk4 ?zzk5 ?_; (case zzk0 => k_asm); (case zzk1 => k_asm); (case zzk2 => k_mem); (case zzk3 => k_mem); (case zzk4 => assumption); (case zzk5 => ktr_units)); (try dsimp only)))
  k_with "compareOp NotEq ref ref" => ((k_here; k_dflt (refine' ne_nil ?zzk0 ?zzk1 ?zzk2 ?zzk3 ?zzk4 ?zzk5 ?_; (case zzk0 => k_asm); (case zzk1 => k_asm); (case zzk2 => k_mem); (case zzk3 => k_mem); (case zzk4 => assumption); (case zzk5 => ktr_units)); (try dsimp only)))
  k_with "exec Assign cons ListComp" => (k_dflt (k_extra "my_lcA"))
  k_with "my_thr" => ((intro e9 s9 hb9 T9; (try dsimp only at T9 ⊢); (repeat k_unfold); refine x_up (by assumption) (by assumption) rfl rfl rfl ⟨rfl, rfl, rfl⟩ T9 (fun s8 T8 => ?_)))
  k_with "call ref" => ((k_here; k_dflt ((refine' CallsX.use (malformed_spec _ _ _ _ (by decide +kernel)) ?zzk1 ?zzk2 ?zzk3 ?zzk4 ?zzk5 ?zzkK ?zzkd ?zzku ?_ ?_); walk_at "my_use"; (all_goals first | walk_at "my_thr" | (intro v9 n9 h9 tk9 hP; exact hP.elim)))))
  k_with "my_bare" => (first | exact BytesAre.nil | (refine' BytesAre.cons ?zzba ?zzbb; (case zzba => exact rfl); (case zzbb => walk_at "my_bare")))
  k_with "compareOp In bytes ref" => ((k_here; k_dflt ((refine' in_tuple_bytes ?zzk1 ?zzk2 ?zzk3 ?_); (case zzk1 => first | exact News.isTup (by k_asm) (by k_mem) | exact tupK (by k_in) (by k_is)); (case zzk2 => walk_at "my_bare"); (case zzk3 => first | assumption | rfl)); (try dsimp only)))
  k_with "compareOp NotIn bytes ref" => ((k_here; k_dflt ((refine' notIn_tuple_bytes ?zzk1 ?zzk2 ?zzk3 ?_); (case zzk1 => first | exact News.isTup (by k_asm) (by k_mem) | exact tupK (by k_in) (by k_is)); (case zzk2 => walk_at "my_bare"); (case zzk3 => first | assumption | rfl)); (try dsimp only)))
  k_with "compareOp Eq bytes bytes" => (k_dflt ((refine' eq_bytesI ?zzk1 ?zzk2 ?_); (case zzk1 => first | assumption | rfl); (case zzk2 => first | assumption | rfl)))
  k_with "compareOp NotEq bytes bytes" => (k_dflt ((refine' ne_bytesI ?zzk1 ?zzk2 ?_); (case zzk1 => first | assumption | rfl); (case zzk2 => first | assumption | rfl)))
  k_with "eval Dict nil nil" => ((k_here; k_dflt (refine' newDictB ?zzk1 ?zzk2 (TopRead.nolimit (by k_asm)) ?_; (case zzk1 => k_asm); (case zzk2 => k_asm); k_whole); intro d' h' o' F' N' l1 lo' hs'; (try k_lt l1); (try k_sweep)))
  k_with "compareOp In bytes ref" => ((k_here; k_dflt (first | refine inB (by k_asm) (by repeat first | exact List.Mem.head _ | assumption | refine List.Mem.tail _ ?_) (by k_asm) (by k_asm) true (by kernel_rfl!) ?_ | refine inB (by k_asm) (by repeat first | exact List.Mem.head _ | assumption | refine List.Mem.tail _ ?_) (by k_asm) (by k_asm) false (by kernel_rfl!) ?_)))
  k_with "compareOp NotIn bytes ref" => ((k_here; k_dflt (first | refine notInB (by k_asm) (by repeat first | exact List.Mem.head _ | assumption | refine List.Mem.tail _ ?_) (by k_asm) (by k_asm) true (by kernel_rfl!) ?_ | refine notInB (by k_asm) (by repeat first | exact List.Mem.head _ | assumption | refine List.Mem.tail _ ?_) (by k_asm) (by k_asm) false (by kernel_rfl!) ?_)))
  k_with "setItem ref bytes" => ((k_here; k_dflt (refine' setB ?zzF ?zzN ?zzU ?zzd ?zzz ?_; (case zzF => k_asm); (case zzN => k_asm); (case zzU => k_updF); (case zzd => k_asm); (case zzz => (rw [sizeLine_eq]; exact Nat.le_of_ble_eq_true (by kernel_rfl)))); intro h' o' F' N' hd'; (try dsimp only at N')))
  k_with "subscriptTail" => ((k_here; (with_reducible show wpAny _ _ (subscriptTail _ _ (Value.ref _) (Value.bytes _ _)) _ _ _); k_dflt (refine itemB (by k_asm) (by repeat first | exact List.Mem.head _ | assumption | refine List.Mem.tail _ ?_) (by k_asm) (by first | rfl | with_unfolding_all rfl) ?_)))
  k_with "my_enterC" => ((refine wpAny_call ?_; k_dflt (refine' code_defC ?zzk1 ?zzk2 ?zzk3 ?zzk4 ?zzk5 ?zzkA ?zzkF ?zzkK ?zzk6 ?zzk7 ?zzk8 ?zzk9 ?zzkB ?zzkD ?_ ?zzc2 ?zzc3 ?zzc4; (case zzkA => exact rfl); (case zzkF => exact rfl); (case zzkK => first | exact rfl | assumption); (case zzk1 => k_asm); (case zzk2 => k_asm); (case zzk3 => k_asm); (case zzk4 => k_asm); (case zzk5 => k_asm); (case zzk6 => k_is); (case zzk7 => k_is); (case zzk8 => ktr_room); (case zzk9 => exact BindsTo.of_eq rfl); (case zzkB => exact rfl); (case zzkD => decide +kernel); (case zzc2 => exact rfl); (case zzc3 => exact rfl); (case zzc4 => exact rfl); k_whole; intro g' L' h' tk' cells' FG' F' N' Y' B' X' T' l1; (try k_lt l1); k_cells Y'; (try simp only [List.cons_append, List.nil_append] at N'); (try dsimp only); (try k_lift B'); (try k_fold))))
  k_with "call ref" => ((k_here; k_dflt (refine' Calls.use (TwoC.up (draw_spec _ _ _ _ _ _ _ _ _ ?zzhI ?zzhz ?zzhbi _ _ ?zzhm) ?zzhne ?zzU1 ?zzU2) ?zzk1 ?zzk2 ?zzk3 ?zzk4 ?zzk5 ?zzkK ?zzkd ?zzku ?_; (case zzk1 => k_asm); (case zzk2 => k_asm); (case zzk3 => k_asm); (case zzk4 => k_asm); (case zzk5 => k_asm); (case zzkK => first | exact rfl | assumption); (case zzkd => ktr_room); (case zzku => ktr_units); (case zzU1 => k_updF); (case zzU2 => (intro o9; k_updF)); (case zzhI => assumption); (case zzhz => assumption); (case zzhbi => assumption); (case zzhne => assumption); (case zzhm => decide)); (intro v9 n9 h9 tk9 hP F9 N9); (obtain ⟨oa9, ob9, ⟨x9, tx9, tn9, cb9, vs9, ns9, ci9, e8, p0, p1, ea, eb, I9, z9⟩, e9⟩ := hP); (subst e8); (subst ea); (subst eb); (subst e9); (try dsimp only at N9); (try dsimp only); (try k_fold)))
  k_with "call ref" => ((k_here; k_dflt (refine' Calls.use (edges_spec _ _) ?zzk1 ?zzk2 ?zzk3 ?zzk4 ?zzk5 ?zzkK ?zzkd ?zzku ?_; (case zzk1 => k_asm); (case zzk2 => k_asm); (case zzk3 => k_asm); (case zzk4 => k_asm); (case zzk5 => k_asm); (case zzkK => first | exact rfl | assumption); (case zzkd => ktr_room); (case zzku => ktr_units)); (intro v9 n9 h9 tk9 hP F9 N9); (obtain ⟨r9, c9, vs9, e8, I9, e9, d9⟩ := hP); (subst e8); (subst e9); (have d1 := Ne.symm (d9 _ (.tail _ (.tail _ (.head _))))); (have d2 := Ne.symm (d9 _ (.tail _ (.tail _ (.tail _ (.head _)))))); (have d3 := Ne.symm (d9 _ (.tail _ (.head _)))); (dsimp only at d1 d2 d3); (try dsimp only at N9); (try dsimp only); (try k_fold)))
  k_with "call ref" => ((k_here; k_dflt (refine' Calls.use (letters_spec _ _) ?zzk1 ?zzk2 ?zzk3 ?zzk4 ?zzk5 ?zzkK ?zzkd ?zzku ?_; (case zzk1 => k_asm); (case zzk2 => k_asm); (case zzk3 => k_asm); (case zzk4 => k_asm); (case zzk5 => k_asm); (case zzkK => first | exact rfl | assumption); (case zzkd => ktr_room); (case zzku => ktr_units)); (intro v9 n9 h9 tk9 hP F9 N9); (obtain ⟨r9, c9, vs9, e8, I9, e9, d9⟩ := hP); (subst e8); (subst e9); (have d1 := Ne.symm (d9 _ (.tail _ (.tail _ (.head _))))); (have d2 := Ne.symm (d9 _ (.tail _ (.tail _ (.tail _ (.head _)))))); (have d3 := Ne.symm (d9 _ (.tail _ (.head _)))); (dsimp only at d1 d2 d3); (try dsimp only at N9); (try dsimp only); (try k_fold)))
  k_with "exec For Name Call cons nil" => ((k_here; (rename Fr _ _ _ _ => lF'); (with_unfolding_all refine' For_invVF lF' ?zzk1 ?zzk2 ?_; (case zzk1 => exact rfl); (case zzk2 => exact rfl); k_whole)))
  k_with "call type:range" => (((k_dflt (refine' rangeK ?zzF ?zzN ?_; (case zzF => k_asm); (case zzN => k_asm))); intro r' h' t' u' v' tk' R' F' N'; (try dsimp only); (try k_fold)))
  k_with "pyIter ref" => (k_dflt (k_extra "my_loop"))
  intro rest hra hrb
  unfold Calls
  k_fill
  intro dp un gd cn cs a ccd cl outer A₀ base h₀ L m s Q E mean mg mb B F X N T hk hdp hun hret
  have hib : inner ≠ box := Ne.symm hbi
  have hn1 : @Ne Nat box inner := hbi
  have hn2 : @Ne Nat inner box := Ne.symm hbi
  k_with "my_loop" => (
    refine' loop_oct ?hr ?hb ?hn ?hh ?F ?N ?hI ?hz ?_ ?_
    (case hr => assumption)
    (case hh => rfl)
    (case F => k_asm)
    (case N => k_asm)
    (case hb => assumption)
    (case hn => assumption)
    (case hI => assumption)
    (case hz => assumption)
    all_goals first | (intro i tv f us l k n' tn' cb' vs' ns' ci' I oI h tk q1 q2 q3 q4 q5 q6 q7 F' N'; have e1 : I ≠ box := Ne.symm (q7 _ (.tail _ (.head _))); have e2 : I ≠ inner := Ne.symm (q7 _ (.tail _ (.tail _ (.head _)))); have e3 := Ne.symm (q7 _ (.head _)); have e4 := q7 _ (.head _); dsimp only at e3 e4; dsimp only) | (intro h tk f us l k n' tn' cb' vs' ns' ci' q2 q3 q4 q5 q6 F' N'; dsimp only))
  walk_at "my_enter"
  k_steps
  · exact oct_end q4 q1 q3 (ed_in _) (by assumption) (by assumption) sub_cons q7 (by assumption) (by assumption)
  · exact oct_end q4 q1 q3 (lt_in _) (by assumption) (by assumption) sub_cons q7 (by assumption) (by assumption)
  · exact oct_end q4 q1 q3 ⟨by assumption, by assumption⟩ (by assumption) (by assumption) (fun _ h => h) q7 (by assumption) (by assumption)
  · exact hret _ _ _ _ ⟨_, _, ⟨_, _, _, _, _, _, _, _, rfl, by rw [byteArr_ints q3]; exact q2, rfl, rfl, q5, q6⟩, rfl⟩ (by assumption) (cb_drop (by assumption) (fun _ hp => .tail _ hp))
end SM18
/-! # M12 -/
section SM12
set_option maxHeartbeats 4000000 in
theorem lam_trailer_spec (w : World) (qual : Str) (pa q1 q2 q3 : Pos) (pmv ctv : Value) (c' f : Addr) (fl p1 : Addr) (c c1 : Nat) (b : Array UInt8) (ta tb : Tok) (ks : List Int) (hb : KBw.bInts b = ks) (hz : ks.length ≤ 16) :
    CallsC w 14 c' qual f [.ref fl] [(f, kla_obj "<lambda>" qual { posonlyargs := [], args := [{ arg := "held", annotation := none, pos := pa }], vararg := none, kwonlyargs := [], kw_defaults := [], kwarg := none, defaults := [] } ((Expr.Name "check_trailer" q1).Call [Expr.Name "held" q2] [] q3) { kind := ScopeKind.function, names := [("held", NameKind.local), ("check_trailer", NameKind.globalImplicit)], isGenerator := false, isCoroutine := false } [] pmv c' ctv), (fl, listOf #[.ref p1] c), (p1, ({ cls := .type "tuple", data := .seq #[.bytes #[97] ta, .bytes b tb] c1 } : Obj))]
      (fun v nw => v = .none ∧ nw = [] ∧ valOk ks = true) (valOk ks = false) := by
  k_with_none
  k_with "my_enter" => ((refine wpAny_call ?_; k_dflt (refine' code_def ?zzk1 ?zzk2 ?zzk3 ?zzk4 ?zzk5 ?zzkA ?zzkF ?zzkK ?zzk6 ?zzk7 ?zzk8 ?zzk9 ?zzkB ?_ ?zzc2 ?zzc3 ?zzc4 ?zzc5; (case zzkA => exact rfl); (case zzkF => exact rfl); (case zzkK => first | exact rfl | assumption); (case zzk1 => k_asm); (case zzk2 => k_asm); (case zzk3 => k_asm); (case zzk4 => k_asm); (case zzk5 => k_asm); (case zzk6 => k_is); (case zzk7 => k_is); (case zzk8 => ktr_room); (case zzk9 => exact BindsTo.of_eq rfl); (case zzc5 => decide); (case zzkB => exact locs rfl); (case zzc2 => exact rfl); (case zzc3 => exact rfl); (case zzc4 => exact rfl); k_whole; intro g' L' h' FG' F' N' B' X' T'; (try dsimp only); (try k_fold))))
  k_with "my_bools" => (first | rfl | (simp only [*, Bool.not_true, Bool.not_false, Bool.and_true, Bool.true_and, Bool.and_false, Bool.false_and, Bool.or_true, Bool.or_false, Bool.true_or, Bool.false_or]; done) | (refine Bool.eq_iff_iff.mpr ?_; simp only [isLet, isName, isSch, nameSigns_eq, schemeSigns_eq, decide_eq_true_eq, Bool.or_eq_true, Bool.and_eq_true, Bool.not_eq_true', Bool.not_eq_true, okOct, decide_eq_false_iff_not, Bool.or_eq_false_iff, Bool.and_eq_false_iff, Bool.not_eq_false'] at *; first | omega | (simp_all; done) | (simp_all; omega)))
  k_with "my_use" => (((case zzk1 => k_asm); (case zzk2 => k_asm); (case zzk3 => k_asm); (case zzk4 => k_asm); (case zzk5 => k_asm); (case zzkK => first | exact rfl | assumption); (case zzkd => ktr_room); (case zzku => ktr_units)))
  k_with "compareOp In int bytes" => ((refine in_bytes_int (by assumption) (by assumption) ?_))
  k_with "compareOp NotIn int bytes" => ((refine notIn_bytes_int (by assumption) (by assumption) ?_))
  k_with "eval ListComp" => (k_dflt (k_extra "my_lc"))
  k_with "LcT" => ((refine ⟨?_, _, _, rfl, by assumption, by assumption⟩; walk_at "my_bools"))
  k_with "call ref" => ((k_here; (refine' Calls.use (is_letter_spec _ _ _ _) ?zzk1 ?zzk2 ?zzk3 ?zzk4 ?zzk5 ?zzkK ?zzkd ?zzku ?_); walk_at "my_use"; (intro v9 n9 h9 tk9 hP F9 N9); (obtain ⟨e8, e9⟩ := hP); (subst e8); (replace e9 := Eq.symm e9); (subst e9); (try dsimp only); (try k_fold)))
  k_with "call ref" => ((k_here; (refine' Calls.use (is_name_spec _ _ _ _ (by assumption) (by assumption)) ?zzk1 ?zzk2 ?zzk3 ?zzk4 ?zzk5 ?zzkK ?zzkd ?zzku ?_); walk_at "my_use"; (intro v9 n9 h9 tk9 hP F9 N9); (obtain ⟨e8, e9⟩ := hP); (subst e8); (replace e9 := Eq.symm e9); (subst e9); (try dsimp only); (try k_fold)))
  k_with "compareOp Eq ref ref" => ((k_here; k_dflt (refine' eq_nil ?zzk0 ?zzk1 ?zzk2 ?zzk3 ?zzk4 ?zzk5 ?_; (case zzk0 => k_asm); (case zzk1 => k_asm); (case zzk2 => k_mem); (case zzk3 => k_mem); (case zzk4 => assumption); (case zzk5 => ktr_units)); (try dsimp only)))
  k_with "compareOp NotEq ref ref" => ((k_here; k_dflt (refine' ne_nil ?zzk0 ?zzk1 ?zzk2 ?zzk3 ?zzk4 ?zzk5 ?_; (case zzk0 => k_asm); (case zzk1 => k_asm); (case zzk2 => k_mem); (case zzk3 => k_mem); (case zzk4 => assumption); (case zzk5 => ktr_units)); (try dsimp only)))
  k_with "exec Assign cons ListComp" => (k_dflt (k_extra "my_lcA"))
  k_with "my_thr" => ((intro e9 s9 hb9 T9; (try dsimp only at T9 ⊢); (repeat k_unfold); refine x_up (by assumption) (by assumption) rfl rfl rfl ⟨rfl, rfl, rfl⟩ T9 (fun s8 T8 => ?_)))
  k_with "call ref" => ((k_here; k_dflt ((refine' CallsX.use (malformed_spec _ _ _ _ (by decide +kernel)) ?zzk1 ?zzk2 ?zzk3 ?zzk4 ?zzk5 ?zzkK ?zzkd ?zzku ?_ ?_); walk_at "my_use"; (all_goals first | walk_at "my_thr" | (intro v9 n9 h9 tk9 hP; exact hP.elim)))))
  k_with "my_bare" => (first | exact BytesAre.nil | (refine' BytesAre.cons ?zzba ?zzbb; (case zzba => exact rfl); (case zzbb => walk_at "my_bare")))
  k_with "compareOp In bytes ref" => ((k_here; k_dflt ((refine' in_tuple_bytes ?zzk1 ?zzk2 ?zzk3 ?_); (case zzk1 => first | exact News.isTup (by k_asm) (by k_mem) | exact tupK (by k_in) (by k_is)); (case zzk2 => walk_at "my_bare"); (case zzk3 => first | assumption | rfl)); (try dsimp only)))
  k_with "compareOp NotIn bytes ref" => ((k_here; k_dflt ((refine' notIn_tuple_bytes ?zzk1 ?zzk2 ?zzk3 ?_); (case zzk1 => first | exact News.isTup (by k_asm) (by k_mem) | exact tupK (by k_in) (by k_is)); (case zzk2 => walk_at "my_bare"); (case zzk3 => first | assumption | rfl)); (try dsimp only)))
  k_with "compareOp Eq bytes bytes" => (k_dflt ((refine' eq_bytesI ?zzk1 ?zzk2 ?_); (case zzk1 => first | assumption | rfl); (case zzk2 => first | assumption | rfl)))
  k_with "compareOp NotEq bytes bytes" => (k_dflt ((refine' ne_bytesI ?zzk1 ?zzk2 ?_); (case zzk1 => first | assumption | rfl); (case zzk2 => first | assumption | rfl)))
  k_with "eval Dict nil nil" => ((k_here; k_dflt (refine' newDictB ?zzk1 ?zzk2 (TopRead.nolimit (by k_asm)) ?_; (case zzk1 => k_asm); (case zzk2 => k_asm); k_whole); intro d' h' o' F' N' l1 lo' hs'; (try k_lt l1); (try k_sweep)))
  k_with "compareOp In bytes ref" => ((k_here; k_dflt (first | refine inB (by k_asm) (by repeat first | exact List.Mem.head _ | assumption | refine List.Mem.tail _ ?_) (by k_asm) (by k_asm) true (by kernel_rfl!) ?_ | refine inB (by k_asm) (by repeat first | exact List.Mem.head _ | assumption | refine List.Mem.tail _ ?_) (by k_asm) (by k_asm) false (by kernel_rfl!) ?_)))
  k_with "compareOp NotIn bytes ref" => ((k_here; k_dflt (first | refine notInB (by k_asm) (by repeat first | exact List.Mem.head _ | assumption | refine List.Mem.tail _ ?_) (by k_asm) (by k_asm) true (by kernel_rfl!) ?_ | refine notInB (by k_asm) (by repeat first | exact List.Mem.head _ | assumption | refine List.Mem.tail _ ?_) (by k_asm) (by k_asm) false (by kernel_rfl!) ?_)))
  k_with "setItem ref bytes" => ((k_here; k_dflt (refine' setB ?zzF ?zzN ?zzU ?zzd ?zzz ?_; (case zzF => k_asm); (case zzN => k_asm); (case zzU => k_updF); (case zzd => k_asm); (case zzz => (rw [sizeLine_eq]; exact Nat.le_of_ble_eq_true (by kernel_rfl)))); intro h' o' F' N' hd'; (try dsimp only at N')))
  k_with "subscriptTail" => ((k_here; (with_reducible show wpAny _ _ (subscriptTail _ _ (Value.ref _) (Value.bytes _ _)) _ _ _); k_dflt (refine itemB (by k_asm) (by repeat first | exact List.Mem.head _ | assumption | refine List.Mem.tail _ ?_) (by k_asm) (by first | rfl | with_unfolding_all rfl) ?_)))
  k_with "my_enterC" => ((refine wpAny_call ?_; k_dflt (refine' code_defC ?zzk1 ?zzk2 ?zzk3 ?zzk4 ?zzk5 ?zzkA ?zzkF ?zzkK ?zzk6 ?zzk7 ?zzk8 ?zzk9 ?zzkB ?zzkD ?_ ?zzc2 ?zzc3 ?zzc4; (case zzkA => exact rfl); (case zzkF => exact rfl); (case zzkK => first | exact rfl | assumption); (case zzk1 => k_asm); (case zzk2 => k_asm); (case zzk3 => k_asm); (case zzk4 => k_asm); (case zzk5 => k_asm); (case zzk6 => k_is); (case zzk7 => k_is); (case zzk8 => ktr_room); (case zzk9 => exact BindsTo.of_eq rfl); (case zzkB => exact rfl); (case zzkD => decide +kernel); (case zzc2 => exact rfl); (case zzc3 => exact rfl); (case zzc4 => exact rfl); k_whole; intro g' L' h' tk' cells' FG' F' N' Y' B' X' T' l1; (try k_lt l1); k_cells Y'; (try simp only [List.cons_append, List.nil_append] at N'); (try dsimp only); (try k_lift B'); (try k_fold))))
  k_with "my_enterL" => ((refine wpAny_call ?_; k_dflt (refine' kla_code ?zzk1 ?zzk2 ?zzk3 ?zzk4 ?zzk5 ?zzkA ?zzkF ?zzkK ?zzk6 ?zzk7 ?zzk8 ?zzk9 ?zzkB ?_ ?zzc2 ?zzc3 ?zzc4 ?zzc5; (case zzkA => exact rfl); (case zzkF => exact rfl); (case zzkK => first | exact rfl | assumption); (case zzk1 => k_asm); (case zzk2 => k_asm); (case zzk3 => k_asm); (case zzk4 => k_asm); (case zzk5 => k_asm); (case zzk6 => k_mem); (case zzk7 => exact codeRec_keeps (by assumption) (Fr.keep (by k_asm) _)); (case zzk8 => ktr_room); (case zzk9 => exact rfl); (case zzc5 => decide); (case zzkB => exact locs rfl); (case zzc2 => exact rfl); (case zzc3 => exact rfl); (case zzc4 => exact rfl); k_whole; intro g' L' h' FG' F' N' B' X' T'; (try dsimp only); (try k_fold))))
  k_with "call ref" => ((k_here; k_dflt ((refine' CallsX.use (check_trailer_spec _ _ _ _ _ _ _ _ _ ?zzma ?zzmb) ?zzk1 ?zzk2 ?zzk3 ?zzk4 ?zzk5 ?zzkK ?zzkd ?zzku ?_ ?_); (case zzk1 => k_asm); (case zzk2 => k_asm); (case zzk3 => k_asm); (case zzk4 => (refine cb_drop (by k_asm) (List.forall_mem_cons.mpr ⟨?zzx1, (List.forall_mem_cons.mpr ⟨?zzx2, (List.forall_mem_nil _)⟩)⟩); (case zzx1 => k_mem); (case zzx2 => k_mem))); (case zzk5 => k_asm); (case zzkK => first | exact rfl | assumption); (case zzkd => ktr_room); (case zzku => ktr_units); (case zzma => assumption); (case zzmb => (first | assumption | omega)); (all_goals first | walk_at "my_thr" | ((intro v9 n9 h9 tk9 hP F9 N9); (obtain ⟨e8, e9, q9⟩ := hP); (subst e8); (subst e9); (try dsimp only); (try k_fold))))))
  unfold CallsC
  k_fill
  intro dp un gd cn cs a ccd cl outer A₀ base h₀ L m s Q E mean mg mb B F X N T hk hdp hun hcr hret hthr
  walk_at "my_enterL"
  k_steps
  · exact hret _ [] _ _ ⟨rfl, rfl, by assumption⟩ (by assumption) News.nil
  · exact hthr _ _ (by assumption) (by assumption)
end SM12
/-! # M13 -/
section SM13
set_option maxHeartbeats 4000000 in
theorem lam_request_spec (w : World) (qual : Str) (pa q1 q2 q3 : Pos) (pmv ctv : Value) (c' f : Addr) (fl p1 p2 p3 p4 : Addr) (c c1 c2 c3 c4 : Nat) (b1 b2 : Array UInt8) (t1 t2 t3 t4 u1 u2 u3 u4 : Tok) (ks1 ks2 : List Int) (hb1 : KBw.bInts b1 = ks1) (hz1 : ks1.length ≤ 6) (hb2 : KBw.bInts b2 = ks2) (hz2 : ks2.length ≤ 6) :
    CallsC w 14 c' qual f [.ref fl] ((f, kla_obj "<lambda>" qual { posonlyargs := [], args := [{ arg := "held", annotation := none, pos := pa }], vararg := none, kwonlyargs := [], kw_defaults := [], kwarg := none, defaults := [] } ((Expr.Name "check_request" q1).Call [Expr.Name "held" q2] [] q3) { kind := ScopeKind.function, names := [("held", NameKind.local), ("check_request", NameKind.globalImplicit)], isGenerator := false, isCoroutine := false } [] pmv c' ctv) :: [(fl, listOf #[.ref p1, .ref p2, .ref p3, .ref p4] c), (p1, ({ cls := .type "tuple", data := .seq #[.bytes #[58, 109, 101, 116, 104, 111, 100] t1, .bytes b1 u1] c1 } : Obj)), (p2, ({ cls := .type "tuple", data := .seq #[.bytes #[58, 115, 99, 104, 101, 109, 101] t2, .bytes b2 u2] c2 } : Obj)), (p3, ({ cls := .type "tuple", data := .seq #[.bytes #[58, 112, 97, 116, 104] t3, .bytes #[47] u3] c3 } : Obj)), (p4, ({ cls := .type "tuple", data := .seq #[.bytes #[58, 97, 117, 116, 104, 111, 114, 105, 116, 121] t4, .bytes #[104] u4] c4 } : Obj))])
      (fun v nw => ∃ d o, v = .ref d ∧ (d == sysModules) = false ∧ o.IsDictOf (bytesKind PySem.Challenge.rw_pf0251_01.row.prog w) [((#[58, 109, 101, 116, 104, 111, 100] : Array UInt8).toList, .bytes b1 u1), ((#[58, 115, 99, 104, 101, 109, 101] : Array UInt8).toList, .bytes b2 u2), ((#[58, 112, 97, 116, 104] : Array UInt8).toList, .bytes #[47] u3), ((#[58, 97, 117, 116, 104, 111, 114, 105, 116, 121] : Array UInt8).toList, .bytes #[104] u4)] ∧ nw = [(d, o)] ∧ (valOk ks1 && valOk ks2 && tokOk ks1 && schOk ks2) = true) ((valOk ks1 && valOk ks2 && tokOk ks1 && schOk ks2) = false) := by
  k_with_none
  k_with "my_enter" => ((refine wpAny_call ?_; k_dflt (refine' code_def ?zzk1 ?zzk2 ?zzk3 ?zzk4 ?zzk5 ?zzkA ?zzkF ?zzkK ?zzk6 ?zzk7 ?zzk8 ?zzk9 ?zzkB ?_ ?zzc2 ?zzc3 ?zzc4 ?zzc5; (case zzkA => exact rfl); (case zzkF => exact rfl); (case zzkK => first | exact rfl | assumption); (case zzk1 => k_asm); (case zzk2 => k_asm); (case zzk3 => k_asm); (case zzk4 => k_asm); (case zzk5 => k_asm); (case zzk6 => k_is); (case zzk7 => k_is); (case zzk8 => ktr_room); (case zzk9 => exact BindsTo.of_eq rfl); (case zzc5 => decide); (case zzkB => exact locs rfl); (case zzc2 => exact rfl); (case zzc3 => exact rfl); (case zzc4 => exact rfl); k_whole; intro g' L' h' FG' F' N' B' X' T'; (try dsimp only); (try k_fold))))
  k_with "my_bools" => (first | rfl | (simp only [*, Bool.not_true, Bool.not_false, Bool.and_true, Bool.true_and, Bool.and_false, Bool.false_and, Bool.or_true, Bool.or_false, Bool.true_or, Bool.false_or]; done) | (refine Bool.eq_iff_iff.mpr ?_; simp only [isLet, isName, isSch, nameSigns_eq, schemeSigns_eq, decide_eq_true_eq, Bool.or_eq_true, Bool.and_eq_true, Bool.not_eq_true', Bool.not_eq_true, okOct, decide_eq_false_iff_not, Bool.or_eq_false_iff, Bool.and_eq_false_iff, Bool.not_eq_false'] at *; first | omega | (simp_all; done) | (simp_all; omega)))
  k_with "my_use" => (((case zzk1 => k_asm); (case zzk2 => k_asm); (case zzk3 => k_asm); (case zzk4 => k_asm); (case zzk5 => k_asm); (case zzkK => first | exact rfl | assumption); (case zzkd => ktr_room); (case zzku => ktr_units)))
  k_with "compareOp In int bytes" => ((refine in_bytes_int (by assumption) (by assumption) ?_))
  k_with "compareOp NotIn int bytes" => ((refine notIn_bytes_int (by assumption) (by assumption) ?_))
  k_with "eval ListComp" => (k_dflt (k_extra "my_lc"))
  k_with "LcT" => ((refine ⟨?_, _, _, rfl, by assumption, by assumption⟩; walk_at "my_bools"))
  k_with "call ref" => ((k_here; (refine' Calls.use (is_letter_spec _ _ _ _) ?zzk1 ?zzk2 ?zzk3 ?zzk4 ?zzk5 ?zzkK ?zzkd ?zzku ?_); walk_at "my_use"; (intro v9 n9 h9 tk9 hP F9 N9); (obtain ⟨e8, e9⟩ := hP); (subst e8); (replace e9 := Eq.symm e9); (subst e9); (try dsimp only); (try k_fold)))
  k_with "call ref" => ((k_here; (refine' Calls.use (is_name_spec _ _ _ _ (by assumption) (by assumption)) ?zzk1 ?zzk2 ?zzk3 ?zzk4 ?zzk5 ?zzkK ?zzkd ?zzku ?_); walk_at "my_use"; (intro v9 n9 h9 tk9 hP F9 N9); (obtain ⟨e8, e9⟩ := hP); (subst e8); (replace e9 := Eq.symm e9); (subst e9); (try dsimp only); (try k_fold)))
  k_with "compareOp Eq ref ref" => ((k_here; k_dflt (refine' eq_nil ?zzk0 ?zzk1 ?zzk2 ?zzk3 ?zzk4 ?zzk5 ?_; (case zzk0 => k_asm); (case zzk1 => k_asm); (case zzk2 => k_mem); (case zzk3 => k_mem); (case zzk4 => assumption); (case zzk5 => ktr_units)); (try dsimp only)))
  k_with "compareOp NotEq ref ref" => ((k_here; k_dflt (refine' ne_nil ?zzk0 ?zzk1 ?zzk2 ?zzk3 ?zzk4 ?zzk5 ?_; (case zzk0 => k_asm); (case zzk1 => k_asm); (case zzk2 => k_mem); (case zzk3 => k_mem); (case zzk4 => assumption); (case zzk5 => ktr_units)); (try dsimp only)))
  k_with "exec Assign cons ListComp" => (k_dflt (k_extra "my_lcA"))
  k_with "my_thr" => ((intro e9 s9 hb9 T9; (try dsimp only at T9 ⊢); (repeat k_unfold); refine x_up (by assumption) (by assumption) rfl rfl rfl ⟨rfl, rfl, rfl⟩ T9 (fun s8 T8 => ?_)))
  k_with "call ref" => ((k_here; k_dflt ((refine' CallsX.use (malformed_spec _ _ _ _ (by decide +kernel)) ?zzk1 ?zzk2 ?zzk3 ?zzk4 ?zzk5 ?zzkK ?zzkd ?zzku ?_ ?_); walk_at "my_use"; (all_goals first | walk_at "my_thr" | (intro v9 n9 h9 tk9 hP; exact hP.elim)))))
  k_with "my_bare" => (first | exact BytesAre.nil | (refine' BytesAre.cons ?zzba ?zzbb; (case zzba => exact rfl); (case zzbb => walk_at "my_bare")))
  k_with "compareOp In bytes ref" => ((k_here; k_dflt ((refine' in_tuple_bytes ?zzk1 ?zzk2 ?zzk3 ?_); (case zzk1 => first | exact News.isTup (by k_asm) (by k_mem) | exact tupK (by k_in) (by k_is)); (case zzk2 => walk_at "my_bare"); (case zzk3 => first | assumption | rfl)); (try dsimp only)))
  k_with "compareOp NotIn bytes ref" => ((k_here; k_dflt ((refine' notIn_tuple_bytes ?zzk1 ?zzk2 ?zzk3 ?_); (case zzk1 => first | exact News.isTup (by k_asm) (by k_mem) | exact tupK (by k_in) (by k_is)); (case zzk2 => walk_at "my_bare"); (case zzk3 => first | assumption | rfl)); (try dsimp only)))
  k_with "compareOp Eq bytes bytes" => (k_dflt ((refine' eq_bytesI ?zzk1 ?zzk2 ?_); (case zzk1 => first | assumption | rfl); (case zzk2 => first | assumption | rfl)))
  k_with "compareOp NotEq bytes bytes" => (k_dflt ((refine' ne_bytesI ?zzk1 ?zzk2 ?_); (case zzk1 => first | assumption | rfl); (case zzk2 => first | assumption | rfl)))
  k_with "eval Dict nil nil" => ((k_here; k_dflt (refine' newDictB ?zzk1 ?zzk2 (TopRead.nolimit (by k_asm)) ?_; (case zzk1 => k_asm); (case zzk2 => k_asm); k_whole); intro d' h' o' F' N' l1 lo' hs'; (try k_lt l1); (try k_sweep)))
  k_with "compareOp In bytes ref" => ((k_here; k_dflt (first | refine inB (by k_asm) (by repeat first | exact List.Mem.head _ | assumption | refine List.Mem.tail _ ?_) (by k_asm) (by k_asm) true (by kernel_rfl!) ?_ | refine inB (by k_asm) (by repeat first | exact List.Mem.head _ | assumption | refine List.Mem.tail _ ?_) (by k_asm) (by k_asm) false (by kernel_rfl!) ?_)))
  k_with "compareOp NotIn bytes ref" => ((k_here; k_dflt (first | refine notInB (by k_asm) (by repeat first | exact List.Mem.head _ | assumption | refine List.Mem.tail _ ?_) (by k_asm) (by k_asm) true (by kernel_rfl!) ?_ | refine notInB (by k_asm) (by repeat first | exact List.Mem.head _ | assumption | refine List.Mem.tail _ ?_) (by k_asm) (by k_asm) false (by kernel_rfl!) ?_)))
  k_with "setItem ref bytes" => ((k_here; k_dflt (refine' setB ?zzF ?zzN ?zzU ?zzd ?zzz ?_; (case zzF => k_asm); (case zzN => k_asm); (case zzU => k_updF); (case zzd => k_asm); (case zzz => (rw [sizeLine_eq]; exact Nat.le_of_ble_eq_true (by kernel_rfl)))); intro h' o' F' N' hd'; (try dsimp only at N')))
  k_with "subscriptTail" => ((k_here; (with_reducible show wpAny _ _ (subscriptTail _ _ (Value.ref _) (Value.bytes _ _)) _ _ _); k_dflt (refine itemB (by k_asm) (by repeat first | exact List.Mem.head _ | assumption | refine List.Mem.tail _ ?_) (by k_asm) (by first | rfl | with_unfolding_all rfl) ?_)))
  k_with "my_enterC" => ((refine wpAny_call ?_; k_dflt (refine' code_defC ?zzk1 ?zzk2 ?zzk3 ?zzk4 ?zzk5 ?zzkA ?zzkF ?zzkK ?zzk6 ?zzk7 ?zzk8 ?zzk9 ?zzkB ?zzkD ?_ ?zzc2 ?zzc3 ?zzc4; (case zzkA => exact rfl); (case zzkF => exact rfl); (case zzkK => first | exact rfl | assumption); (case zzk1 => k_asm); (case zzk2 => k_asm); (case zzk3 => k_asm); (case zzk4 => k_asm); (case zzk5 => k_asm); (case zzk6 => k_is); (case zzk7 => k_is); (case zzk8 => ktr_room); (case zzk9 => exact BindsTo.of_eq rfl); (case zzkB => exact rfl); (case zzkD => decide +kernel); (case zzc2 => exact rfl); (case zzc3 => exact rfl); (case zzc4 => exact rfl); k_whole; intro g' L' h' tk' cells' FG' F' N' Y' B' X' T' l1; (try k_lt l1); k_cells Y'; (try simp only [List.cons_append, List.nil_append] at N'); (try dsimp only); (try k_lift B'); (try k_fold))))
  k_with "my_enterL" => ((refine wpAny_call ?_; k_dflt (refine' kla_code ?zzk1 ?zzk2 ?zzk3 ?zzk4 ?zzk5 ?zzkA ?zzkF ?zzkK ?zzk6 ?zzk7 ?zzk8 ?zzk9 ?zzkB ?_ ?zzc2 ?zzc3 ?zzc4 ?zzc5; (case zzkA => exact rfl); (case zzkF => exact rfl); (case zzkK => first | exact rfl | assumption); (case zzk1 => k_asm); (case zzk2 => k_asm); (case zzk3 => k_asm); (case zzk4 => k_asm); (case zzk5 => k_asm); (case zzk6 => k_mem); (case zzk7 => exact codeRec_keeps (by assumption) (Fr.keep (by k_asm) _)); (case zzk8 => ktr_room); (case zzk9 => exact rfl); (case zzc5 => decide); (case zzkB => exact locs rfl); (case zzc2 => exact rfl); (case zzc3 => exact rfl); (case zzc4 => exact rfl); k_whole; intro g' L' h' FG' F' N' B' X' T'; (try dsimp only); (try k_fold))))
  k_with "call ref" => ((k_here; k_dflt ((refine' CallsX.use (check_request_spec _ _ _ _ _ _ _ _ _ _ _ _ _ _ _ _ _ _ _ _ _ _ _ ?zzma ?zzmb ?zzmc ?zzmd) ?zzk1 ?zzk2 ?zzk3 ?zzk4 ?zzk5 ?zzkK ?zzkd ?zzku ?_ ?_); (case zzk1 => k_asm); (case zzk2 => k_asm); (case zzk3 => k_asm); (case zzk4 => (refine cb_drop (by k_asm) (List.forall_mem_cons.mpr ⟨?zzx1, (List.forall_mem_cons.mpr ⟨?zzx2, (List.forall_mem_cons.mpr ⟨?zzx3, (List.forall_mem_cons.mpr ⟨?zzx4, (List.forall_mem_cons.mpr ⟨?zzx5, (List.forall_mem_nil _)⟩)⟩)⟩)⟩)⟩); (case zzx1 => k_mem); (case zzx2 => k_mem); (case zzx3 => k_mem); (case zzx4 => k_mem); (case zzx5 => k_mem))); (case zzk5 => k_asm); (case zzkK => first | exact rfl | assumption); (case zzkd => ktr_room); (case zzku => ktr_units); (case zzma => assumption); (case zzmb => (first | assumption | omega)); (case zzmc => assumption); (case zzmd => (first | assumption | omega)); (all_goals first | walk_at "my_thr" | ((intro v9 n9 h9 tk9 hP F9 N9); (obtain ⟨d8, o8, e8, lo8, hd8, e9, q8⟩ := hP); (subst e8); (subst e9); (try dsimp only); (try k_fold))))))
  unfold CallsC
  k_fill
  intro dp un gd cn cs a ccd cl outer A₀ base h₀ L m s Q E mean mg mb B F X N T hk hdp hun hcr hret hthr
  walk_at "my_enterL"
  k_steps
  · exact hret _ [(_, _)] _ _ ⟨_, _, rfl, by assumption, by assumption, rfl, by assumption⟩ (by assumption) (by assumption)
  · exact hthr _ _ (by assumption) (by assumption)
end SM13
/-! # X11 -/
section SX11
/-! ## _law_heard with the law's lambdas -/
abbrev heldArgs (pa : Pos) : Arguments := { posonlyargs := [], args := [{ arg := "held", annotation := none, pos := pa }], vararg := none, kwonlyargs := [], kw_defaults := [], kwarg := none, defaults := [] }
abbrev heldScope (fn : Str) : Scope := { kind := ScopeKind.function, names := [("held", NameKind.local), (fn, NameKind.globalImplicit)], isGenerator := false, isCoroutine := false }
theorem heard_trailer (w : World) {qual : Str} {pa q1 q2 q3 : Pos} {pmv ctv : Value} {c' f fl p1 : Addr} {c c1 : Nat} {b : Array UInt8} {ta tb : Tok} {ks : List Int} {oc : Obj} {cvs : Array Value} {ct : Tok} {extra : Led}
    {dp un : Nat} {gd : Option (List Code)} {cn : Str} {cs : Scope} {a : Addr} {ccd : Value} {cl : List (Str × Addr)}
    {A₀ : Around} {base h₀ : Heap} {L : Addr} {m : Str → Option Value} {s : Shared} {Q E : Value → Shared → Prop} {mean : ExcName → Option Value} {mg mb : Str → Option Value}
    (B : Below A₀ base [] h₀) (F : Fr h₀ L s.heap m) (X : (hd.heap_39 w.params).In h₀)
    (N : News h₀ L s.heap ((fl, listOf #[.ref p1] c) :: (p1, ({ cls := .type "tuple", data := .seq #[.bytes #[97] ta, .bytes b tb] c1 } : Obj)) :: (f, kla_obj "<lambda>" qual (heldArgs pa) ((Expr.Name "check_trailer" q1).Call [Expr.Name "held" q2] [] q3) (heldScope "check_trailer") [] pmv c' ctv) :: extra))
    (T : Top topProg LS mean mg mb h₀) (hk : cs.kind = .function) (hd' : dp + 16 < recursionLimit) (hu : un + 8 * 16 + 100 < cLine)
    (hb : KBw.bInts b = ks) (hz : ks.length ≤ 16) (hc : (c', oc) ∈ extra) (hcd : oc.data = .fields cvs) (hcv : cvs[1]? = some (.str qual ct))
    (a1 : ∀ p ∈ extra, p.1 ≠ fl) (a2 : ∀ p ∈ extra, p.1 ≠ p1) (a3 : ∀ p ∈ extra, p.1 ≠ f)
    (ret1 : valOk ks = true → ∀ h' tk', Fr h₀ L h' m → News h₀ L h' extra → Q .none { s with heap := h', toks := tk' })
    (ret2 : valOk ks = false → ∀ h' tk', Fr h₀ L h' m → News h₀ L h' extra → Q (.int 270 220) { s with heap := h', toks := tk' }) :
    wpAny (model PySem.Challenge.rw_pf0251_01.row.prog w) (ktrTop dp un gd cn cs L a ccd cl []) (call (.ref 162) [.ref f, .ref fl]) Q E s := by
  have apart : ∀ p ∈ extra, ∀ q ∈ [(f, kla_obj "<lambda>" qual (heldArgs pa) ((Expr.Name "check_trailer" q1).Call [Expr.Name "held" q2] [] q3) (heldScope "check_trailer") [] pmv c' ctv), (fl, listOf #[.ref p1] c), (p1, ({ cls := .type "tuple", data := .seq #[.bytes #[97] ta, .bytes b tb] c1 } : Obj))], q.1 ≠ p.1 := fun p hp q hq => by
    rcases List.mem_cons.mp hq with rfl | hq
    · exact Ne.symm (a3 p hp)
    · rcases List.mem_cons.mp hq with rfl | hq
      · exact Ne.symm (a1 p hp)
      · rw [List.mem_singleton.mp hq]; exact Ne.symm (a2 p hp)
  refine heard_spec w 14 c' qual f fl _ _ _ _ _ (.head _) rfl (lam_trailer_spec w qual pa q1 q2 q3 pmv ctv c' f fl p1 c c1 b ta tb ks hb hz) dp un gd cn cs a ccd cl A₀ base h₀ L m s Q E mean mg mb extra B F X (fun p hp => N p ?_) (fun p hp => N p (.tail _ (.tail _ (.tail _ hp)))) T hk hd' hu apart ?_ (fun q hq => apart _ hc q hq) ?_ ?_
  · rcases List.mem_cons.mp hp with rfl | hp
    · exact .tail _ (.tail _ (.head _))
    · rcases List.mem_cons.mp hp with rfl | hp
      · exact .head _
      · rw [List.mem_singleton.mp hp]; exact .tail _ (.head _)
  · exact ⟨c', oc, cvs, ct, rfl, (N _ (.tail _ (.tail _ (.tail _ hc)))).1, hcd, hcv⟩
  · rintro v nw h' tk' ⟨rfl, rfl, hv⟩ F' N'
    exact ret1 hv h' tk' F' N'
  · exact fun hv h' tk' F' N' => ret2 hv h' tk' F' N'
end SX11
/-! # Y1 -/
section SY1
/-! ## bytes.strip of signs -/
theorem slot_strip : Slot "bytes" "strip" "bytes.strip" :=
  .of (owner := "bytes") (n := "strip") (by rw [typeLookup_type, builtinLookup_eq_fast]; kernel_rfl) (by decide +kernel) (by decide +kernel) (by decide +kernel)
    (by first | exact .inl (by decide +kernel) | exact .inr (by decide +kernel)) (by rw [isSubtype_type]; kernel_rfl)
theorem type_strip : typeOf (.builtin "bytes.strip") = pure (.type "method_descriptor") := by show builtinType _ = _; rw [builtinType_eq_fast]; kernel_rfl
theorem entry_strip : entryFor table "bytes.strip" = some Builtin.«bytes.strip» := entryFor_of_tree (by kernel_rfl)
theorem args_strip (a b : Value) : argsOk "bytes.strip" ⟨[a, b], []⟩ := by
  unfold argsOk; rw [signature?_of (id := "bytes.strip") (n := ['p', 'i', 'r', 't', 's']) (o := ['s', 'e', 't', 'y', 'b']) (by kernel_rfl) FB.owner_bytes]; kernel_rfl
def stripped (p : UInt8 → Bool) (l : List UInt8) : List UInt8 := ((l.dropWhile p).reverse.dropWhile p).reverse
theorem dropW_nil {p : UInt8 → Bool} : ∀ l : List UInt8, (l.dropWhile p).isEmpty = l.all p
  | [] => rfl
  | x :: r => by
    rw [List.dropWhile_cons, List.all_cons]
    cases h : p x with
    | true => rw [if_pos rfl, Bool.true_and]; exact dropW_nil r
    | false => rw [if_neg (by decide)]; rfl
theorem dropW_all {p : UInt8 → Bool} : ∀ l : List UInt8, (l.dropWhile p).all p = true → (l.dropWhile p).isEmpty = true
  | [], _ => rfl
  | x :: r, h => by
    rw [List.dropWhile_cons] at h ⊢
    cases hx : p x with
    | true => rw [hx, if_pos rfl] at h; rw [if_pos rfl]; exact dropW_all r h
    | false => rw [hx, if_neg (by decide), List.all_cons, hx] at h; cases h
theorem stripped_nil {p : UInt8 → Bool} (l : List UInt8) : (stripped p l).isEmpty = l.all p := by
  have e1 : (stripped p l).isEmpty = (l.dropWhile p).all p := by
    unfold stripped
    rw [List.isEmpty_reverse, dropW_nil, List.all_reverse]
  rw [e1, ← dropW_nil l]
  cases h : (l.dropWhile p).all p with
  | true => exact (dropW_all l h).symm
  | false =>
    cases h2 : (l.dropWhile p).isEmpty with
    | false => rfl
    | true => rw [List.isEmpty_iff.mp h2] at h; cases h
theorem bAll {p : UInt8 → Bool} {q : Int → Bool} (h : ∀ c, q (c.toNat : Int) = p c) (b : Array UInt8) : (KBw.bInts b).all q = b.toList.all p := by
  unfold KBw.bInts
  induction b.toList with
  | nil => rfl
  | cons x r ih => rw [List.map_cons, List.all_cons, List.all_cons, h, ih]
theorem bEmpty (b : Array UInt8) : (KBw.bInts b).isEmpty = b.toList.isEmpty := by
  unfold KBw.bInts
  cases b.toList <;> rfl
theorem bHas (b : Array UInt8) (c : UInt8) : (KBw.bInts b).contains (c.toNat : Int) = b.contains c := by
  rw [Bool.eq_iff_iff]
  simp only [Array.contains_iff_mem, List.contains_iff_mem, KBw.bInts, List.mem_map, Array.mem_toList_iff]
  constructor
  · rintro ⟨d, hd, e⟩
    have : d = c := UInt8.toNat_inj.mp (by omega)
    rw [← this]; exact hd
  · exact fun h => ⟨c, h, rfl⟩
theorem empty_len : ∀ a b : List UInt8, a.length = b.length → a.isEmpty = b.isEmpty
  | [], [], _ => rfl
  | [], _ :: _, h => by cases h
  | _ :: _, [], h => by cases h
  | _ :: _, _ :: _, _ => rfl
theorem dropW_len {p : UInt8 → Bool} : ∀ l : List UInt8, (l.dropWhile p).length ≤ l.length
  | [] => Nat.le_refl _
  | x :: r => by
    rw [List.dropWhile_cons]
    split
    · exact Nat.le_trans (dropW_len r) (Nat.le_succ _)
    · exact Nat.le_refl _
theorem stripped_len {p : UInt8 → Bool} (l : List UInt8) : (stripped p l).length ≤ l.length := by
  unfold stripped
  rw [List.length_reverse]
  refine Nat.le_trans (dropW_len _) ?_
  rw [List.length_reverse]
  exact dropW_len _
open Builtin in
theorem meets_strip {b c : Array UInt8} {t u : Tok} (hb : b.size ≤ 1000) :
    Meets («bytes.strip» ⟨[.bytes b t, .bytes c u], []⟩) (fun _ R s => ∀ b' t' k, (KBw.bInts b').isEmpty = (KBw.bInts b).all (fun x => (KBw.bInts c).contains x) → R (.ok (.ret (.bytes b' t'))) { s with toks := k }) := by
  refine .of_wp fun prog w A R s hS => ?_
  unfold «bytes.strip» Bytes.stripM
  show wpAny _ _ (Bytes.bytesLike _ (.bytes c u) >>= fun r => _) _ _ s
  refine wpAny_bind (wpAny_of_eq KBd.like_eq ?_)
  simp only [pure_bind, if_true]
  show wpAny _ _ (if (stripped c.contains b.toList).length == b.size then _ else _) _ _ s
  have key : (stripped c.contains b.toList).isEmpty = (KBw.bInts b).all (fun x => (KBw.bInts c).contains x) := by
    rw [stripped_nil, bAll (p := c.contains) fun x => bHas c x]
  have hlen : (stripped c.contains b.toList).length ≤ b.size := by rw [← Array.length_toList]; exact stripped_len _
  by_cases hl : ((stripped c.contains b.toList).length == b.size) = true
  · rw [if_pos hl]
    refine wpAny_bind (wpAny_rule ?_)
    refine wpAny_bind (wpAny_pure (wpAny_pure ⟨_, rfl, ?_⟩))
    have := hS b t s.toks (by
      rw [bEmpty, ← key]
      have e : (stripped c.contains b.toList).length = b.toList.length := by simpa using hl
      exact (empty_len _ b.toList e).symm)
    exact this
  · rw [if_neg hl]
    refine wpAny_bind (wpAny_mkBytes (wpAny_pure ⟨_, rfl, ?_⟩) (by rw [sizeLine_eq, List.size_toArray]; exact Nat.le_trans hlen (Nat.le_trans hb (Nat.le_of_ble_eq_true rfl))))
    exact hS (stripped c.contains b.toList).toArray s.toks (s.toks + 1) (by rw [bEmpty, List.toList_toArray, key])
section
variable {prog : Program} {w : World} {A : Around} {E : Value → Shared → Prop} {s : Shared} {b c : Array UInt8} {t u : Tok}
theorem strip_call {Q : Value → Shared → Prop} (hb : b.size ≤ 1000) (h : ∀ b' t' k, (KBw.bInts b').isEmpty = (KBw.bInts b).all (fun x => (KBw.bInts c).contains x) → Q (.bytes b' t') { s with toks := k }) :
    wpAny (model prog w) A (call (.builtin "bytes.strip") [.bytes b t, .bytes c u]) Q E s :=
  call_meets slot_strip (typeIs_bytes _ _ _) entry_strip (args_strip _ _) (meets_strip hb) h
theorem strip_method {M : Model} {pl : Sem Bool} {Q : Value × List Value → Shared → Prop} (h : Q (.builtin "bytes.strip", [.bytes b t]) s) : wpAny M A (getMethod (.bytes b t) "strip" pl) Q E s := by
  with_reducible exact KBd.method_of (.bytes b t) (typeIs_bytes _ _ _) slot_strip type_strip KBd.noRef h
end
end SY1
/-! # Y2 -/
section SY2
/-! ## the law's lambdas: the code is made in the first turn, found in the others -/
theorem among_snoc {pos : Pos} {a b : Int} {c cv : Value} (l : List Value) (h : TriplesOk l) (hs : codeAmong pos (l ++ [rawInt a, rawInt b, c]) = some cv) : codeAmong pos l = some cv ∨ cv = c := by
  fun_induction TriplesOk l with
  | case1 =>
    simp only [List.nil_append, rawInt, codeAmong] at hs
    split at hs
    · exact .inr (Option.some.inj hs).symm
    · cases hs
  | case2 x t y u z rest ih =>
    simp only [List.cons_append, codeAmong] at hs ⊢
    split at hs
    · rename_i hc; rw [if_pos hc]; exact .inl hs
    · rename_i hc; rw [if_neg hc]; exact ih h hs
  | case3 l h1 h2 => exact h.elim
/-- what the table of codes holds, and that the other objects are apart -/
structure Cod (qual : Str) (av : List Addr) (ps : Array Value) (rest : Led) : Prop where
  tri : TriplesOk ps.toList
  hit : ∀ pos cv, codeAmong pos ps.toList = some cv → ∃ c' oc vs t, cv = .ref c' ∧ (c', oc) ∈ rest ∧ oc.data = .fields vs ∧ vs[1]? = some (.str qual t)
  off : ∀ a ∈ av, ∀ p ∈ rest, p.1 ≠ a
theorem Cod.empty (qual : Str) (av : List Addr) : Cod qual av #[] [] := ⟨trivial, fun _ _ h => (nomatch h), fun _ _ _ h => (nomatch h)⟩
theorem Cod.less {qual : Str} {av av' : List Addr} {ps : Array Value} {rest : Led} (h : Cod qual av ps rest) (hs : ∀ a ∈ av', a ∈ av) : Cod qual av' ps rest := ⟨h.tri, h.hit, fun a ha => h.off a (hs a ha)⟩
theorem Cod.more {qual : Str} {av : List Addr} {I : Addr} {ps : Array Value} {rest : Led} (h : Cod qual av ps rest) (hI : ∀ p ∈ rest, p.1 ≠ I) : Cod qual (I :: av) ps rest := ⟨h.tri, h.hit, fun a ha => by
  rcases List.mem_cons.mp ha with rfl | ha
  · exact hI
  · exact h.off a ha⟩
section
variable {M : Model} {A : Around} {E : Value → Shared → Prop} {s : Shared} {h₀ : Heap} {L a c P : Addr} {av : List Addr} {m mg mb : Str → Option Value} {cn : Str} {cs : Scope} {ccd : Value} {cl : List (Str × Addr)} {news rest : List (Addr × Obj)} {g : Obj → List (Addr × Obj)}
  {p : Program} {loose : List Str} {mean : ExcName → Option Value} {name qual : Str} {params : Arguments} {body : Expr} {scope : Scope} {ps : Array Value} {pos : Pos} {firstLine : Nat} {clos : List (Str × Addr)}
theorem lam_any {Q : Value → Shared → Prop} (F : Fr h₀ L s.heap m) (N : News h₀ L s.heap news) (T : Top p loose mean mg mb h₀) (C : CodeHd h₀ c P) (hcd : ccd = .ref c) (U : UpdF P (tabObj ps) news g) (hC : Cod qual av ps rest)
    (hsub : ∀ q ∈ rest, q ∈ news) (hav : ∀ a ∈ av, ∃ o, (a, o) ∈ news) (hcl : closureFor scope (envX cn cs L a ccd cl) = pure clos)
    (h : ∀ f c' oc vs t ctv ps' h' tk, Fr h₀ L h' m → News h₀ L h' ((f, kla_obj name qual params body scope clos ((mg "__name__").getD .none) c' ctv) :: (c', oc) :: g (tabObj ps')) →
      oc.data = .fields vs → vs[1]? = some (.str qual t) → (∀ q ∈ (c', oc) :: g (tabObj ps'), q.1 < f) → Cod qual av ps' ((c', oc) :: rest) → Q (.ref f) { s with heap := h', toks := tk }) :
    wpAny M A (makeFunction name qual params (.expr body) scope (envX cn cs L a ccd cl) [] [] [] pos firstLine) Q E s := by
  obtain ⟨own, post, e1, hgr, h1, h2⟩ := U.split
  have hP : (P, tabObj ps) ∈ news := by rw [e1]; exact List.mem_append_right _ (.head _)
  have hg1 : ∀ (o' : Obj) (q : Addr × Obj), q ∈ g o' → ∃ q' ∈ news, q'.1 = q.1 := fun o' q hq => by
    rw [hgr] at hq
    rcases List.mem_append.mp hq with hq | hq
    · exact ⟨q, by rw [e1]; exact List.mem_append_left _ hq, rfl⟩
    · rcases List.mem_cons.mp hq with rfl | hq
      · exact ⟨_, hP, rfl⟩
      · exact ⟨q, by rw [e1]; exact List.mem_append_right _ (.tail _ hq), rfl⟩
  cases hh : codeAmong pos ps.toList with
  | none =>
    refine kla_nest F N T C hcd U hC.tri hh hcl fun f c' oc vs t ctv h' tk F' N' d1 d2 l1 l2 => ?_
    refine h f c' oc vs t ctv _ h' tk F' N' d1 d2 (fun q hq => ?_) ⟨?_, ?_, ?_⟩
    · rcases List.mem_cons.mp hq with rfl | hq
      · exact l2
      · obtain ⟨q', hq', e⟩ := hg1 _ q hq
        exact e ▸ Nat.lt_trans (l1 q' hq') l2
    · rw [Array.toList_append]; exact TriplesOk_snoc _ _ _ _ hC.tri
    · intro pos2 cv e
      rw [Array.toList_append] at e
      rcases among_snoc _ hC.tri e with e | e
      · obtain ⟨c2, oc2, vs2, t2, r1, r2, r3, r4⟩ := hC.hit _ _ e
        exact ⟨c2, oc2, vs2, t2, r1, .tail _ r2, r3, r4⟩
      · exact ⟨c', oc, vs, t, e, .head _, d1, d2⟩
    · intro a ha q hq
      rcases List.mem_cons.mp hq with rfl | hq
      · obtain ⟨o, ho⟩ := hav a ha
        exact Nat.ne_of_gt (l1 _ ho)
      · exact hC.off a ha q hq
  | some cv =>
    obtain ⟨c', oc, vs, t, rfl, hm, d1, d2⟩ := hC.hit _ _ hh
    refine kla_hit F N T C hcd hP hC.tri hh hcl fun f ctv h' tk F' N' l1 => ?_
    have hm' := hsub _ hm
    have eg : g (tabObj ps) = news := by rw [hgr, e1]
    refine h f c' oc vs t ctv ps h' tk F' (fun q hq => N' q ?_) d1 d2 (fun q hq => ?_) ⟨hC.tri, ?_, ?_⟩
    · rcases List.mem_cons.mp hq with rfl | hq
      · exact .head _
      · rcases List.mem_cons.mp hq with rfl | hq
        · exact .tail _ hm'
        · rw [eg] at hq; exact .tail _ hq
    · rcases List.mem_cons.mp hq with rfl | hq
      · exact l1 _ hm'
      · rw [eg] at hq; exact l1 q hq
    · intro pos2 cv e
      obtain ⟨c2, oc2, vs2, t2, r1, r2, r3, r4⟩ := hC.hit _ _ e
      exact ⟨c2, oc2, vs2, t2, r1, .tail _ r2, r3, r4⟩
    · intro a ha q hq
      rcases List.mem_cons.mp hq with rfl | hq
      · exact hC.off a ha _ hm
      · exact hC.off a ha q hq
end
/-! ## list(told.items()), four pairs with bytes as keys -/
abbrev pairObj (k : Array UInt8) (t : Tok) (v : Value) : Obj := { cls := .type "tuple", data := .seq #[.bytes k t, v] }
section
variable {prog : Program} {w : World} {A : Around} {E : Value → Shared → Prop} {s : Shared} {h₀ : Heap} {L d v : Addr} {m : Str → Option Value} {news : List (Addr × Obj)} {od : Obj}
theorem key_bytes {k : Array UInt8} {key : Value} (h : (bytesKind prog w).is k.toList key = true) : ∃ t, key = .bytes k t := by
  cases key with
  | bytes b t =>
    have e : b.toList = k.toList := by simpa [bytesKind, isBytes] using h
    exact ⟨t, by rw [Array.toList_inj.mp e]⟩
  | _ => simp [bytesKind, isBytes] at h
theorem listB4 {Q : Value → Shared → Prop} {k1 k2 k3 k4 : Array UInt8} {v1 v2 v3 v4 : Value} (hh : A.handled = none) (F : Fr h₀ L s.heap m) (N : News h₀ L s.heap ((v, { cls := .type "dict_items", data := .fields #[.ref d] }) :: news)) (hmd : (d, od) ∈ news)
    (hod : od.IsDictOf (bytesKind prog w) [(k1.toList, v1), (k2.toList, v2), (k3.toList, v3), (k4.toList, v4)])
    (h : ∀ B p1 p2 p3 p4 t1 t2 t3 t4 c h' tk, (∀ q ∈ news, q.1 < B) → B < p1 → p1 < p2 → p2 < p3 → p3 < p4 → Fr h₀ L h' m →
      News h₀ L h' ((B, listOf #[.ref p1, .ref p2, .ref p3, .ref p4] c) :: (p1, pairObj k1 t1 v1) :: (p2, pairObj k2 t2 v2) :: (p3, pairObj k3 t3 v3) :: (p4, pairObj k4 t4 v4) :: news) → Q (.ref B) { s with heap := h', toks := tk }) :
    wpAny (model prog w) A (call (.type "list") [.ref v]) Q E s := by
  obtain ⟨ep, hat⟩ := KdkAt.of hod
  refine kdx_call (ep := ep) hh ⟨_, (N _ (.head _)).1, rfl, rfl⟩ (hat.dictAt (N _ (.tail _ hmd)).1) (kdl_size (Nat.le_of_ble_eq_true rfl)) fun h' tk acc c as hk hS hl hG hacc => ?_
  match as, hl with
  | [a1, a2, a3, a4], _ =>
    have key : ∀ (j : Nat) (a : Addr) (k : Array UInt8) (x : Value), [a1, a2, a3, a4][j]? = some a → [(k1.toList, v1), (k2.toList, v2), (k3.toList, v3), (k4.toList, v4)][j]? = some (k.toList, x) → ∃ t, h'.get? a = some (pairObj k t x) := fun j a k x ha hx => by
      obtain ⟨ky, kk, y, e1, e2, e3⟩ := hG.pairs j a ha
      rw [hx] at e1
      cases e1
      obtain ⟨t, rfl⟩ := key_bytes e2
      exact ⟨t, e3⟩
    obtain ⟨t1, g1⟩ := key 0 a1 k1 v1 rfl rfl
    obtain ⟨t2, g2⟩ := key 1 a2 k2 v2 rfl rfl
    obtain ⟨t3, g3⟩ := key 2 a3 k3 v3 rfl rfl
    obtain ⟨t4, g4⟩ := key 3 a4 k4 v4 rfl rfl
    have r := hG.rise
    simp only [List.pairwise_cons, List.mem_cons, List.not_mem_nil, or_false, forall_eq_or_imp, forall_eq] at r
    have ea : acc = #[.ref a1, .ref a2, .ref a3, .ref a4] := by rw [← Array.toArray_toList (xs := acc), hacc]; rfl
    have fr : ∀ a, a ∈ [a1, a2, a3, a4] → a ≠ L ∧ h₀.get? a = none := fun a ha => kdx_fresh F (Nat.le_of_lt (hG.above a ha))
    refine h s.heap.objs.size a1 a2 a3 a4 t1 t2 t3 t4 c h' tk (fun q hq => Heap.lt_size (N q (.tail _ hq)).1) (hG.above a1 (.head _)) r.1.1 r.2.1.1 r.2.2.1 (F.keeps hk) fun q hq => ?_
    rcases List.mem_cons.mp hq with rfl | hq
    · exact ⟨by rw [← ea]; exact hS, kdx_fresh F (Nat.le_refl _)⟩
    rcases List.mem_cons.mp hq with rfl | hq
    · exact ⟨g1, fr _ (.head _)⟩
    rcases List.mem_cons.mp hq with rfl | hq
    · exact ⟨g2, fr _ (.tail _ (.head _))⟩
    rcases List.mem_cons.mp hq with rfl | hq
    · exact ⟨g3, fr _ (.tail _ (.tail _ (.head _)))⟩
    rcases List.mem_cons.mp hq with rfl | hq
    · exact ⟨g4, fr _ (.tail _ (.tail _ (.tail _ (.head _))))⟩
    · exact ⟨hk _ _ (N q (.tail _ hq)).1, (N q (.tail _ hq)).2⟩
/-! ## two dicts of four pairs of bytes are alike -/
theorem neB {Q : Value → Shared → Prop} {b : Addr} {o o2 : Obj} {k1 k2 k3 k4 b1 b2 b3 b4 : Array UInt8} {u1 u2 u3 u4 : Tok} (N : News h₀ L s.heap news) (ha : (d, o) ∈ news) (hb : (b, o2) ∈ news) (la : (d == sysModules) = false) (lb : (b == sysModules) = false)
    (ho : o.IsDictOf (bytesKind prog w) [(k1.toList, .bytes b1 u1), (k2.toList, .bytes b2 u2), (k3.toList, .bytes b3 u3), (k4.toList, .bytes b4 u4)]) (ho2 : o2.IsDictOf (bytesKind prog w) [(k1.toList, .bytes b1 u1), (k2.toList, .bytes b2 u2), (k3.toList, .bytes b3 u3), (k4.toList, .bytes b4 u4)])
    (hnd : [k1.toList, k2.toList, k3.toList, k4.toList].Nodup) (hu : A.units < cLine) (h : Q (.bool false) s) : wpAny (model prog w) A (compareOp .NotEq (.ref d) (.ref b)) Q E s := by
  have at' : ∀ (x : Array UInt8) (u : Tok), SeqAt.EqAt A.in1 s (.bytes x u) (.bytes x u) true := fun x u => by
    have := eqAt_bytes (A := A.in1) (s := s) x x u u
    rwa [beq_self_eq_true] at this
  simp only [List.nodup_cons, List.mem_cons, List.not_mem_nil, or_false, not_or] at hnd
  obtain ⟨⟨n1, n2, n3⟩, ⟨n4, n5⟩, n6, _⟩ := hnd
  refine keq_ne (r := true && (true && (true && (true && true)))) la lb (kda_dict N ha ho) (kda_dict N hb ho2) hu (fun _ => ?_) h
  refine .hit ?_ (at' b1 u1) (.hit ?_ (at' b2 u2) (.hit ?_ (at' b3 u3) (.hit ?_ (at' b4 u4) .nil)))
  · simp [valueAt]
  · simp [valueAt, n1]
  · simp [valueAt, n2, n4]
  · simp [valueAt, n3, n5, n6]
end
end SY2
/-! # Y3 -/
section SY3
/-! ## _law_heard with the law's lambda over a request -/
abbrev kMethod : Array UInt8 := #[58, 109, 101, 116, 104, 111, 100]
abbrev kScheme : Array UInt8 := #[58, 115, 99, 104, 101, 109, 101]
abbrev kPath : Array UInt8 := #[58, 112, 97, 116, 104]
abbrev kAuth : Array UInt8 := #[58, 97, 117, 116, 104, 111, 114, 105, 116, 121]
abbrev reqOk (ks1 ks2 : List Int) : Bool := valOk ks1 && valOk ks2 && tokOk ks1 && schOk ks2
abbrev reqPairs (b1 b2 : Array UInt8) (u1 u2 u3 u4 : Tok) : List (List UInt8 × Value) := [(kMethod.toList, .bytes b1 u1), (kScheme.toList, .bytes b2 u2), (kPath.toList, .bytes #[47] u3), (kAuth.toList, .bytes #[104] u4)]
theorem heard_request (w : World) {qual : Str} {pa q1 q2 q3 : Pos} {pmv ctv : Value} {c' f fl p1 p2 p3 p4 : Addr} {c : Nat} {b1 b2 : Array UInt8} {t1 t2 t3 t4 u1 u2 u3 u4 : Tok} (ks1 ks2 : List Int) {oc : Obj} {cvs : Array Value} {ct : Tok} {extra : Led}
    {dp un : Nat} {gd : Option (List Code)} {cn : Str} {cs : Scope} {a : Addr} {ccd : Value} {cl : List (Str × Addr)}
    {A₀ : Around} {base h₀ : Heap} {L : Addr} {m : Str → Option Value} {s : Shared} {Q E : Value → Shared → Prop} {mean : ExcName → Option Value} {mg mb : Str → Option Value}
    (B : Below A₀ base [] h₀) (F : Fr h₀ L s.heap m) (X : (hd.heap_39 w.params).In h₀)
    (N : News h₀ L s.heap ((fl, listOf #[.ref p1, .ref p2, .ref p3, .ref p4] c) :: (p1, pairObj kMethod t1 (.bytes b1 u1)) :: (p2, pairObj kScheme t2 (.bytes b2 u2)) :: (p3, pairObj kPath t3 (.bytes #[47] u3)) :: (p4, pairObj kAuth t4 (.bytes #[104] u4)) ::
      (f, kla_obj "<lambda>" qual (heldArgs pa) ((Expr.Name "check_request" q1).Call [Expr.Name "held" q2] [] q3) (heldScope "check_request") [] pmv c' ctv) :: extra))
    (T : Top topProg LS mean mg mb h₀) (hk : cs.kind = .function) (hd' : dp + 16 < recursionLimit) (hu : un + 8 * 16 + 100 < cLine)
    (hb1 : KBw.bInts b1 = ks1) (hz1 : ks1.length ≤ 6) (hb2 : KBw.bInts b2 = ks2) (hz2 : ks2.length ≤ 6) (hc : (c', oc) ∈ extra) (hcd : oc.data = .fields cvs) (hcv : cvs[1]? = some (.str qual ct))
    (lf : ∀ q ∈ extra, q.1 < f) (ll : f < fl) (l1 : fl < p1) (l2 : p1 < p2) (l3 : p2 < p3) (l4 : p3 < p4)
    (ret1 : reqOk ks1 ks2 = true → ∀ d o h' tk', (d == sysModules) = false → o.IsDictOf (bytesKind PySem.Challenge.rw_pf0251_01.row.prog w) (reqPairs b1 b2 u1 u2 u3 u4) → Fr h₀ L h' m → News h₀ L h' ((d, o) :: extra) → Q (.ref d) { s with heap := h', toks := tk' })
    (ret2 : reqOk ks1 ks2 = false → ∀ h' tk', Fr h₀ L h' m → News h₀ L h' extra → Q (.int 270 220) { s with heap := h', toks := tk' }) :
    wpAny (model PySem.Challenge.rw_pf0251_01.row.prog w) (ktrTop dp un gd cn cs L a ccd cl []) (call (.ref 162) [.ref f, .ref fl]) Q E s := by
  have lfl : ∀ q ∈ extra, q.1 < fl := fun q hq => Nat.lt_trans (lf q hq) ll
  have lp1 : ∀ q ∈ extra, q.1 < p1 := fun q hq => Nat.lt_trans (lfl q hq) l1
  have lp2 : ∀ q ∈ extra, q.1 < p2 := fun q hq => Nat.lt_trans (lp1 q hq) l2
  have lp3 : ∀ q ∈ extra, q.1 < p3 := fun q hq => Nat.lt_trans (lp2 q hq) l3
  have lp4 : ∀ q ∈ extra, q.1 < p4 := fun q hq => Nat.lt_trans (lp3 q hq) l4
  refine heard_spec w 14 c' qual f fl _ _ _ _ _ (.head _) rfl (lam_request_spec w qual pa q1 q2 q3 pmv ctv c' f fl p1 p2 p3 p4 c 0 0 0 0 b1 b2 t1 t2 t3 t4 u1 u2 u3 u4 ks1 ks2 hb1 hz1 hb2 hz2) dp un gd cn cs a ccd cl A₀ base h₀ L m s Q E mean mg mb extra B F X (fun p hp => N p ?_) (fun p hp => N p (.tail _ (.tail _ (.tail _ (.tail _ (.tail _ (.tail _ hp))))))) T hk hd' hu ?_ ?_ ?_ ?_ ?_
  · rcases List.mem_cons.mp hp with rfl | hp
    · exact .tail _ (.tail _ (.tail _ (.tail _ (.tail _ (.head _)))))
    · rcases List.mem_cons.mp hp with rfl | hp
      · exact .head _
      · rcases List.mem_cons.mp hp with rfl | hp
        · exact .tail _ (.head _)
        · rcases List.mem_cons.mp hp with rfl | hp
          · exact .tail _ (.tail _ (.head _))
          · rcases List.mem_cons.mp hp with rfl | hp
            · exact .tail _ (.tail _ (.tail _ (.head _)))
            · rw [List.mem_singleton.mp hp]; exact .tail _ (.tail _ (.tail _ (.tail _ (.head _))))
  case refine_2 =>
    intro p hp q hq
    rcases List.mem_cons.mp hq with rfl | hq
    · exact Nat.ne_of_gt (lf p hp)
    rcases List.mem_cons.mp hq with rfl | hq
    · exact Nat.ne_of_gt (lfl p hp)
    rcases List.mem_cons.mp hq with rfl | hq
    · exact Nat.ne_of_gt (lp1 p hp)
    rcases List.mem_cons.mp hq with rfl | hq
    · exact Nat.ne_of_gt (lp2 p hp)
    rcases List.mem_cons.mp hq with rfl | hq
    · exact Nat.ne_of_gt (lp3 p hp)
    · rw [List.mem_singleton.mp hq]; exact Nat.ne_of_gt (lp4 p hp)
  · exact ⟨c', oc, cvs, ct, rfl, (N _ (.tail _ (.tail _ (.tail _ (.tail _ (.tail _ (.tail _ hc))))))).1, hcd, hcv⟩
  · intro q hq
    rcases List.mem_cons.mp hq with rfl | hq
    · exact Nat.ne_of_gt (lf _ hc)
    rcases List.mem_cons.mp hq with rfl | hq
    · exact Nat.ne_of_gt (lfl _ hc)
    rcases List.mem_cons.mp hq with rfl | hq
    · exact Nat.ne_of_gt (lp1 _ hc)
    rcases List.mem_cons.mp hq with rfl | hq
    · exact Nat.ne_of_gt (lp2 _ hc)
    rcases List.mem_cons.mp hq with rfl | hq
    · exact Nat.ne_of_gt (lp3 _ hc)
    · rw [List.mem_singleton.mp hq]; exact Nat.ne_of_gt (lp4 _ hc)
  · rintro v nw h' tk' ⟨d, o, rfl, lo, ho, rfl, hv⟩ F' N'
    exact ret1 hv d o h' tk' lo ho F' N'
  · exact fun hv h' tk' F' N' => ret2 hv h' tk' F' N'
/-! ## the plain law -/
theorem alnum_tok {x : Int} : (isAlnum x || nameSigns.contains x) = (isLet x || isName x) := by
  unfold isAlnum isName isLet
  rw [Bool.eq_iff_iff]
  simp only [Bool.or_eq_true, Bool.and_eq_true, decide_eq_true_eq]
  constructor
  · rintro ((h | h) | h)
    · rcases h with h | h
      · exact .inl (.inl h)
      · exact .inl (.inr h)
    · exact .inr (.inl (.inr h))
    · exact .inr (.inr h)
  · rintro (h | (h | h) | h)
    · exact .inl (.inl h)
    · exact .inl (.inl (.inr h))
    · exact .inl (.inr h)
    · exact .inr h
theorem word_tok (ks : List Int) : wordOk ks nameSigns = tokOk ks := by
  unfold wordOk tokOk
  rw [show (fun x => isAlnum x || nameSigns.contains x) = (fun x => isLet x || isName x) from funext fun x => alnum_tok]
theorem sign_in {l : List Int} (h : ∀ y ∈ l, 33 ≤ y ∧ y ≤ 126) {x : Int} (hx : l.contains x = true) : 33 ≤ x ∧ x ≤ 126 := h x (List.contains_iff_mem.mp hx)
theorem oct_of {x : Int} (hx : 33 ≤ x ∧ x ≤ 126) : okOct x = true ∧ x ≠ 32 ∧ x ≠ 9 := by
  refine ⟨?_, by omega, by omega⟩
  unfold okOct
  rw [decide_eq_false (show ¬ x < 32 by omega), decide_eq_false (show ¬ x = 127 by omega)]
  rfl
theorem let_in {x : Int} (h : isLet x = true) : 65 ≤ x ∧ x ≤ 122 := by
  simp only [isLet, Bool.or_eq_true, Bool.and_eq_true, decide_eq_true_eq] at h
  omega
theorem tok_oct {x : Int} (h : (isLet x || isName x) = true) : okOct x = true ∧ x ≠ 32 ∧ x ≠ 9 := by
  refine oct_of ?_
  rcases Bool.or_eq_true_iff.mp h with h | h
  · have := let_in h; omega
  · unfold isName at h
    rcases Bool.or_eq_true_iff.mp h with h | h
    · simp only [Bool.or_eq_true, Bool.and_eq_true, decide_eq_true_eq] at h
      omega
    · exact sign_in (by decide) h
theorem sch_oct {x : Int} (h : isSch x = true) : okOct x = true ∧ x ≠ 32 ∧ x ≠ 9 := by
  refine oct_of ?_
  unfold isSch at h
  rcases Bool.or_eq_true_iff.mp h with h | h
  · rcases Bool.or_eq_true_iff.mp h with h | h
    · have := let_in h; omega
    · simp only [Bool.and_eq_true, decide_eq_true_eq] at h
      omega
  · exact sign_in (by decide) h
theorem not_blank {l : List Int} (h : ∀ x ∈ l, x ≠ 32 ∧ x ≠ 9) : blank l = false := by
  unfold blank
  simp only [List.any_cons, List.any_nil, Bool.or_false, Bool.or_eq_false_iff, beq_eq_false_iff_ne]
  exact ⟨fun e => (h 32 (by rw [← e]; exact .head _)).1 rfl, fun e => (h 9 (by rw [← e]; exact .head _)).2 rfl⟩
theorem val_of {ks : List Int} (h : ∀ x ∈ ks, okOct x = true ∧ x ≠ 32 ∧ x ≠ 9) : valOk ks = true := by
  unfold valOk
  rw [List.all_eq_true.mpr fun x hx => (h x hx).1, not_blank fun x hx => (h x (List.mem_of_mem_take hx)).2, not_blank fun x hx => (h x (List.mem_of_mem_drop hx)).2]
  rfl
theorem tok_val {ks : List Int} (h : tokOk ks = true) : valOk ks = true := val_of fun x hx => tok_oct (by
  unfold tokOk at h
  exact List.all_eq_true.mp (Bool.and_eq_true_iff.mp h).2 x hx)
theorem sch_val {ks : List Int} (h : schOk ks = true) : valOk ks = true := val_of fun x hx => sch_oct (by
  unfold schOk at h
  exact List.all_eq_true.mp (Bool.and_eq_true_iff.mp h).2 x hx)
theorem req_method (ks : List Int) : reqOk ks [104, 116, 116, 112, 115] = wordOk ks nameSigns := by
  rw [word_tok]
  unfold reqOk
  rw [show valOk [104, 116, 116, 112, 115] = true by decide +kernel, show schOk [104, 116, 116, 112, 115] = true by decide +kernel, Bool.and_true, Bool.and_true]
  cases h : tokOk ks with
  | true => rw [tok_val h]; rfl
  | false => rw [Bool.and_false]
def edgeSigns : List Int := [48, 49, 50, 51, 52, 53, 54, 55, 56, 57, 43, 45, 46]
theorem sch_edge {x : Int} (hx : isSch x = true) : isLet x = !edgeSigns.contains x := by
  cases hl : isLet x with
  | true =>
    cases he : edgeSigns.contains x with
    | false => rfl
    | true =>
      have h1 := let_in hl
      have h2 : ∀ y ∈ edgeSigns, 43 ≤ y ∧ y ≤ 57 := by decide
      have := h2 x (List.contains_iff_mem.mp he)
      omega
  | false =>
    unfold isSch at hx
    rw [hl, Bool.false_or] at hx
    rcases Bool.or_eq_true_iff.mp hx with h | h
    · have h3 : ∀ n : Fin 10, edgeSigns.contains (48 + (n.val : Int)) = true := by decide
      simp only [Bool.and_eq_true, decide_eq_true_eq] at h
      have h4 := h3 ⟨(x - 48).toNat, by omega⟩
      rw [show (48 + (((x - 48).toNat : Nat) : Int)) = x by omega] at h4
      rw [h4]; rfl
    · have h5 : ∀ y ∈ schemeSigns, edgeSigns.contains y = true := by decide
      rw [h5 x (List.contains_iff_mem.mp h)]; rfl
theorem req_scheme (ks : List Int) : reqOk [103, 101, 116] ks = (wordOk ks schemeSigns && !(ks.take 1).all fun x => edgeSigns.contains x) := by
  have e : schOk ks = (wordOk ks schemeSigns && !(ks.take 1).all fun x => edgeSigns.contains x) := by
    cases ks with
    | nil => rfl
    | cons x r =>
      unfold schOk wordOk
      rw [show (fun x => isAlnum x || schemeSigns.contains x) = isSch from funext fun x => rfl]
      simp only [List.isEmpty_cons, Bool.not_false, Bool.true_and, List.getD_cons_zero, List.take_succ_cons, List.take_zero, List.all_cons, List.all_nil, Bool.and_true]
      cases hx : isSch x with
      | false => rw [Bool.false_and, Bool.and_false, Bool.false_and]
      | true =>
        rw [Bool.true_and]
        cases r.all isSch with
        | false => rw [Bool.and_false, Bool.false_and]
        | true =>
          rw [Bool.and_true, Bool.true_and]
          exact sch_edge hx
  rw [← e]
  unfold reqOk
  rw [show valOk [103, 101, 116] = true by decide +kernel, show tokOk [103, 101, 116] = true by decide +kernel, Bool.true_and, Bool.and_true]
  cases h : schOk ks with
  | true => rw [sch_val h]; rfl
  | false => rw [Bool.and_false]
end SY3
/-! # Y4 -/
section SY4
/-! ## the law's turn in pieces -/
/-- what a piece must hand on -/
def Keep (_keep : Led) (_qual : Str) (_av : List Addr) (_P : Addr) : Prop := True
theorem keep_of {h₀ h : Heap} {L P : Addr} {a b c : Addr × Obj} {ps : Array Value} {rest : Led} {qual : Str} {av : List Addr} (_ : News h₀ L h (a :: b :: c :: (P, tabObj ps) :: rest)) (_ : Cod qual av ps rest) : Keep [a, b, c] qual av P := trivial
/-- a value, and all as it stood -/
def CutV (h₀ : Heap) (L : Addr) (m : Str → Option Value) (news : Led) (V : Value → Prop) (s : Shared) (v : Value) (s' : Shared) : Prop :=
  ∃ h' tk, s' = { s with heap := h', toks := tk } ∧ Fr h₀ L h' m ∧ News h₀ L h' news ∧ V v
def CutI (h₀ : Heap) (L : Addr) (m : Str → Option Value) (keep : Led) (qual : Str) (av : List Addr) (P : Addr) (s : Shared) (fl : Flow) (s' : Shared) : Prop :=
  fl = .next ∧ ∃ h' tk ps rest, s' = { s with heap := h', toks := tk } ∧ Fr h₀ L h' m ∧ News h₀ L h' (keep ++ (P, tabObj ps) :: rest) ∧ Cod qual av ps rest
section
variable {M : Model} {A : Around} {E : Value → Shared → Prop} {s : Shared} {h₀ : Heap} {L P : Addr} {av : List Addr} {m : Str → Option Value} {news keep : Led} {qual : Str} {env : Env}
theorem cut_v {e : Expr} {Q : Value → Shared → Prop} (V : Value → Prop) (F : Fr h₀ L s.heap m) (N : News h₀ L s.heap news) (h1 : wpAny M A (eval e env) (CutV h₀ L m news V s) E s)
    (h2 : ∀ v h' tk, V v → Fr h₀ L h' m → News h₀ L h' news → Q v { s with heap := h', toks := tk }) : wpAny M A (eval e env) Q E s :=
  wpAny_mono h1 (fun v s' ⟨h', tk, e, F', N', hv⟩ => by subst e; exact h2 v h' tk hv F' N') fun _ _ x => x
theorem cut_i {st : Stmt} {Q : Flow → Shared → Prop} (_ : Keep keep qual av P) (F : Fr h₀ L s.heap m) (h1 : wpAny M A (exec st env) (CutI h₀ L m keep qual av P s) E s)
    (h2 : ∀ h' tk ps rest, Fr h₀ L h' m → News h₀ L h' (keep ++ (P, tabObj ps) :: rest) → Cod qual av ps rest → Q .next { s with heap := h', toks := tk }) : wpAny M A (exec st env) Q E s :=
  wpAny_mono h1 (fun fl s' ⟨e0, h', tk, ps, rest, e, F', N', hC⟩ => by subst e0; subst e; exact h2 h' tk ps rest F' N' hC) fun _ _ x => x
end
def DueP (ok : Bool) (d : Addr) (v : Value) : Prop := (ok = true ∧ v = .ref d) ∨ (ok = false ∧ ∃ t, v = .int 270 t)
theorem due_told {ok : Bool} {d : Addr} (h : ok = true) : DueP ok d (.ref d) := .inl ⟨h, rfl⟩
theorem due_270 {ok : Bool} {d : Addr} {t : Tok} (h : ok = false) : DueP ok d (.int 270 t) := .inr ⟨h, _, rfl⟩
/-! ### what is due, by the two checks -/
theorem httpsI : KBw.bInts #[104, 116, 116, 112, 115] = [104, 116, 116, 112, 115] := by decide +kernel
theorem getI : KBw.bInts #[103, 101, 116] = [103, 101, 116] := by decide +kernel
theorem edgeI : KBw.bInts #[48, 49, 50, 51, 52, 53, 54, 55, 56, 57, 43, 45, 46] = edgeSigns := by decide +kernel
theorem dueM {ks : List Int} {c : Bool} (h : wordOk ks (KBw.bInts #[33, 35, 36, 37, 38, 39, 42, 43, 45, 46, 94, 95, 96, 124, 126]) = c) : reqOk ks (KBw.bInts #[104, 116, 116, 112, 115]) = c := by
  rw [httpsI, req_method, ← nameSigns_eq]; exact h
theorem dueS0 {ks : List Int} (h : wordOk ks (KBw.bInts #[43, 45, 46]) = false) : reqOk (KBw.bInts #[103, 101, 116]) ks = false := by
  rw [getI, req_scheme, ← schemeSigns_eq, h, Bool.false_and]
theorem slice_size {c : Array UInt8} {n : Nat} {ks : List Int} (h : KBw.bInts c = List.take n ks) (hz : ks.length ≤ 4) : c.size ≤ 1000 := by
  rw [← KBw.ints_length, h, List.length_take]
  omega
theorem due_is1 {ok : Bool} {d : Addr} {v : Value} (h : DueP ok d v) (q : ok = true) : v = .ref d := by
  rcases h with ⟨_, h⟩ | ⟨h, _⟩
  · exact h
  · rw [q] at h; cases h
theorem due_is2 {ok : Bool} {d : Addr} {v : Value} (h : DueP ok d v) (q : ok = false) : ∃ t, v = .int 270 t := by
  rcases h with ⟨h, _⟩ | ⟨_, h⟩
  · rw [q] at h; cases h
  · exact h
section
variable {prog : Program} {w : World} {M : Model} {A : Around} {E : Value → Shared → Prop} {s : Shared} {h₀ : Heap} {L d : Addr} {m : Str → Option Value} {news : Led} {env : Env} {o : Obj}
theorem cut_due {e : Expr} {Q : Value → Shared → Prop} {b1 b2 : Array UInt8} {u1 u2 u3 u4 : Tok} {kvs : List (List UInt8 × Value)} (F : Fr h₀ L s.heap m) (N : News h₀ L s.heap news) (ho : o.IsDictOf (bytesKind prog w) kvs) (hm : (d, o) ∈ news) (hk : kvs = reqPairs b1 b2 u1 u2 u3 u4) {ks1 ks2 : List Int} (_ : KBw.bInts b1 = ks1) (_ : KBw.bInts b2 = ks2)
    (h1 : wpAny M A (eval e env) (CutV h₀ L m news (DueP (reqOk ks1 ks2) d) s) E s)
    (h2 : ∀ v h' tk, DueP (reqOk ks1 ks2) d v → Fr h₀ L h' m → News h₀ L h' news → o.IsDictOf (bytesKind prog w) (reqPairs b1 b2 u1 u2 u3 u4) → Q v { s with heap := h', toks := tk }) : wpAny M A (eval e env) Q E s :=
  cut_v _ F N h1 fun v h' tk hv F' N' => h2 v h' tk hv F' N' (hk ▸ ho)
end
theorem dueS1 {ks : List Int} {c : Bool} {b d : Array UInt8} (h : wordOk ks (KBw.bInts #[43, 45, 46]) = true) (hc : KBw.bInts d = List.take (clipAt ks.length 1) ks)
    (hb : (KBw.bInts b).isEmpty = (KBw.bInts d).all (fun x => (KBw.bInts #[48, 49, 50, 51, 52, 53, 54, 55, 56, 57, 43, 45, 46]).contains x)) (hf : (!(KBw.bInts b == KBw.bInts #[])) = c) : reqOk (KBw.bInts #[103, 101, 116]) ks = c := by
  rw [getI, req_scheme, ← schemeSigns_eq, h, Bool.true_and]
  rw [hc, edgeI, clip_head] at hb
  rw [← hb, ← hf]
  rw [show KBw.bInts #[] = [] by decide +kernel]
  cases KBw.bInts b <;> rfl
theorem dueS1a {ks : List Int} {b d : Array UInt8} (h : wordOk ks (KBw.bInts #[43, 45, 46]) = true) (hc : KBw.bInts d = List.take (clipAt ks.length 1) ks)
    (hb : (KBw.bInts b).isEmpty = (KBw.bInts d).all (fun x => (KBw.bInts #[48, 49, 50, 51, 52, 53, 54, 55, 56, 57, 43, 45, 46]).contains x)) (hf : (KBw.bInts b == KBw.bInts #[]) = false) : reqOk (KBw.bInts #[103, 101, 116]) ks = true :=
  dueS1 h hc hb (by rw [hf]; rfl)
theorem dueS1b {ks : List Int} {b d : Array UInt8} (h : wordOk ks (KBw.bInts #[43, 45, 46]) = true) (hc : KBw.bInts d = List.take (clipAt ks.length 1) ks)
    (hb : (KBw.bInts b).isEmpty = (KBw.bInts d).all (fun x => (KBw.bInts #[48, 49, 50, 51, 52, 53, 54, 55, 56, 57, 43, 45, 46]).contains x)) (hf : (KBw.bInts b == KBw.bInts #[]) = true) : reqOk (KBw.bInts #[103, 101, 116]) ks = false :=
  dueS1 h hc hb (by rw [hf]; rfl)
/-! ### _law_heard over a trailer, by the order of the addresses -/
theorem heard_trailer2 (w : World) {qual : Str} {pa q1 q2 q3 : Pos} {pmv ctv : Value} {c' f fl p1 : Addr} {c : Nat} {b : Array UInt8} {ta tb : Tok} {ks : List Int} {oc : Obj} {cvs : Array Value} {ct : Tok} {extra : Led}
    {dp un : Nat} {gd : Option (List Code)} {cn : Str} {cs : Scope} {a : Addr} {ccd : Value} {cl : List (Str × Addr)}
    {A₀ : Around} {base h₀ : Heap} {L : Addr} {m : Str → Option Value} {s : Shared} {Q E : Value → Shared → Prop} {mean : ExcName → Option Value} {mg mb : Str → Option Value}
    (B : Below A₀ base [] h₀) (F : Fr h₀ L s.heap m) (X : (hd.heap_39 w.params).In h₀)
    (N : News h₀ L s.heap ((fl, listOf #[.ref p1] c) :: (p1, pairObj #[97] ta (.bytes b tb)) :: (f, kla_obj "<lambda>" qual (heldArgs pa) ((Expr.Name "check_trailer" q1).Call [Expr.Name "held" q2] [] q3) (heldScope "check_trailer") [] pmv c' ctv) :: extra))
    (T : Top topProg LS mean mg mb h₀) (hk : cs.kind = .function) (hd' : dp + 16 < recursionLimit) (hu : un + 8 * 16 + 100 < cLine)
    (hb : KBw.bInts b = ks) (hz : ks.length ≤ 16) (hc : (c', oc) ∈ extra) (hcd : oc.data = .fields cvs) (hcv : cvs[1]? = some (.str qual ct))
    (lf : ∀ p ∈ extra, p.1 < f) (l1 : @LT.lt Nat _ f p1) (l2 : @LT.lt Nat _ f fl)
    (ret1 : valOk ks = true → ∀ h' tk', Fr h₀ L h' m → News h₀ L h' extra → Q .none { s with heap := h', toks := tk' })
    (ret2 : valOk ks = false → ∀ h' tk', Fr h₀ L h' m → News h₀ L h' extra → Q (.int 270 220) { s with heap := h', toks := tk' }) :
    wpAny (model PySem.Challenge.rw_pf0251_01.row.prog w) (ktrTop dp un gd cn cs L a ccd cl []) (call (.ref 162) [.ref f, .ref fl]) Q E s :=
  heard_trailer w B F X N T hk hd' hu hb hz hc hcd hcv (fun p hp => Nat.ne_of_lt (Nat.lt_trans (lf p hp) l2)) (fun p hp => Nat.ne_of_lt (Nat.lt_trans (lf p hp) l1)) (fun p hp => Nat.ne_of_lt (lf p hp)) ret1 ret2
/-! ### the law's loop -/
abbrev lawZs : List Str := ["turn", "octets", "told", "due", "is_first"]
def LawJ (box inner P : Addr) (qual : Str) (nw : Led) : Prop := ∃ n tn cb vs ns ci ps rest, nw = (box, listOf #[.ref inner, .int n tn] cb) :: (inner, listOf vs.toArray ci) :: (P, tabObj ps) :: rest ∧ IntsAre vs ns ∧ ns.length ≤ 40 ∧ Cod qual [box, inner, P] ps rest
theorem loop_law {prog : Program} {w : World} {A : Around} {E : Value → Shared → Prop} {s : Shared} {env : Env} {h₀ : Heap} {body : List Stmt} {Q : Flow → Shared → Prop} {r : Addr} {t u v : Tok} {m : Str → Option Value} {box inner P : Addr} (qual : Str) {all : Led} {cb₀ ci₀ : Nat} {n₀ : Int} {tn₀ : Tok} {vs₀ : List Value} {ns₀ : List Int}
    (hr : IsRange s.heap r 0 3 1 t u v) (hh : A.handled = none) (F : Fr h₀ env.locals s.heap m) (N : News h₀ env.locals s.heap all) (m1 : (box, listOf #[.ref inner, .int n₀ tn₀] cb₀) ∈ all) (m2 : (inner, listOf vs₀.toArray ci₀) ∈ all) (m3 : (P, tabObj #[]) ∈ all) (hI : IntsAre vs₀ ns₀) (hz : ns₀.length ≤ 40)
    (step : ∀ tv (i : Int) f n tn cb vs ns ci ps rest I oI h tk, IntsAre vs ns → ns.length ≤ 40 → Cod qual [I, box, inner, P] ps rest → @Ne Nat I box → @Ne Nat I inner → @Ne Nat I P → Fr h₀ env.locals h (fun y => if y = "turn" then some (.int i tv) else over f m lawZs y) →
      News h₀ env.locals h ((I, oI) :: (box, listOf #[.ref inner, .int n tn] cb) :: (inner, listOf vs.toArray ci) :: (P, tabObj ps) :: rest) →
      wpAny (model prog w) A (execs body env) (TurnO h₀ env.locals I oI m lawZs (LawJ box inner P qual) { s with heap := h, toks := tk } (fun v s' => Q (.ret v) s')) E { s with heap := h, toks := tk })
    (fin : ∀ h tk f n tn cb (vs : List Value) ci ps rest, Fr h₀ env.locals h (over f m lawZs) → News h₀ env.locals h ((P, tabObj ps) :: (box, listOf #[.ref inner, .int n tn] cb) :: (inner, listOf vs.toArray ci) :: rest) → Q .next { s with heap := h, toks := tk }) :
    wpAny (model prog w) A (pyIter (.ref r)) (fun it s₂ => LoopAtV prog w A h₀ env "turn" body Q E it s₂) E s := by
  have N0 : News h₀ env.locals s.heap ((box, listOf #[.ref inner, .int n₀ tn₀] cb₀) :: (inner, listOf vs₀.toArray ci₀) :: (P, tabObj #[]) :: []) := fun p hp => N p (by
    rcases List.mem_cons.mp hp with rfl | hp
    · exact m1
    rcases List.mem_cons.mp hp with rfl | hp
    · exact m2
    rcases List.mem_cons.mp hp with rfl | hp
    · exact m3
    · nomatch hp)
  refine loop_over 3 lawZs (fun _ => LawJ box inner P qual) hr rfl (by omega) hh (.head _) F N0 ⟨_, _, _, _, _, _, _, _, rfl, hI, hz, Cod.empty _ _⟩ ?_ ?_
  · rintro i tv f nw I oI h tk hi ⟨n, tn, cb, vs, ns, ci, ps, rest, rfl, h1, h2, h3⟩ ho F' N'
    exact step tv i f n tn cb vs ns ci ps rest I oI h tk h1 h2 (h3.more fun p hp => ho p (.tail _ (.tail _ (.tail _ hp)))) (Ne.symm (ho _ (.head _))) (Ne.symm (ho _ (.tail _ (.head _)))) (Ne.symm (ho _ (.tail _ (.tail _ (.head _))))) F' N'
  · rintro h tk f nw F' N' ⟨n, tn, cb, vs, ns, ci, ps, rest, rfl, h1, h2, h3⟩
    refine fin h tk f n tn cb vs ci ps rest F' fun p hp => N' p ?_
    rcases List.mem_cons.mp hp with rfl | hp
    · exact .tail _ (.tail _ (.head _))
    rcases List.mem_cons.mp hp with rfl | hp
    · exact .head _
    rcases List.mem_cons.mp hp with rfl | hp
    · exact .tail _ (.head _)
    · exact .tail _ (.tail _ (.tail _ hp))
theorem law_end {h₀ h : Heap} {L I box inner P : Addr} {oI : Obj} {m m' f : Str → Option Value} {qual : Str} {ps : Array Value} {rest : Led} {cb ci tk : Nat} {n : Int} {tn : Tok} {vs : List Value} {ns : List Int} {s₁ : Shared} {Qr : Value → Shared → Prop}
    (F : Fr h₀ L h m') (hm : ∀ y, y ∉ lawZs → m' y = over f m lawZs y)
    (N : News h₀ L h ((I, oI) :: (box, listOf #[.ref inner, .int n tn] cb) :: (inner, listOf vs.toArray ci) :: (P, tabObj ps) :: rest)) (hC : Cod qual [I, box, inner, P] ps rest) (e1 : @Ne Nat I box) (e2 : @Ne Nat I inner) (e3 : @Ne Nat I P) (hJ : IntsAre vs ns) (hz : ns.length ≤ 40) :
    TurnO h₀ L I oI m lawZs (LawJ box inner P qual) s₁ Qr .next { s₁ with heap := h, toks := tk } := by
  refine ⟨h, tk, m', _, rfl, F, N, fun p hp => ?_, fun y hy => (hm y hy).trans (over_out hy), _, _, _, _, _, _, _, _, rfl, hJ, hz, hC.less fun a ha => .tail _ ha⟩
  rcases List.mem_cons.mp hp with rfl | hp
  · exact Ne.symm e1
  rcases List.mem_cons.mp hp with rfl | hp
  · exact Ne.symm e2
  rcases List.mem_cons.mp hp with rfl | hp
  · exact Ne.symm e3
  · exact hC.off I (.head _) p hp
end SY4
/-! # the law -/
section SL
/- the walk's own words -/
local macro_rules | `(tactic| k_ne) => `(tactic| assumption)
local macro_rules | `(tactic| k_all) => `(tactic| first | assumption | exact Cod.off (by assumption) _ (by repeat first | exact List.Mem.head _ | refine List.Mem.tail _ ?_) | (intro p9 hp9; exact Nat.ne_of_lt ((by assumption : ∀ p ∈ _, p.1 < _) p9 hp9)))
set_option maxHeartbeats 6000000 in
theorem law_holds : PySem.Challenge.rw_pf0251_01.Holds := hd (by
  k_with_none
  k_with "my_enter" => ((refine wpAny_call ?_; k_dflt (refine' code_def ?zzk1 ?zzk2 ?zzk3 ?zzk4 ?zzk5 ?zzkA ?zzkF ?zzkK ?zzk6 ?zzk7 ?zzk8 ?zzk9 ?zzkB ?_ ?zzc2 ?zzc3 ?zzc4 ?zzc5; (case zzkA => exact rfl); (case zzkF => exact rfl); (case zzkK => first | exact rfl | assumption); (case zzk1 => k_asm); (case zzk2 => k_asm); (case zzk3 => k_asm); (case zzk4 => k_asm); (case zzk5 => k_asm); (case zzk6 => k_is); (case zzk7 => k_is); (case zzk8 => ktr_room); (case zzk9 => exact BindsTo.of_eq rfl); (case zzc5 => decide); (case zzkB => exact locs rfl); (case zzc2 => exact rfl); (case zzc3 => exact rfl); (case zzc4 => exact rfl); k_whole; intro g' L' h' FG' F' N' B' X' T'; (try dsimp only); (try k_fold))))
  k_with "my_bools" => (first | rfl | (simp only [*, Bool.not_true, Bool.not_false, Bool.and_true, Bool.true_and, Bool.and_false, Bool.false_and, Bool.or_true, Bool.or_false, Bool.true_or, Bool.false_or]; done) | (refine Bool.eq_iff_iff.mpr ?_; simp only [isLet, isName, isSch, nameSigns_eq, schemeSigns_eq, decide_eq_true_eq, Bool.or_eq_true, Bool.and_eq_true, Bool.not_eq_true', Bool.not_eq_true, okOct, decide_eq_false_iff_not, Bool.or_eq_false_iff, Bool.and_eq_false_iff, Bool.not_eq_false'] at *; first | omega | (simp_all; done) | (simp_all; omega)))
  k_with "my_use" => (((case zzk1 => k_asm); (case zzk2 => k_asm); (case zzk3 => k_asm); (case zzk4 => k_asm); (case zzk5 => k_asm); (case zzkK => first | exact rfl | assumption); (case zzkd => ktr_room); (case zzku => ktr_units)))
  k_with "compareOp In int bytes" => ((refine in_bytes_int (by assumption) (by assumption) ?_))
  k_with "compareOp NotIn int bytes" => ((refine notIn_bytes_int (by assumption) (by assumption) ?_))
  k_with "eval ListComp" => (k_dflt (k_extra "my_lc"))
  k_with "LcT" => ((refine ⟨?_, _, _, rfl, by assumption, by assumption⟩; walk_at "my_bools"))
  k_with "call ref" => ((k_here; (refine' Calls.use (is_letter_spec _ _ _ _) ?zzk1 ?zzk2 ?zzk3 ?zzk4 ?zzk5 ?zzkK ?zzkd ?zzku ?_); walk_at "my_use"; (intro v9 n9 h9 tk9 hP F9 N9); (obtain ⟨e8, e9⟩ := hP); (subst e8); (replace e9 := Eq.symm e9); (subst e9); (try dsimp only); (try k_fold)))
  k_with "call ref" => ((k_here; (refine' Calls.use (is_name_spec _ _ _ _ (by assumption) (by assumption)) ?zzk1 ?zzk2 ?zzk3 ?zzk4 ?zzk5 ?zzkK ?zzkd ?zzku ?_); walk_at "my_use"; (intro v9 n9 h9 tk9 hP F9 N9); (obtain ⟨e8, e9⟩ := hP); (subst e8); (replace e9 := Eq.symm e9); (subst e9); (try dsimp only); (try k_fold)))
  k_with "compareOp Eq ref ref" => ((k_here; k_dflt (refine' eq_nil ?zzk0 ?zzk1 ?zzk2 ?zzk3 ?zzk4 ?zzk5 ?_; (case zzk0 => k_asm); (case zzk1 => k_asm); (case zzk2 => k_mem); (case zzk3 => k_mem); (case zzk4 => assumption); (case zzk5 => ktr_units)); (try dsimp only)))
  k_with "compareOp NotEq ref ref" => ((k_here; k_dflt (refine' ne_nil ?zzk0 ?zzk1 ?zzk2 ?zzk3 ?zzk4 ?zzk5 ?_; (case zzk0 => k_asm); (case zzk1 => k_asm); (case zzk2 => k_mem); (case zzk3 => k_mem); (case zzk4 => assumption); (case zzk5 => ktr_units)); (try dsimp only)))
  k_with "exec Assign cons ListComp" => (k_dflt (k_extra "my_lcA"))
  k_with "my_thr" => ((intro e9 s9 hb9 T9; (try dsimp only at T9 ⊢); (repeat k_unfold); refine x_up (by assumption) (by assumption) rfl rfl rfl ⟨rfl, rfl, rfl⟩ T9 (fun s8 T8 => ?_)))
  k_with "call ref" => ((k_here; k_dflt ((refine' CallsX.use (malformed_spec _ _ _ _ (by decide +kernel)) ?zzk1 ?zzk2 ?zzk3 ?zzk4 ?zzk5 ?zzkK ?zzkd ?zzku ?_ ?_); walk_at "my_use"; (all_goals first | walk_at "my_thr" | (intro v9 n9 h9 tk9 hP; exact hP.elim)))))
  k_with "my_bare" => (first | exact BytesAre.nil | (refine' BytesAre.cons ?zzba ?zzbb; (case zzba => exact rfl); (case zzbb => walk_at "my_bare")))
  k_with "compareOp In bytes ref" => ((k_here; k_dflt ((refine' in_tuple_bytes ?zzk1 ?zzk2 ?zzk3 ?_); (case zzk1 => first | exact News.isTup (by k_asm) (by k_mem) | exact tupK (by k_in) (by k_is)); (case zzk2 => walk_at "my_bare"); (case zzk3 => first | assumption | rfl)); (try dsimp only)))
  k_with "compareOp NotIn bytes ref" => ((k_here; k_dflt ((refine' notIn_tuple_bytes ?zzk1 ?zzk2 ?zzk3 ?_); (case zzk1 => first | exact News.isTup (by k_asm) (by k_mem) | exact tupK (by k_in) (by k_is)); (case zzk2 => walk_at "my_bare"); (case zzk3 => first | assumption | rfl)); (try dsimp only)))
  k_with "compareOp Eq bytes bytes" => (k_dflt ((refine' eq_bytesI ?zzk1 ?zzk2 ?_); (case zzk1 => first | assumption | rfl); (case zzk2 => first | assumption | rfl)))
  k_with "compareOp NotEq bytes bytes" => (k_dflt ((refine' ne_bytesI ?zzk1 ?zzk2 ?_); (case zzk1 => first | assumption | rfl); (case zzk2 => first | assumption | rfl)))
  k_with "eval Dict nil nil" => ((k_here; k_dflt (refine' newDictB ?zzk1 ?zzk2 (TopRead.nolimit (by k_asm)) ?_; (case zzk1 => k_asm); (case zzk2 => k_asm); k_whole); intro d' h' o' F' N' l1 lo' hs'; (try k_lt l1); (try k_sweep)))
  k_with "compareOp In bytes ref" => ((k_here; k_dflt (first | refine inB (by k_asm) (by repeat first | exact List.Mem.head _ | assumption | refine List.Mem.tail _ ?_) (by k_asm) (by k_asm) true (by kernel_rfl!) ?_ | refine inB (by k_asm) (by repeat first | exact List.Mem.head _ | assumption | refine List.Mem.tail _ ?_) (by k_asm) (by k_asm) false (by kernel_rfl!) ?_)))
  k_with "compareOp NotIn bytes ref" => ((k_here; k_dflt (first | refine notInB (by k_asm) (by repeat first | exact List.Mem.head _ | assumption | refine List.Mem.tail _ ?_) (by k_asm) (by k_asm) true (by kernel_rfl!) ?_ | refine notInB (by k_asm) (by repeat first | exact List.Mem.head _ | assumption | refine List.Mem.tail _ ?_) (by k_asm) (by k_asm) false (by kernel_rfl!) ?_)))
  k_with "setItem ref bytes" => ((k_here; k_dflt (refine' setB ?zzF ?zzN ?zzU ?zzd ?zzz ?_; (case zzF => k_asm); (case zzN => k_asm); (case zzU => k_updF); (case zzd => k_asm); (case zzz => (rw [sizeLine_eq]; exact Nat.le_of_ble_eq_true (by kernel_rfl)))); intro h' o' F' N' hd'; (try dsimp only at N')))
  k_with "subscriptTail" => ((k_here; (with_reducible show wpAny _ _ (subscriptTail _ _ (Value.ref _) (Value.bytes _ _)) _ _ _); k_dflt (refine itemB (by k_asm) (by repeat first | exact List.Mem.head _ | assumption | refine List.Mem.tail _ ?_) (by k_asm) (by first | rfl | with_unfolding_all rfl) ?_)))
  k_with "my_enterC" => ((refine wpAny_call ?_; k_dflt (refine' code_defC ?zzk1 ?zzk2 ?zzk3 ?zzk4 ?zzk5 ?zzkA ?zzkF ?zzkK ?zzk6 ?zzk7 ?zzk8 ?zzk9 ?zzkB ?zzkD ?_ ?zzc2 ?zzc3 ?zzc4; (case zzkA => exact rfl); (case zzkF => exact rfl); (case zzkK => first | exact rfl | assumption); (case zzk1 => k_asm); (case zzk2 => k_asm); (case zzk3 => k_asm); (case zzk4 => k_asm); (case zzk5 => k_asm); (case zzk6 => k_is); (case zzk7 => k_is); (case zzk8 => ktr_room); (case zzk9 => exact BindsTo.of_eq rfl); (case zzkB => exact rfl); (case zzkD => decide +kernel); (case zzc2 => exact rfl); (case zzc3 => exact rfl); (case zzc4 => exact rfl); k_whole; intro g' L' h' tk' cells' FG' F' N' Y' B' X' T' l1; (try k_lt l1); k_cells Y'; (try simp only [List.cons_append, List.nil_append] at N'); (try dsimp only); (try k_lift B'); (try k_fold))))
  k_with "call ref" => ((refine stop ?_))
  k_with "call ref" => ((k_here; k_dflt (refine' Calls.use (TwoC.up (octets_spec _ _ _ _ _ _ _ _ _ ?zzhI ?zzhz ?zzhbi) ?zzhne ?zzU1 ?zzU2) ?zzk1 ?zzk2 ?zzk3 ?zzk4 ?zzk5 ?zzkK ?zzkd ?zzku ?_; (case zzk1 => k_asm); (case zzk2 => k_asm); (case zzk3 => k_asm); (case zzk4 => k_asm); (case zzk5 => k_asm); (case zzkK => first | exact rfl | assumption); (case zzkd => ktr_room); (case zzku => ktr_units); (case zzU1 => k_updF); (case zzU2 => (intro o9; k_updF)); (case zzhI => assumption); (case zzhz => (first | assumption | omega)); (case zzhbi => k_ne); (case zzhne => k_ne)); (intro v9 n9 h9 tk9 hP F9 N9); (k_dflt (obtain ⟨oa9, ob9, ⟨b9, tb9, n9', tn9, cb9, vs9, ns9, ci9, e8, p1, ea, eb, I9, z9⟩, e9⟩ := hP)); (subst e8); (subst ea); (subst eb); (subst e9); (try dsimp only at N9); (have kp9 := keep_of N9 (by assumption)); (have hx9 : ∃ ks, KBw.bInts b9 = ks := ⟨_, rfl⟩); (obtain ⟨ks9, hks9⟩ := hx9); (rw [hks9] at p1); (try dsimp only); (try k_fold)))
  k_with "eval Lambda" => ((k_here; kn_here; k_dflt (refine' kla_eval ?zzd0 ?_; (case zzd0 => exact rfl)); k_dflt (refine' lam_any ?zzF ?zzN ?zzT ?zzC ?zzcd ?zzU ?zzhC ?zzhs ?zzha ?zzcl ?_; (case zzhC => assumption); (case zzF => k_asm); (case zzN => k_asm); (case zzT => k_asm); (case zzcd => exact rfl); (case zzC => kn_code); (case zzU => k_updF); (case zzhs => (intro q9 hq9; repeat first | exact hq9 | refine List.Mem.tail _ ?_)); (case zzha => walk_at "my_av"); (case zzcl => exact rfl); k_whole); intro f' c' oc' vs' t' ct' ps' h' tk' F' N' d1' d2' l1 hC'; (try dsimp only at N' l1)))
  k_with "my_av" => ((first | exact List.forall_mem_nil _ | (refine List.forall_mem_cons.mpr ⟨⟨_, by repeat first | exact List.Mem.head _ | refine List.Mem.tail _ ?_⟩, ?_⟩; walk_at "my_av")))
  k_with "call ref" => ((k_here; k_dflt (refine' heard_trailer2 _ ?zzk1 ?zzk2 ?zzk3 ?zzk4 ?zzk5 ?zzkK ?zzkd ?zzku ?zzhb ?zzhz ?zzhc ?zzhcd ?zzhcv ?zzlf ?zzl1 ?zzl2 ?_ ?_; (case zzk1 => k_asm); (case zzk2 => k_asm); (case zzk3 => k_asm); (case zzk4 => k_asm); (case zzk5 => k_asm); (case zzkK => first | exact rfl | assumption); (case zzkd => ktr_room); (case zzku => ktr_units); (case zzhb => first | assumption | rfl); (case zzhz => (first | assumption | omega)); (case zzhcd => assumption); (case zzhcv => assumption); (case zzlf => assumption); (case zzhc => exact List.Mem.head _); (case zzl1 => omega); (case zzl2 => omega)); (all_goals (intro q9 h9 tk9 F9 N9; (try dsimp only); (try k_fold)))))
  k_with "call ref" => ((k_here; k_dflt (refine' Calls.use (is_value_spec _ _ _ _ ?zzhb ?zzhz _) ?zzk1 ?zzk2 ?zzk3 ?zzk4 ?zzk5 ?zzkK ?zzkd ?zzku ?_; (case zzk1 => k_asm); (case zzk2 => k_asm); (case zzk3 => k_asm); (case zzk4 => k_asm); (case zzk5 => k_asm); (case zzkK => first | exact rfl | assumption); (case zzkd => ktr_room); (case zzku => ktr_units); (case zzhb => first | assumption | rfl); (case zzhz => (first | assumption | omega))); (intro v9 n9 h9 tk9 hP F9 N9); (obtain ⟨e8, e9⟩ := hP); (subst e8); (replace e9 := Eq.symm e9); (subst e9); (try dsimp only); (try k_fold)))
  k_with "call ref" => ((k_here; k_dflt (refine' Calls.use (is_word_spec _ _ _ _ ?zzhb ?zzhz _ _ _ rfl ?zzhm _) ?zzk1 ?zzk2 ?zzk3 ?zzk4 ?zzk5 ?zzkK ?zzkd ?zzku ?_; (case zzk1 => k_asm); (case zzk2 => k_asm); (case zzk3 => k_asm); (case zzk4 => k_asm); (case zzk5 => k_asm); (case zzkK => first | exact rfl | assumption); (case zzkd => ktr_room); (case zzku => ktr_units); (case zzhb => first | assumption | rfl); (case zzhz => (first | assumption | omega)); (case zzhm => decide +kernel)); (intro v9 n9 h9 tk9 hP F9 N9); (obtain ⟨e8, e9⟩ := hP); (subst e8); (replace e9 := Eq.symm e9); (subst e9); (try dsimp only); (try k_fold)))
  k_with "eval Dict" => ((k_here; k_dflt (refine' kdn_eval (knd := bytesKind _ _) ?zzF ?zzN ?zzb ?zza ?zzl ?zze ?zzn ?_; (case zzF => k_asm); (case zzN => k_asm); (case zzb => exact Top.nolimit (by k_asm)); (case zza => rfl); (case zzl => rfl); (case zze => exact List.cons_ne_nil _ _); (case zzn => exact Nat.le_of_ble_eq_true rfl)); intro d' h' o' F' N' l1 lo' hd'; (have l1r := l1); (try k_lt l1)))
  k_with "KdnMade" => ((k_here; k_dflt (refine' madeB ?zzF ?zzN ?zzU ?zzd ?zzk ?zzn ?_; (case zzF => k_asm); (case zzN => k_asm); (case zzU => k_updF); (case zzd => k_asm); (case zzk => rfl); (case zzn => exact of_decide_eq_true (by first | rfl | kernel_rfl!))); intro h' o' F' N' hd'; (try dsimp only at N')))
  k_with "exec If" => ((k_here; k_dflt (refine' cut_i ?zzK ?zzF ?_ ?_; (case zzK => assumption); (case zzF => k_asm)); (all_goals first | (intro h9 tk9 ps9 rest9 F9 N9 hC9; (simp only [List.cons_append, List.nil_append] at N9); (try dsimp only); (try k_fold)) | ((rename Keep _ _ _ _ => kp8); clear kp8))))
  k_with "CutI" => ((k_dflt (refine ⟨rfl, _, _, _, _, rfl, ?_, ?_, (by assumption)⟩); (first | k_asm | skip); (simp only [List.cons_append, List.nil_append]); (refine cb_drop (by assumption) ?_); walk_at "my_sub"))
  k_with "my_sub" => ((first | (refine List.forall_mem_cons.mpr ⟨(by repeat first | exact List.Mem.head _ | refine List.Mem.tail _ ?_), ?_⟩; walk_at "my_sub") | (intro p9 hp9; repeat first | exact hp9 | refine List.Mem.tail _ ?_)))
  k_with "eval IfExp" => ((k_here; k_dflt (refine' cut_due ?zzF ?zzN ?zzho ?zzhm ?zzhk ?zzb1 ?zzb2 ?_ ?_; (case zzF => k_asm); (case zzN => k_asm); (case zzho => assumption); (case zzhm => (repeat first | exact List.Mem.head _ | refine List.Mem.tail _ ?_)); (case zzhk => rfl); (case zzb1 => first | assumption | rfl); (case zzb2 => first | assumption | rfl)); (all_goals first | (intro v9 h9 tk9 hv9 F9 N9 ho9; (try dsimp only); (try k_fold)) | ((rename Obj.IsDictOf _ _ _ => hd8); clear hd8))))
  k_with "CutV" => ((k_dflt (refine ⟨_, _, rfl, ?_, ?_, ?_⟩); (k_asm); (k_asm); (k_dflt (first | exact due_told (dueM (by assumption)) | exact due_270 (dueM (by assumption)) | exact due_270 (dueS0 (by assumption)) | exact due_told (dueS1a (by assumption) (by assumption) (by assumption) (by assumption)) | exact due_270 (dueS1b (by assumption) (by assumption) (by assumption) (by assumption))))))
  k_with "call ref" => ((k_here; k_dflt (refine' heard_request _ _ _ ?zzk1 ?zzk2 ?zzk3 ?zzk4 ?zzk5 ?zzkK ?zzkd ?zzku ?zzb1 ?zzhz1 ?zzb2 ?zzhz2 ?zzhc ?zzhcd ?zzhcv ?zzlf ?zzll ?zzl1 ?zzl2 ?zzl3 ?zzl4 ?_ ?_; (case zzk1 => k_asm); (case zzk2 => k_asm); (case zzk3 => k_asm); (case zzk4 => k_asm); (case zzk5 => k_asm); (case zzkK => first | exact rfl | assumption); (case zzkd => ktr_room); (case zzku => ktr_units); (case zzb1 => first | assumption | rfl); (case zzb2 => first | assumption | rfl); (case zzhz1 => (first | assumption | omega | decide +kernel)); (case zzhz2 => (first | assumption | omega | decide +kernel)); (case zzhcd => assumption); (case zzhcv => assumption); (case zzlf => assumption); (case zzhc => exact List.Mem.head _); (case zzll => assumption); (case zzl1 => assumption); (case zzl2 => assumption); (case zzl3 => assumption); (case zzl4 => assumption)); (all_goals first | (intro q9 d9 o9 h9 tk9 lo9 ho9 F9 N9; (have ev9 := due_is1 (by assumption) q9); (subst ev9); (try dsimp only); (try k_fold)) | (intro q9 h9 tk9 F9 N9; (have ev8 := due_is2 (by assumption) q9); (obtain ⟨t9, ev9⟩ := ev8); (subst ev9); (try dsimp only); (try k_fold)))))
  k_with "getMethod ref" => ((k_here; (with_reducible show wpAny _ _ (getMethod (Value.ref _) (Str.ofString "items") _) _ _ _); k_dflt (refine kdl_method (knd := bytesKind _ _) PySem.F.slot_dict_items PySem.F.type_dict_items (by k_asm) (by (repeat first | exact List.Mem.head _ | refine List.Mem.tail _ ?_)) (by assumption) ?_)))
  k_with "call builtin:dict.items" => ((k_here; (with_reducible show wpAny _ _ (call (Value.builtin "dict.items") [Value.ref _]) _ _ _); k_dflt (refine kdx_view (knd := bytesKind _ _) (by k_asm) (by k_asm) (by (repeat first | exact List.Mem.head _ | refine List.Mem.tail _ ?_)) (by assumption) (by assumption) ?_); intro D' h' F' N' l1))
  k_with "call type:list" => ((k_here; (with_reducible show wpAny _ _ (call (Value.type "list") [Value.ref _]) _ _ _); k_dflt (refine' listB4 ?zzhh ?zzF ?zzN ?zzhm ?zzho ?_; (case zzhh => rfl); (case zzF => k_asm); (case zzN => k_asm); (case zzhm => (repeat first | exact List.Mem.head _ | refine List.Mem.tail _ ?_)); (case zzho => assumption)); intro B' a1 a2 a3 a4 t1 t2 t3 t4 c' h' tk' l9 l1 l2 l3 l4 F' N'; (have l0 := l9 _ (List.Mem.head _)); (dsimp only at l0)))
  k_with "compareOp NotEq ref ref" => ((k_here; k_dflt (refine' neB ?zzN ?zzha ?zzhb ?zzla ?zzlb ?zzho ?zzho2 ?zznd ?zzhu ?_; (case zzN => k_asm); (case zzha => (repeat first | exact List.Mem.head _ | refine List.Mem.tail _ ?_)); (case zzhb => (repeat first | exact List.Mem.head _ | refine List.Mem.tail _ ?_)); (case zzla => assumption); (case zzlb => assumption); (case zzho => assumption); (case zzho2 => assumption); (case zznd => decide +kernel); (case zzhu => ktr_units)); (try dsimp only)))
  k_with "getMethod bytes" => ((k_here; (with_reducible show wpAny _ _ (getMethod (Value.bytes _ _) (Str.ofString "strip") _) _ _ _); (with_reducible refine strip_method ?_)))
  k_with "call builtin:bytes.strip" => ((k_here; k_dflt (refine' strip_call ?zzz ?_; (case zzz => exact slice_size (by assumption) (by assumption))); intro b9 t9 k9 hs9; (try dsimp only); (try k_fold)))
  k_with "TurnO" => ((k_dflt (refine' law_end ?zzF ?zzhm ?zzN ?zzhC ?zze1 ?zze2 ?zze3 ?zzhJ ?zzhz; (case zzF => k_asm); (case zzN => k_asm); (case zzhC => assumption); (case zze1 => assumption); (case zze2 => assumption); (case zze3 => assumption); (case zzhJ => assumption); (case zzhz => assumption); (case zzhm => (intro y9 hy9; (try dsimp only); repeat (rw [if_neg (fun e => hy9 (by rw [e]; decide))]))))))
  k_with "pyIter ref" => ((k_dflt (k_extra "my_loop")))
  k_with "GrownAll" => ((k_dflt (exact ⟨GrownAt.of (by assumption) (List.Mem.head _), trivial⟩)))
  k_with "compareOp NotEq ref int" => ((refine stop ?_))
  k_go0
  all_goals try k_fold
  k_with "my_loop" => (
    refine' loop_law "law.<locals>.<lambda>" ?hr ?hh ?F ?N ?m1 ?m2 ?m3 ?hI ?hz ?_ ?_
    (case hr => assumption)
    (case hh => rfl)
    (case F => k_asm)
    (case N => k_asm)
    (case m1 => exact List.Mem.head _)
    (case m2 => exact List.Mem.tail _ (List.Mem.head _))
    (case m3 => exact List.Mem.tail _ (List.Mem.tail _ (List.Mem.tail _ (List.Mem.head _))))
    (case hI => assumption)
    (case hz => omega)
    all_goals first | (intro tv i f n tn cb vs ns ci ps rest I oI h tk hI9 hz9 hC9 ne1 ne2 ne3 F' N'; have ne4 := Ne.symm ne1; have ne5 := Ne.symm ne2; have ne6 := Ne.symm ne3; dsimp only) | (intro h tk f n tn cb vs ci ps rest F' N'; dsimp only))
  k_steps
  done)
end SL
end Mine
theorem PySem.Challenge.cw_pf0251_01_holds : PySem.Challenge.rw_pf0251_01.Holds :=
  Mine.law_holds
