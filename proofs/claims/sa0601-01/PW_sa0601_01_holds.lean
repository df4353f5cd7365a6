import PyProof.Rows.All
import Wide.All
import OpenK.AllK
import Wide.FinOn
import Lean
import PySem.Challenge.RW_sa0601_01
open PySem PySem.W PyProof.Rows
set_option Elab.async false
namespace Mine
-- the text's own objects, written out: the constant k0.heap_1
section
local macro_rules | `(tactic| o_head $_) => `(tactic| assumption)
set_option maxRecDepth 100000 in
set_option maxHeartbeats 8000000 in
theorem k0 (h : PySem.Challenge.rw_sa0601_01.row.Holds) : PySem.Challenge.rw_sa0601_01.row.Holds := by k_head
end
section
open PySem PySem.W PyProof.Rows PyProof.V PySem.Calls PySem.SeqAt

abbrev tupO (vs : List Value) (n : Nat) : Obj := ⟨.type "tuple", none, .seq vs.toArray n, #[]⟩

/-- what a host's dict holds beside its steps -/
structure HD where
  h1 : Int
  h2 : Int
  h3 : Int
  h4 : Int
  h5 : Int
  h6 : Int
  t1 : Tok
  t2 : Tok
  t3 : Tok
  t4 : Tok
  t5 : Tok
  t6 : Tok
  V : Addr
  R : Addr
  G : Addr
  tl : Tok
  tw : Tok

abbrev hostD (d : HD) (k : Int) (tk : Tok) : Obj := dictOf [⟨d.h1, .str (Str.ofString "values") d.t1, .ref d.V⟩, ⟨d.h2, .str (Str.ofString "limit") d.t2, .int 99999 d.tl⟩, ⟨d.h3, .str (Str.ofString "refused") d.t3, .ref d.R⟩, ⟨d.h4, .str (Str.ofString "width") d.t4, .int 64 d.tw⟩, ⟨d.h5, .str (Str.ofString "steps") d.t5, .int k tk⟩, ⟨d.h6, .str (Str.ofString "log") d.t6, .ref d.G⟩] 6

theorem news_ne {h₀ h : Heap} {L a b : Addr} {o o' : Obj} {news : List (Addr × Obj)} (N : News h₀ L h news) (h1 : (a, o) ∈ news) (h2 : (b, o') ∈ news) (hc : o.cls ≠ o'.cls) : a ≠ b := by
  intro e
  subst e
  have q1 := (N _ h1).1
  have q2 := (N _ h2).1
  rw [q1] at q2
  cases q2
  exact hc rfl

theorem tup_dict : Value.type "tuple" ≠ Value.type "dict" := by decide
theorem tup_list : Value.type "tuple" ≠ Value.type "list" := by decide
theorem list_dict : Value.type "list" ≠ Value.type "dict" := by decide
theorem dict_list : Value.type "dict" ≠ Value.type "list" := by decide
theorem ref_dict {a : Addr} : Value.ref a ≠ Value.type "dict" := nofun
theorem ref_list {a : Addr} : Value.ref a ≠ Value.type "list" := nofun
/-- what a call keeps: all but the objects at ds -/
def KeepBut (h h' : Heap) (ds : List Addr) : Prop := ∀ b o, h.get? b = some o → b ∉ ds → h'.get? b = some o

theorem keep_of {h g' h' h₀ : Heap} {L L' L₂ : Addr} {m' : Str → Option Value} {led led' : List (Addr × Obj)} {ds : List Addr} (kG : GSub h g' (led.map (·.1))) (F' : Fr g' L' h' m') (N₀ : News h₀ L h led)
    (N' : News h₀ L₂ h' led') (sub : ∀ p ∈ led, p.1 ∈ ds ∨ p ∈ led') : KeepBut h h' ds := by
  intro b o e hb
  by_cases hm : b ∈ led.map (·.1)
  · obtain ⟨p, hp, rfl⟩ := List.mem_map.mp hm
    have h1 := (N₀ p hp).1
    rw [e] at h1
    cases h1
    rcases sub p hp with q | q
    · exact absurd q hb
    · exact (N' p q).1
  · exact F'.keep b o (kG b o e hm)

/-- the caller's ledger behind a call that turned one object -/
theorem news_set {h₀ h h' : Heap} {L d : Addr} {o o' : Obj} {news news' : List (Addr × Obj)} (N : News h₀ L h news) (K : KeepBut h h' [d]) (e : h'.get? d = some o') (U : Upd d o o' news news') : News h₀ L h' news' := by
  obtain ⟨pre, post, rfl, rfl, h1, h2⟩ := U.split
  intro p hp
  rcases List.mem_append.mp hp with q | q
  · have P := N p (List.mem_append_left _ q)
    exact ⟨K _ _ P.1 (by simpa using h1 p q), P.2⟩
  · rcases List.mem_cons.mp q with rfl | q
    · exact ⟨e, (N (d, o) (by simp)).2⟩
    · have P := N p (List.mem_append_right _ (.tail _ q))
      exact ⟨K _ _ P.1 (by simpa using h2 p q), P.2⟩
theorem news_same {h₀ h h' : Heap} {L : Addr} {news : List (Addr × Obj)} (N : News h₀ L h news) (K : KeepBut h h' []) : News h₀ L h' news :=
  fun p hp => ⟨K _ _ (N p hp).1 (by simp), (N p hp).2⟩
/-- the objects that a call has made -/
def Made (h₀ : Heap) (L : Addr) (h : Heap) (l : List (Addr × Obj)) : Prop := News h₀ L h l
theorem made {h₀ h : Heap} {L : Addr} {l : List (Addr × Obj)} (N : News h₀ L h l) : Made h₀ L h l := N
theorem news_app {h₀ h : Heap} {L : Addr} {a b : List (Addr × Obj)} (N : Made h₀ L h a) (M : News h₀ L h b) : News h₀ L h (a ++ b) := fun p hp => by
  rcases List.mem_append.mp hp with q | q
  · exact N p q
  · exact M p q
theorem news_cons {h₀ h : Heap} {L : Addr} {a l : List (Addr × Obj)} {p : Addr × Obj} (N : News h₀ L h a) (hm : p ∈ a) (r : News h₀ L h l) : News h₀ L h (p :: l) := fun q hq => by
  rcases List.mem_cons.mp hq with rfl | hq
  · exact N _ hm
  · exact r q hq
theorem push_at {h : Heap} {P : Addr} {its : List Value} {v : Value} {n : Nat} (e : h.get? P = some (W.listOf (its.toArray.push v) n)) : h.get? P = some (W.listOf (its ++ [v]).toArray n) := by simpa using e
abbrev Lt (a b : Nat) : Prop := a < b
theorem news_sub {h₀ h : Heap} {L : Addr} {a b : List (Addr × Obj)} (N : News h₀ L h a) (hs : ∀ p ∈ b, p ∈ a) : News h₀ L h b := fun p hp => N p (hs p hp)

/-- the contract of a def: its arguments, its room, the objects that it wants, what it gives back -/
def Ctr (w : World) (f : Addr) (vs : List Value) (nd nu : Nat) (led : List (Addr × Obj)) (Ret : Heap → Heap → Addr → Value → Heap → Prop) : Prop :=
  ∀ (p : Program) (loose : List Str) (mean : ExcName → Option Value) (mg mb : Str → Option Value)
    (dp un : Nat) (gd : Option (List Code)) (cn : Str) (cs : Scope) (a : Addr) (ccd : Value) (cl : List (Str × Addr)) (outer : List Env) (A₀ : Around) (base h₀ : Heap) (L : Addr) (m : Str → Option Value) (s : Shared) (Q E : Value → Shared → Prop),
    Below A₀ base outer h₀ → Fr h₀ L s.heap m → (k0.heap_1 w.params).In h₀ → Top p loose mean mg mb h₀ → cs.kind = .function → dp + nd < recursionLimit → un + nu < cLine → News h₀ L s.heap led →
    (∀ v h' tk', Fr h₀ L h' m → Ret s.heap h₀ L v h' → Q v { s with heap := h', toks := tk' }) →
    wpAny (model PySem.Challenge.rw_sa0601_01.row.prog w) (ktrTop dp un gd cn cs L a ccd cl outer) (call (.ref f) vs) Q E s

theorem Ctr.use {w : World} {f : Addr} {vs : List Value} {nd nu : Nat} {led : List (Addr × Obj)} {Ret : Heap → Heap → Addr → Value → Heap → Prop} (C : Ctr w f vs nd nu led Ret)
    {p : Program} {loose : List Str} {mean : ExcName → Option Value} {mg mb : Str → Option Value}
    {dp un : Nat} {gd : Option (List Code)} {cn : Str} {cs : Scope} {a : Addr} {ccd : Value} {cl : List (Str × Addr)} {outer : List Env} {A₀ : Around} {base h₀ : Heap} {L : Addr} {m : Str → Option Value} {s : Shared} {Q E : Value → Shared → Prop}
    (N : News h₀ L s.heap led)
    (ret : ∀ v h' tk', Fr h₀ L h' m → Ret s.heap h₀ L v h' → Q v { s with heap := h', toks := tk' })
    (B : Below A₀ base outer h₀ := by k_asm) (F : Fr h₀ L s.heap m := by k_asm) (X : (k0.heap_1 w.params).In h₀ := by k_asm) (T : Top p loose mean mg mb h₀ := by k_asm) (hk : cs.kind = .function := by first | exact rfl | assumption) (hd : dp + nd < recursionLimit := by k_room) (hu : un + nu < cLine := by k_units) :
    wpAny (model PySem.Challenge.rw_sa0601_01.row.prog w) (ktrTop dp un gd cn cs L a ccd cl outer) (call (.ref f) vs) Q E s := C _ _ _ _ _ _ _ _ _ _ _ _ _ _ _ _ _ _ _ _ _ _ B F X T hk hd hu N ret

theorem Ctr.use0 {w : World} {f : Addr} {vs : List Value} {nd nu : Nat} {led : List (Addr × Obj)} {Ret : Heap → Heap → Addr → Value → Heap → Prop} (C : Ctr w f vs nd nu led Ret)
    {p : Program} {loose : List Str} {mean : ExcName → Option Value} {mg mb : Str → Option Value}
    {dp un : Nat} {gd : Option (List Code)} {cn : Str} {cs : Scope} {a : Addr} {ccd : Value} {cl : List (Str × Addr)} {outer : List Env} {A₀ : Around} {base h₀ : Heap} {L : Addr} {m : Str → Option Value} {s : Shared} {Q E : Value → Shared → Prop}
    (B : Below A₀ base outer h₀) (F : Fr h₀ L s.heap m) (X : (k0.heap_1 w.params).In h₀) (T : Top p loose mean mg mb h₀) (hk : cs.kind = .function) (hd : dp + nd < recursionLimit) (hu : un + nu < cLine) (N : News h₀ L s.heap led)
    (ret : ∀ v h' tk', Fr h₀ L h' m → Ret s.heap h₀ L v h' → Q v { s with heap := h', toks := tk' }) :
    wpAny (model PySem.Challenge.rw_sa0601_01.row.prog w) (ktrTop dp un gd cn cs L a ccd cl outer) (call (.ref f) vs) Q E s := C _ _ _ _ _ _ _ _ _ _ _ _ _ _ _ _ _ _ _ _ _ _ B F X T hk hd hu N ret

theorem tup_eq_str {prog : Program} {w : World} {A : Around} {E : Value → Shared → Prop} {s : Shared} {h₀ : Heap} {L : Addr} {news : List (Addr × Obj)} {l : Addr} {vs : Array Value} {n : Nat} {b : Str} {u : Tok} {Q : Value → Shared → Prop}
    (N : News h₀ L s.heap news) (hm : (l, (⟨.type "tuple", none, .seq vs n, #[]⟩ : Obj)) ∈ news) (hu : A.units < cLine) (h : Q (.bool false) s) : wpAny (model prog w) A (compareOp .Eq (.ref l) (.str b u)) Q E s :=
  cmp_ofEq (RcAt.tuple_str b u ⟨_, (N _ hm).1, rfl, n, rfl⟩ hu prog w E Q h)
/-- does one of the three falls stand at b -/
def hitAt (x : Str) (b : Int) : Bool := (Txt.slice x (some b) (some (b + ((Str.ofString "ba").length : Int))) == Str.ofString "ba") || (Txt.slice x (some b) (some (b + ((Str.ofString "ca").length : Int))) == Str.ofString "ca") || (Txt.slice x (some b) (some (b + ((Str.ofString "cb").length : Int))) == Str.ofString "cb")
theorem hit1 {x : Str} {b : Int} (h : (Txt.slice x (some b) (some (b + ((Str.ofString "ba").length : Int))) == Str.ofString "ba") = true) : hitAt x b = true := by unfold hitAt; rw [h]; rfl
theorem hit2 {x : Str} {b : Int} (h : (Txt.slice x (some b) (some (b + ((Str.ofString "ca").length : Int))) == Str.ofString "ca") = true) : hitAt x b = true := by unfold hitAt; rw [h, Bool.or_true]; rfl
theorem hit3 {x : Str} {b : Int} (h : (Txt.slice x (some b) (some (b + ((Str.ofString "cb").length : Int))) == Str.ofString "cb") = true) : hitAt x b = true := by unfold hitAt; rw [h, Bool.or_true]
theorem nohit {x : Str} {b : Int} (h1 : (Txt.slice x (some b) (some (b + ((Str.ofString "ba").length : Int))) == Str.ofString "ba") = false) (h2 : (Txt.slice x (some b) (some (b + ((Str.ofString "ca").length : Int))) == Str.ofString "ca") = false)
    (h3 : (Txt.slice x (some b) (some (b + ((Str.ofString "cb").length : Int))) == Str.ofString "cb") = false) : hitAt x b = false := by unfold hitAt; rw [h1, h2, h3]; rfl
theorem len_ba : (Str.ofString "ba").length = 2 := by decide +kernel
theorem len_ca : (Str.ofString "ca").length = 2 := by decide +kernel
theorem len_cb : (Str.ofString "cb").length = 2 := by decide +kernel
theorem add_ba (b : Int) : b + ((Str.ofString "ba").length : Int) = b + 2 := by rw [len_ba]; rfl
theorem add_ca (b : Int) : b + ((Str.ofString "ca").length : Int) = b + 2 := by rw [len_ca]; rfl
theorem add_cb (b : Int) : b + ((Str.ofString "cb").length : Int) = b + 2 := by rw [len_cb]; rfl
def allStr (l : List Value) : Bool := l.all fun v => match v with
  | .str _ _ => true
  | _ => false
theorem allStr_are {l : List Value} (h : allStr l = true) : StrsAre l (l.map strOf) := strsAre_map l fun v hv => by
  have := List.all_eq_true.mp h v hv
  cases v <;> simp_all
theorem notin_K {prog : Program} {w : World} {A : Around} {E : Value → Shared → Prop} {s : Shared} {K : Frag} {h₀ : Heap} {L a : Addr} {m : Str → Option Value} {l : List Value} {n : Nat} {x : Str} {u : Tok} {dd : Option Addr} {sl : Array (Option Value)} {Q : Value → Shared → Prop}
    (F : Fr h₀ L s.heap m) (X₀ : K.In h₀) (hl : K.lookup a = some ⟨.type "tuple", dd, .seq l.toArray n, sl⟩) (hi : allStr l = true) (hb : (!((l.map strOf).any (· == x))) = true) (h : Q (.bool true) s) :
    wpAny (model prog w) A (compareOp .NotIn (.str x u) (.ref a)) Q E s :=
  notin_tuple_strs (tupK (X₀.keeps F.keep) hl) (by simpa using allStr_are hi) (by rw [hb]; exact h)

end
section
open PySem PySem.Builtin.Str PySem.W PyProof.Rows PyProof.V
theorem slice_run (x : Str) (a b : Nat) (hab : a ≤ b) (hb : b ≤ x.length) : (Txt.slice x (some (a : Int)) (some (b : Int))).cps.toList = (x.cps.toList.drop a).take (b - a) := by
  unfold Txt.slice
  split
  · rename_i h
    rw [StrLaws.strSliceIndices_plain hab hb] at h
    simp at h
    have hl : x.cps.toList.length = x.length := by simp [Str.length]
    have : a = 0 := by omega
    subst this
    rw [List.drop_zero, List.take_of_length_le (by omega)]
  · show (List.filterMap _ _).toArray.toList = _
    rw [StrLaws.sliced_plain x hab hb]
theorem idx_lo (b : Int) (n : Nat) : strSliceIndices none (some b) 1 n = strSliceIndices (some ((0 : Nat) : Int)) (some b) 1 n := by
  have e : max (0 : Int) (min 0 (n : Int)) = 0 := by omega
  simp [strSliceIndices, e]
theorem idx_hi (a n : Nat) (h : a ≤ n) : strSliceIndices (some (a : Int)) none 1 n = strSliceIndices (some (a : Int)) (some (n : Int)) 1 n := by
  have h1 : ¬ ((n : Int) < 0) := by omega
  simp [strSliceIndices, h1]
theorem slice_lo (x : Str) (b : Int) : Txt.slice x none (some b) = Txt.slice x (some ((0 : Nat) : Int)) (some b) := by
  unfold Txt.slice
  rw [idx_lo]
theorem slice_hi (x : Str) (a : Nat) (h : a ≤ x.length) : Txt.slice x (some (a : Int)) none = Txt.slice x (some (a : Int)) (some (x.length : Int)) := by
  unfold Txt.slice
  rw [idx_hi a x.length h]
theorem slice_upto (x : Str) (b : Nat) (hb : b ≤ x.length) : (Txt.slice x none (some (b : Int))).cps.toList = x.cps.toList.take b := by
  rw [slice_lo, slice_run x 0 b (Nat.zero_le _) hb]; simp
theorem slice_from (x : Str) (a : Nat) (ha : a ≤ x.length) : (Txt.slice x (some (a : Int)) none).cps.toList = x.cps.toList.drop a := by
  rw [slice_hi x a ha, slice_run x a x.length ha (Nat.le_refl _)]
  exact List.take_of_length_le (by simp [Str.length])
theorem idx_clip (a n : Nat) (b : Int) (hb : (n : Int) ≤ b) : strSliceIndices (some (a : Int)) (some b) 1 n = strSliceIndices (some (a : Int)) (some (n : Int)) 1 n := by
  have h1 : ¬ (b < 0) := by omega
  have h2 : ¬ ((n : Int) < 0) := by omega
  have e1 : min b (n : Int) = n := by omega
  simp only [strSliceIndices, h1, h2, if_false, e1, Int.min_self, show ((1 : Int) > 0) = True from by simp, if_true]
theorem slice_clip (x : Str) (a : Nat) (b : Int) (hb : (x.length : Int) ≤ b) : Txt.slice x (some (a : Int)) (some b) = Txt.slice x (some (a : Int)) (some (x.length : Int)) := by
  unfold Txt.slice
  rw [idx_clip a x.length b hb]
theorem slice_two (x : Str) (k : Nat) (hk : k ≤ x.length) : (Txt.slice x (some (k : Int)) (some ((k : Int) + 2))).cps.toList = (x.cps.toList.drop k).take 2 := by
  have hl : x.cps.toList.length = x.length := by simp [Str.length]
  by_cases h : k + 2 ≤ x.length
  · have := slice_run x k (k + 2) (by omega) h
    rw [show (((k + 2 : Nat)) : Int) = (k : Int) + 2 by omega] at this
    rw [this]
    congr 1
    omega
  · rw [slice_clip x k _ (by omega), slice_run x k x.length hk (Nat.le_refl _)]
    rw [List.take_of_length_le (by rw [List.length_drop]; omega), List.take_of_length_le (by rw [List.length_drop]; omega)]
theorem str_of {x y : Str} (h : x.cps.toList = y.cps.toList) : x = y := Str.ext' (Array.toList_inj.mp h)
theorem length_list (x : Str) : x.length = x.cps.toList.length := by simp [Str.length]

end
section
open PySem PySem.Builtin.Str PySem.W PyProof.Rows PyProof.V
def fallP (p q : Nat) : Prop := (p = 98 ∧ q = 97) ∨ (p = 99 ∧ q = 97) ∨ (p = 99 ∧ q = 98)
theorem cps_ba : (Str.ofString "ba").cps.toList = [98, 97] := by decide +kernel
theorem cps_ca : (Str.ofString "ca").cps.toList = [99, 97] := by decide +kernel
theorem cps_cb : (Str.ofString "cb").cps.toList = [99, 98] := by decide +kernel
theorem str_iff {x y : Str} : x = y ↔ x.cps.toList = y.cps.toList := ⟨fun h => by rw [h], str_of⟩
theorem take_two {l : List Nat} {p q : Nat} : l.take 2 = [p, q] ↔ ∃ r, l = p :: q :: r := by
  match l with
  | [] => simp
  | [a] => simp
  | a :: b :: r => simp
theorem hit_iff (x : Str) (k : Nat) (hk : k ≤ x.length) : hitAt x (k : Int) = true ↔ ∃ p q r, x.cps.toList.drop k = p :: q :: r ∧ fallP p q := by
  unfold hitAt
  rw [add_ba, add_ca, add_cb]
  simp only [Bool.or_eq_true, beq_iff_eq, str_iff, cps_ba, cps_ca, cps_cb, slice_two x k hk, take_two]
  constructor
  · rintro ((⟨r, h⟩ | ⟨r, h⟩) | ⟨r, h⟩)
    · exact ⟨_, _, r, h, .inl ⟨rfl, rfl⟩⟩
    · exact ⟨_, _, r, h, .inr (.inl ⟨rfl, rfl⟩)⟩
    · exact ⟨_, _, r, h, .inr (.inr ⟨rfl, rfl⟩)⟩
  · rintro ⟨p, q, r, h, (⟨rfl, rfl⟩ | ⟨rfl, rfl⟩ | ⟨rfl, rfl⟩)⟩
    · exact .inl (.inl ⟨r, h⟩)
    · exact .inl (.inr ⟨r, h⟩)
    · exact .inr ⟨r, h⟩

end
section
open PySem PySem.Builtin.Str PySem.W PyProof.Rows PyProof.V
def revS (y : Str) : Str := ⟨y.cps.reverse⟩
/-- one fall turned about: the first one from the front -/
def Step (X X' : Str) : Prop := ∃ (b c : Int) (y : Str), (0 ≤ b ∧ b ≤ X.length) ∧ (∀ b' : Int, 0 ≤ b' → b' < b → hitAt X b' = false) ∧ hitAt X b = true ∧ c = b + 2 ∧ Txt.slice X (some b) (some c) = y ∧
  (y = Str.ofString "ba" ∨ y = Str.ofString "ca" ∨ y = Str.ofString "cb") ∧ X' = Txt.slice X none (some b) ++ revS y ++ Txt.slice X (some c) none
def NoHit (X : Str) : Prop := ∀ b : Int, 0 ≤ b → b ≤ X.length → hitAt X b = false
inductive Steps (x : Str) : Nat → Str → Prop
  | zero : Steps x 0 x
  | succ {n : Nat} {X X' : Str} : Steps x n X → Step X X' → Steps x (n + 1) X'
theorem step_list {X X' : Str} (h : Step X X') : ∃ A p q R, X.cps.toList = A ++ p :: q :: R ∧ fallP p q ∧ X'.cps.toList = A ++ q :: p :: R := by
  obtain ⟨b, c, y, ⟨h0, h1⟩, _, hh, rfl, hy, _, rfl⟩ := h
  obtain ⟨k, rfl⟩ := Int.eq_ofNat_of_zero_le h0
  have hk : k ≤ X.length := by omega
  obtain ⟨p, q, r, hd, hf⟩ := (hit_iff X k hk).mp hh
  have hl : X.cps.toList.length = X.length := by simp [Str.length]
  have hlen : k + 2 ≤ X.length := by
    have := congrArg List.length hd
    rw [List.length_drop] at this
    simp only [List.length_cons] at this
    omega
  have hyl : y.cps.toList = [p, q] := by
    rw [← hy, slice_two X k hk, hd]; rfl
  have hr : (revS y).cps.toList = [q, p] := by
    show y.cps.reverse.toList = _
    rw [Array.toList_reverse, hyl]; rfl
  refine ⟨X.cps.toList.take k, p, q, r, ?_, hf, ?_⟩
  · rw [← hd, List.take_append_drop]
  · rw [Str.cps_append, Str.cps_append, Array.toList_append, Array.toList_append, slice_upto X k hk, hr]
    rw [show ((k : Int) + 2) = ((k + 2 : Nat) : Int) by omega, slice_from X (k + 2) hlen]
    have : X.cps.toList.drop (k + 2) = r := by
      rw [Nat.add_comm, ← List.drop_drop]
      have h2 : X.cps.toList.drop (k + 2) = (X.cps.toList.drop k).drop 2 := by rw [List.drop_drop]
      rw [List.drop_drop]
      rw [show 2 + k = k + 2 by omega] 
      rw [h2, hd]; rfl
    rw [this]; simp
theorem step_len {X X' : Str} (h : Step X X') : X'.length = X.length := by
  obtain ⟨A, p, q, R, h1, _, h2⟩ := step_list h
  rw [length_list, length_list, h1, h2]; simp
theorem nohit_list {X : Str} (h : NoHit X) : ∀ A p q R, X.cps.toList = A ++ p :: q :: R → ¬ fallP p q := by
  intro A p q R e hf
  have hl : X.cps.toList.length = X.length := by simp [Str.length]
  have hA : A.length ≤ X.length := by rw [← hl, e]; simp
  have := h (A.length : Int) (by omega) (by omega)
  have h2 := (hit_iff X A.length hA).mpr ⟨p, q, R, by rw [e]; simp, hf⟩
  rw [this] at h2
  cases h2

end
section
open PySem PySem.Builtin.Str PySem.W PyProof.Rows PyProof.V
/-- pairs of which the first one is the greater -/
def inv : List Nat → Nat
  | [] => 0
  | a :: r => (r.filter (fun b => decide (b < a))).length + inv r
theorem inv_swap (p q : Nat) (R : List Nat) (h : q < p) : ∀ A : List Nat, inv (A ++ p :: q :: R) = inv (A ++ q :: p :: R) + 1
  | [] => by
    have h1 : ¬ p < q := by omega
    simp only [List.nil_append, inv, List.filter_cons, h, h1, decide_true, decide_false, if_true, List.length_cons, Bool.false_eq_true, if_false]
    omega
  | a :: A => by
    have ih := inv_swap p q R h A
    have hp : (A ++ p :: q :: R).Perm (A ++ q :: p :: R) := (List.Perm.swap q p R).append_left A
    have hl := (hp.filter (fun b => decide (b < a))).length_eq
    simp only [List.cons_append, inv]
    omega
def abc (l : List Nat) : Prop := ∀ c ∈ l, c = 97 ∨ c = 98 ∨ c = 99
theorem fall_lt {p q : Nat} (h : fallP p q) : q < p := by
  rcases h with ⟨rfl, rfl⟩ | ⟨rfl, rfl⟩ | ⟨rfl, rfl⟩ <;> decide
theorem step_inv {X X' : Str} (h : Step X X') : inv X.cps.toList = inv X'.cps.toList + 1 ∧ X'.cps.toList.Perm X.cps.toList := by
  obtain ⟨A, p, q, R, h1, hf, h2⟩ := step_list h
  rw [h1, h2]
  exact ⟨inv_swap p q R (fall_lt hf) A, (List.Perm.swap p q R).append_left A⟩
theorem steps_inv {x X : Str} {n : Nat} (h : Steps x n X) : inv x.cps.toList = inv X.cps.toList + n ∧ X.cps.toList.Perm x.cps.toList ∧ X.length = x.length := by
  induction h with
  | zero => exact ⟨rfl, .refl _, rfl⟩
  | succ _ st ih =>
    obtain ⟨a, b⟩ := step_inv st
    exact ⟨by omega, b.trans ih.2.1, (step_len st).trans ih.2.2⟩
theorem sorted_of_nofall : ∀ (l : List Nat), abc l → (∀ A p q R, l = A ++ p :: q :: R → ¬ fallP p q) → l.Pairwise (· ≤ ·)
  | [], _, _ => .nil
  | [a], _, _ => List.pairwise_singleton _ _
  | a :: b :: r, hl, h => by
    have ih := sorted_of_nofall (b :: r) (fun c hc => hl c (.tail _ hc)) fun A p q R e => h (a :: A) p q R (by rw [e]; rfl)
    have hab : a ≤ b := by
      have h0 := h [] a b r rfl
      have ha := hl a (.head _)
      have hb := hl b (.tail _ (.head _))
      unfold fallP at h0
      omega
    refine List.pairwise_cons.mpr ⟨fun c hc => ?_, ih⟩
    rcases List.mem_cons.mp hc with rfl | hc
    · exact hab
    · exact Nat.le_trans hab (List.rel_of_pairwise_cons ih hc)
theorem inv_sorted : ∀ {l : List Nat}, l.Pairwise (· ≤ ·) → inv l = 0
  | [], _ => rfl
  | a :: r, h => by
    have h1 := List.pairwise_cons.mp h
    have h2 : r.filter (fun b => decide (b < a)) = [] := by
      rw [List.filter_eq_nil_iff]
      intro b hb
      have := h1.1 b hb
      simp
      omega
    simp only [inv, h2, inv_sorted h1.2, List.length_nil]
theorem nohit_sorted {X : Str} (ha : abc X.cps.toList) (h : NoHit X) : X.cps.toList.Pairwise (· ≤ ·) ∧ inv X.cps.toList = 0 := by
  have hs := sorted_of_nofall _ ha (nohit_list h)
  exact ⟨hs, inv_sorted hs⟩
theorem inv_le : ∀ (l : List Nat), inv l ≤ l.length * l.length
  | [] => Nat.le_refl _
  | a :: r => by
    have h1 := inv_le r
    have h2 := List.length_filter_le (fun b => decide (b < a)) r
    simp only [inv, List.length_cons, Nat.add_mul, Nat.mul_add, Nat.one_mul, Nat.mul_one]
    omega
/-- the law, done until no fall is met -/
theorem plain_all {x X : Str} {n : Nat} (hx : x.length ≤ 5) (ha : abc x.cps.toList) (hs : Steps x n X) (he : (n : Int) = 99 ∨ NoHit X) : n = inv x.cps.toList ∧ X.cps.toList.Pairwise (· ≤ ·) ∧ X.cps.toList.Perm x.cps.toList := by
  obtain ⟨h1, h2, _⟩ := steps_inv hs
  have h3 := inv_le x.cps.toList
  have h4 : x.cps.toList.length ≤ 5 := by rw [← length_list]; exact hx
  have h5 : x.cps.toList.length * x.cps.toList.length ≤ 25 := Nat.mul_le_mul h4 h4
  rcases he with he | he
  · omega
  · obtain ⟨a, b⟩ := nohit_sorted (fun c hc => ha c (h2.mem_iff.mp hc)) he
    exact ⟨by omega, a, h2⟩
/-- the law, done fewer times -/
theorem plain_some {x X : Str} {n : Nat} {due : Int} (ha : abc x.cps.toList) (hs : Steps x n X) (hn : (n : Int) ≤ due) (he : (n : Int) = due ∨ NoHit X) :
    (n : Int) = min due (inv x.cps.toList : Int) ∧ X.cps.toList.Perm x.cps.toList ∧ (inv X.cps.toList : Int) = (inv x.cps.toList : Int) - n := by
  obtain ⟨h1, h2, _⟩ := steps_inv hs
  refine ⟨?_, h2, by omega⟩
  rcases he with he | he
  · omega
  · obtain ⟨_, b⟩ := nohit_sorted (fun c hc => ha c (h2.mem_iff.mp hc)) he
    omega

end
section
open PySem PySem.W PyProof.Rows PyProof.V PySem.Calls PySem.SeqAt PySem.Spec
set_option maxRecDepth 100000

section
variable {prog : Program} {w : World} {A : Around} {E : Value → Shared → Prop} {s : Shared} {env : Env} {h₀ : Heap} {body : List Stmt} {Q : Flow → Shared → Prop}

/-- behind a turn of a loop over given items -/
def EnEnd {σ : Type} (h₀ : Heap) (L : Addr) (s₁ : Shared) (its : List (Addr × Obj)) (Led : σ → List (Addr × Obj)) (ps : σ → List (Str × Value)) (stored : List Str) (m₀ : Str → Option Value) (P : σ → Prop) (s₂ : Shared) : Prop :=
  ∃ (c : σ) (h' : Heap) (tk : Nat) (m' : Str → Option Value), s₂ = { s₁ with heap := h', toks := tk } ∧ Fr h₀ L h' m' ∧ News h₀ L h' (its ++ Led c) ∧ (∀ p ∈ Led c, ∀ q ∈ its, p.1 ≠ q.1) ∧
    (∀ p ∈ ps c, m' p.1 = some p.2) ∧ (∀ z, (∀ p ∈ ps c, z ≠ p.1) → stored.contains z = false → m' z = m₀ z) ∧ P c
def EnPost {σ : Type} (h₀ : Heap) (L : Addr) (s₁ : Shared) (its : List (Addr × Obj)) (Led : σ → List (Addr × Obj)) (ps : σ → List (Str × Value)) (stored : List Str) (m₀ : Str → Option Value) (P : σ → Prop) (Q : Flow → Shared → Prop) (f : Flow) (s₂ : Shared) : Prop :=
  match f with
  | .ret v => Q (.ret v) s₂
  | .brk => Q .next s₂
  | _ => EnEnd h₀ L s₁ its Led ps stored m₀ P s₂

theorem allObj_mono : ∀ {ws : List (Addr × String)} {k k' : List (Addr × Obj) → Prop}, AllObj ws k → (∀ its, k its → k' its) → AllObj ws k'
  | [], _, _, h, f => f _ h
  | _ :: r, _, _, h, f => fun o ho => allObj_mono (ws := r) (h o ho) fun _ => f _

theorem en_items {σ : Type} {ws : List (Addr × String)} {target : Expr} (Led : σ → List (Addr × Obj)) (ps : σ → List (Str × Value)) (stored : List Str) (P : Nat → σ → Prop) {m₀ : Str → Option Value} (xs : List Itm)
    (turn : ∀ i a (c : σ) (u : Str → Option Value) v h tk, xs[i]? = some a → P i c → a.Is v h → Fr h₀ env.locals h (kstB (fun z => if stored.contains z then u z else m₀ z) (ps c)) →
      AllObj ws (fun its => News h₀ env.locals h (its ++ Led c) → wpAny (model prog w) A (assign target env v) (fun _ s₂ => wpAny (model prog w) A (execs body env) (EnPost h₀ env.locals { s with heap := h, toks := tk } its Led ps stored m₀ (P (i + 1)) Q) E s₂) E { s with heap := h, toks := tk }))
    (done : ∀ (c : σ) (u : Str → Option Value) h tk, P xs.length c → Fr h₀ env.locals h (kstB (fun z => if stored.contains z then u z else m₀ z) (ps c)) → News h₀ env.locals h (Led c) → Q .next { s with heap := h, toks := tk }) :
    ∀ (j i : Nat) (c : σ) (m : Str → Option Value), i + j = xs.length → P i c → (∀ p ∈ ps c, m p.1 = some p.2) → (∀ z, (∀ p ∈ ps c, z ≠ p.1) → stored.contains z = false → m z = m₀ z) →
      ItemsRest prog w A E h₀ env target body Q s ws [] (xs.drop i) m (Led c) := by
  intro j
  induction j with
  | zero =>
    intro i c m hi hp h1 h2
    have e : i = xs.length := by omega
    subst e
    rw [List.drop_length]
    exact ItemsRest.zero fun h tk F N => done c m h tk hp (ksw_fr h1 h2 F) N
  | succ j ih =>
    intro i c m hi hp h1 h2
    have hlt : i < xs.length := by omega
    rw [List.drop_eq_getElem_cons hlt]
    intro v h tk hav F
    refine allObj_mono (turn i xs[i] c m v h tk (List.getElem?_eq_getElem hlt) hp hav (ksw_fr h1 h2 F)) fun its hk N => ?_
    refine wpAny_mono (hk N) (fun _ s₂ h₂ => wpAny_mono h₂ (fun f s₃ q => ?_) fun _ _ e => e) fun _ _ e => e
    have up : EnEnd h₀ env.locals { s with heap := h, toks := tk } its Led ps stored m₀ (P (i + 1)) s₃ → UnrEndW h₀ env.locals { s with heap := h, toks := tk } its (fun m' n' => SubL [] n' ∧ ItemsRest prog w A E h₀ env target body Q s ws [] (xs.drop (i + 1)) m' n') s₃ := by
      rintro ⟨c', h', tk', m', e, F', N', off, k1, k2, hp'⟩
      exact ⟨h', tk', m', Led c', e, F', N', off, trivial, ih (i + 1) c' m' (by omega) hp' k1 k2⟩
    cases f with
    | ret v => exact q
    | brk => exact q
    | next => exact up q
    | cont => exact up q

def enumSigns : Nat → List Nat → List Itm
  | _, [] => []
  | i, c :: r => .pairF (fun t => .int (i : Int) t) (.str ⟨#[c]⟩) :: enumSigns (i + 1) r
theorem enumSigns_length : ∀ (l : List Nat) (a : Nat), (enumSigns a l).length = l.length
  | [], _ => rfl
  | _ :: r, a => congrArg (· + 1) (enumSigns_length r (a + 1))
theorem enumSigns_get : ∀ (l : List Nat) (a i : Nat) {c : Nat}, l[i]? = some c → (enumSigns a l)[i]? = some (.pairF (fun t => .int ((a + i : Nat) : Int) t) (.str ⟨#[c]⟩))
  | [], _, _, _, h => by simp at h
  | x :: r, a, 0, c, h => by
    have e : x = c := by simpa using h
    subst e; rfl
  | x :: r, a, i + 1, c, h => by
    have q := enumSigns_get r (a + 1) i (c := c) (by simpa using h)
    rw [show a + 1 + i = a + (i + 1) by omega] at q
    simpa [enumSigns] using q

theorem draws_str (hh : A.handled = none) (it : Addr) (x : Str) (t : Tok) :
    Draws prog w A it [it] x.cps.size (fun i v => ∃ c u, x.cps[i]? = some c ∧ v = .str ⟨#[c]⟩ u) (fun i h => h.IsStrIter it (strIterType x) x t i) := by
  unfold strIterType
  cases x.cps.all (· < 128)
  · exact Draws.strWide hh it x t
  · exact Draws.strAscii hh it x t
theorem walks_str (hh : A.handled = none) (I : Addr) (x : Str) (t : Tok) :
    Walks prog w A I [I] [I] x.cps.size (SignAt x) (fun i h => h.IsStrIter I (strIterType x) x t i) := by
  unfold strIterType
  cases x.cps.all (· < 128)
  · exact Walks.strWide hh I x t
  · exact Walks.strAscii hh I x t

theorem enum_str {σ : Type} {elts : List Expr} {k : Nat} {pos : Pos} {x : Str} {t : Tok} {m₀ : Str → Option Value} (Led : σ → List (Addr × Obj)) (ps : σ → List (Str × Value)) (stored : List Str) (P : Nat → σ → Prop) (c₀ : σ)
    (hh : A.handled = none) (F : Fr h₀ env.locals s.heap m₀) (N : News h₀ env.locals s.heap (Led c₀)) (hk : ∀ p ∈ ps c₀, m₀ p.1 = some p.2) (hp : P 0 c₀)
    (turn : ∀ (I : Addr), (∀ p ∈ Led c₀, p.1 < I) → ∀ i ch (c : σ) (u : Str → Option Value) T t1 t2 oE oI h tk, x.cps.toList[i]? = some ch → P i c → IsTup h T #[.int (i : Int) t1, .str ⟨#[ch]⟩ t2] →
      Fr h₀ env.locals h (kstB (fun z => if stored.contains z then u z else m₀ z) (ps c)) → oE.cls = .type "enumerate" → oI.cls = .type (strIterType x) → News h₀ env.locals h ((I + 1, oE) :: (I, oI) :: Led c) →
      wpAny (model prog w) A (assign (.Tuple elts k pos) env (.ref T)) (fun _ s₂ => wpAny (model prog w) A (execs body env) (EnPost h₀ env.locals { s with heap := h, toks := tk } [(I + 1, oE), (I, oI)] Led ps stored m₀ (P (i + 1)) Q) E s₂) E { s with heap := h, toks := tk })
    (done : ∀ (c : σ) (u : Str → Option Value) h tk, P x.cps.toList.length c → Fr h₀ env.locals h (kstB (fun z => if stored.contains z then u z else m₀ z) (ps c)) → News h₀ env.locals h (Led c) → Q .next { s with heap := h, toks := tk }) :
    wpAny (model prog w) A (call (.type "enumerate") [.str x t]) (fun xv s₁ => wpAny (model prog w) A (pyIter xv) (fun it s₂ => TurnsAt prog w A h₀ env (.Tuple elts k pos) body Q E it s₂) E s₁) E s := by
  have hLs : env.locals < s.heap.objs.size := F.ns.lt
  have hlt : ∀ p ∈ Led c₀, p.1 < s.heap.objs.size := fun p hp => Heap.lt_size (N p hp).1
  refine call_enumerate_str fun h' hE hI hsz hkeep => ?_
  refine wpAny_pyIter_enum hE ?_
  have rest : ItemsRest prog w A E h₀ env (.Tuple elts k pos) body Q s [(s.heap.objs.size + 1, "enumerate"), (s.heap.objs.size, strIterType x)] [] (enumSigns 0 x.cps.toList) m₀ (Led c₀) := by
    refine en_items Led ps stored P (enumSigns 0 x.cps.toList) ?_ ?_ (enumSigns 0 x.cps.toList).length 0 c₀ m₀ (by omega) hp hk fun _ _ _ => rfl
    · intro i a c u v h tk ha hpi hav F'
      have hil : i < x.cps.toList.length := by
        have := (List.getElem?_eq_some_iff.mp ha).1
        rwa [enumSigns_length] at this
      have hg := enumSigns_get x.cps.toList 0 i (List.getElem?_eq_getElem hil)
      rw [ha, Nat.zero_add] at hg
      obtain rfl := Option.some.inj hg
      obtain ⟨T, t1, z, rfl, hz, hT⟩ := hav
      obtain ⟨t2, rfl⟩ := hz.str_inv
      intro oE hoE oI hoI N'
      exact turn s.heap.objs.size hlt i _ c u T t1 t2 oE oI h tk (List.getElem?_eq_getElem hil) hpi hT F' hoE hoI N'
    · intro c u h tk hpc F' N'
      rw [enumSigns_length] at hpc
      exact done c u h tk hpc F' N'
  refine ktu_core (tk0 := s.toks) (keep := []) (KTurns.ofWalksU (WalksT.enumerateD (draws_str (A := A.in1) hh s.heap.objs.size x t) (s.heap.objs.size + 1) (Nat.succ_ne_self _) (by simp) (by simp)).toU) (by simp [enumSigns_length]) ?_ ?_ ?_ ?_ ?_ ?_ ?_ ?_ (F.keeps hkeep) (N.grown hkeep) trivial rest
  · rintro i v h ⟨T, vals, rfl, ⟨t1, z, ⟨c, u, hc, rfl⟩, rfl⟩, hT⟩
    refine ⟨_, enumSigns_get x.cps.toList 0 i (by simpa using hc), T, t1, .str ⟨#[c]⟩ u, rfl, Flat.str _ _, ?_⟩
    show IsTup h T #[.int ((0 + i : Nat) : Int) t1, .str ⟨#[c]⟩ u]
    rw [Nat.zero_add]
    exact hT
  · rintro i h ⟨⟨old, he⟩, ⟨oi, hoi, hic, _⟩⟩
    have he' : ∃ oe : Obj, h.get? (s.heap.objs.size + 1) = some oe ∧ oe.cls = .type "enumerate" := ⟨_, he, rfl⟩
    obtain ⟨oe, h1, h2⟩ := he'
    refine ⟨[(s.heap.objs.size + 1, oe), (s.heap.objs.size, oi)], ⟨⟨rfl, h2⟩, ⟨rfl, hic⟩, trivial⟩, fun p hp => ?_⟩
    rcases List.mem_cons.mp hp with rfl | hp
    · exact h1
    · rw [List.mem_singleton.mp hp]; exact hoi
  · intro b hb
    have hb' : b = s.heap.objs.size + 1 ∨ b = s.heap.objs.size := by simpa using hb
    rcases hb' with rfl | rfl
    · exact ⟨by simp, ktu_new F (Nat.le_add_right _ _)⟩
    · exact ⟨by simp, ktu_new F (Nat.le_refl _)⟩
  · intro b hb
    simpa using hb
  · intro b hb
    exact .inl (by simpa using hb)
  · intro hI'
    have hb' : env.locals = s.heap.objs.size + 1 ∨ env.locals = s.heap.objs.size := by simpa using hI'
    rcases hb' with e | e
    · exact ktu_ne 1 hLs e
    · exact Nat.ne_of_lt hLs e
  · intro p hp hI'
    have hb' : p.1 = s.heap.objs.size + 1 ∨ p.1 = s.heap.objs.size := by simpa using hI'
    have hlp := hlt p hp
    rcases hb' with e | e
    · exact ktu_ne 1 hlp e
    · exact Nat.ne_of_lt hlp e
  · exact ⟨⟨.none, hE⟩, hI⟩

/-- where a comprehension over a text's signs, with one test, takes its items -/
def StrSrc (prog : Program) (w : World) (A : Around) (h₀ : Heap) (L : Addr) (m : Str → Option Value) (env : Env) (ct : Expr) (x : Str) (scope : Scope) (cl : List (Str × Addr)) (Q : Value → Shared → Prop) (xv : Value) (s₁ : Shared) : Prop :=
  ∃ (y : Str) (t : Tok) (news : List (Addr × Obj)) (tst : Nat → Bool), xv = .str y t ∧ A.handled = none ∧ Fr h₀ L s₁.heap m ∧ News h₀ L s₁.heap news ∧ y.length ≤ sizeLine ∧
    (∀ ch u I oI C oC D lD m₂ h tk (E' : Value → Shared → Prop), LCg.NsObj oC m₂ → m₂ x = some (.str ⟨#[ch]⟩ u) → Fr h₀ L h m → News h₀ L h ((I, oI) :: (C, oC) :: (D, LCg.lst lD) :: news) →
      wpAny (model prog w) A (isTrue ct (compEnvC scope cl C env) (eval ct (compEnvC scope cl C env))) (fun ok s' => ok = tst ch ∧ s' = { s₁ with heap := h, toks := s'.toks }) E' { s₁ with heap := h, toks := tk }) ∧
    (∀ D ys h tk, ys.length = (y.cps.toList.filter tst).length → Fr h₀ L h m → News h₀ L h ((D, LCg.lst ys) :: news) → LCg.Off1 D news → Q (.ref D) { s₁ with heap := h, toks := tk })

theorem filter_take_succ (p : Nat → Bool) (l : List Nat) (i c : Nat) (h : l[i]? = some c) : ((l.take (i + 1)).filter p).length = ((l.take i).filter p).length + (if p c then 1 else 0) := by
  rw [List.take_add_one, h]
  cases hp : p c <;> simp [hp]

theorem ListComp_strT {L : Addr} {m : Str → Option Value} {ct iter : Expr} {x : Str} {px pe : Pos} {scope : Scope} {cl : List (Str × Addr)} {pos : Pos} {Q : Value → Shared → Prop} (_F₀ : Fr h₀ L s.heap m)
    (hclos : closureFor scope env = pure cl) (hcell : ∀ y ∈ scope.names, y.2 ≠ .cell) (hkind : scope.kind = .function)
    (hnames : ∀ y ∈ scope.names, y.2 = .local → scope.names.lookup y.1 = some .local) (hx : scope.names.lookup x = some .local)
    (hl : ∀ C, (compEnvC scope cl C env).kindOf x = some .local) (hfk : ∀ C, (compEnvC scope cl C env).scope.kind = .function) (hdx : (x == ("__debug__" : Str)) = false)
    (h : wpAny (model prog w) A (eval iter env) (StrSrc prog w A h₀ L m env ct x scope cl Q) E s)
    (hs : ∀ x, foldedSetIterable iter env x = pure x := by intro _; rfl) :
    wpAny (model prog w) A (eval (.ListComp (.Name x pe) [⟨.Name x px, iter, [ct], 0⟩] scope pos) env) Q E s := by
  rw [eval_ListComp]
  refine wpAny_comprehension_free (use := none) rfl hs hclos hkind hnames (wpAny_mono h (fun xv s₁ h₁ => ?_) fun _ _ e => e)
  obtain ⟨y, t, news, tst, rfl, hh, F, N, hsz, turn, fin⟩ := h₁
  refine wpAny_pyIter_strU ?_
  refine LCt.block_T (s₂ := { s₁ with heap := s₁.heap.push { cls := .type (strIterType y), data := .fields #[.str y t, .int 0 0] } }) (S := fun _ => True) (Fin := fun ys nw => nw = news ∧ ys.length = (y.cps.toList.filter tst).length) (walks_str hh s₁.heap.objs.size y t) hsz (fun i h st => by obtain ⟨o, e, _⟩ := st; exact ⟨o, e⟩)
    (fun i h h' o nw st e e' _ _ _ => ?_) hcell hkind hx ⟨_, Heap.get?_push_size _ rfl, rfl, rfl⟩ (fun b hb => ?_) (F.push _) (N.grown fun _ _ e => Heap.get?_push_of_some _ e) (Nat.ne_of_lt F.ns.lt) (next_is_new F)
    (fun p hp => Nat.ne_of_lt (Heap.lt_size (N p hp).1)) trivial ?_ ?_
  · obtain ⟨o', e2, r⟩ := st
    rw [e] at e2
    obtain rfl := Option.some.inj e2
    exact ⟨o, e', r⟩
  · rw [List.mem_singleton.mp hb]
    show s₁.heap.objs.size < (s₁.heap.push _).objs.size
    rw [Heap.size_push]; exact Nat.lt_succ_self _
  · have key : ∀ (j i : Nat) (ys : List Value), i + j = y.cps.size → ys.length = ((y.cps.toList.take i).filter tst).length →
        LCt.CompRestT prog w A h₀ L m env ct (.Name x pe) x scope cl { s₁ with heap := s₁.heap.push { cls := .type (strIterType y), data := .fields #[.str y t, .int 0 0] } } (fun _ => True) (SignAt y) (fun ys nw => nw = news ∧ ys.length = (y.cps.toList.filter tst).length) j i ys news := by
      intro j
      induction j with
      | zero =>
        intro i ys hi hy
        refine LCt.CompRestT.zero ⟨rfl, ?_⟩
        rw [hy, List.take_of_length_le (by rw [Array.length_toList]; omega)]
      | succ j ih =>
        intro i ys hi hy
        refine LCt.CompRestT.succ ?_
        intro v I oI C oC D m₂ h tk E' hv hC hm F' N' off ne
        obtain ⟨ch, u, hc, rfl⟩ := hv
        have hc' : y.cps.toList[i]? = some ch := by simpa using hc
        have hcount := filter_take_succ tst y.cps.toList i ch hc'
        refine wpAny_mono (turn ch u I oI C oC D ys m₂ h tk E' hC hm F' N') (fun ok s₃ r => ?_) fun _ _ e => e
        obtain ⟨rfl, e3⟩ := r
        rw [e3]
        cases hp : tst ch with
        | true =>
          simp only [if_true]
          refine LCgL.ld_own (s := { s₁ with heap := h, toks := s₃.toks }) N' (by simp) hC hm ?_ (hfk C) (hl C) hdx
          refine ⟨h, s₃.toks, news, rfl, F', N', off, trivial, ih (i + 1) _ (by omega) ?_⟩
          rw [List.length_append, hy, hcount, hp]; simp
        | false =>
          simp only [Bool.false_eq_true, if_false]
          refine ⟨h, s₃.toks, news, rfl, F', N', off, trivial, ih (i + 1) _ (by omega) ?_⟩
          rw [hy, hcount, hp]; simp
    exact key _ 0 [] (by omega) (by simp)
  · rintro D C h tk m' ys news' F' N' o1 hn hC₀ hD₀ hCL hDL hCD offC ⟨rfl, hlen⟩
    refine ⟨m', hn, fun h'' hs'' => fin D ys h'' tk hlen (F'.change hs'' hCL hC₀) (fun p hp => ?_) o1⟩
    refine ⟨hs''.extBut _ _ ?_ (N' p hp).1, (N' p hp).2⟩
    rcases List.mem_cons.mp hp with rfl | hp
    · exact Ne.symm hCD
    · exact offC p hp
end

section
variable {prog : Program} {w : World} {A₀ A : Around} {s : Shared} {base h₀ : Heap} {outer : List Env} {L : Addr} {m : Str → Option Value} {env : Env} {news : List (Addr × Obj)}
/-- a def of the text with cells is entered; what the caller's heap holds beside the ledger stays -/
theorem code_defCG {K : Frag} {p : Program} {loose : List Str} {mean : ExcName → Option Value} {mg mb : Str → Option Value} {R : Result → Shared → Prop} {name qual : Str} {params : Arguments} {body : List Stmt} {scope : Scope} {dV kV doc pm cdv ct oc : Value} {an od : Option Addr} {osl : Array (Option Value)} {f : Addr} {args : Args} {binds : List (Str × Value)}
    (B : Below A₀ base outer h₀) (F : Fr h₀ L s.heap m) (X₀ : K.In h₀) (N : News h₀ L s.heap news) (T : Top p loose mean mg mb h₀) (hA : A.frames = some (env :: outer)) (hf : env.frame = some L) (hke : env.scope.kind = .function)
    (ho : K.lookup f = some ⟨oc, od, .func (fnOf name qual params body scope dV kV doc pm an cdv ct), osl⟩) (hcd : codeIn K cdv qual = true) (hroom : A.depth < recursionLimit)
    (hbind : BindsTo s (fnOf name qual params body scope dV kV doc pm an cdv ct) args binds) (hkind : (binds.all fun y => scope.names.lookup y.1 == some .local || scope.names.lookup y.1 == some .cell) = true)
    (hnd : ((cellsFrom 0 scope.names []).map (·.1)).Nodup)
    (h : ∀ g L' h₁ tk cells, Fr h₀ L g m → Fr g L' h₁ (bindL (envOfC qual scope L' f cdv).kindOf binds fun _ => none) → News g L' h₁ (cells ++ news) →
      CellsAre (bindC (envOfC qual scope L' f cdv).kindOf binds fun _ => none) (cellsFrom (L' + 1) scope.names []) cells → Below A base (env :: outer) g → K.In g → Top p loose mean mg mb g → GSub s.heap g (news.map (·.1)) → (∀ p ∈ news, p.1 < L') →
      wpAny (model prog w) (A.deeper (envOfC qual scope L' f cdv)) (execs body (envOfC qual scope L' f cdv))
        (fun fl s' => LeaveK h₀ L m g R (match fl with | .ret v => v | _ => .none) s')
        (fun e s' => wpAny (model prog w) (A.deeper (envOfC qual scope L' f cdv)) (leaving (envOfC qual scope L' f cdv) e) (fun _ s'' => R (.error e) s'') (fun e' s'' => R (.error e') s'') s')
        { s with heap := h₁, toks := tk })
    (hco : scope.isCoroutine = false) (hgen : scope.isGenerator = false) (hk : scope.kind = .function) : codeAny (model prog w) A (.call (.ref f) args) R s := by
  obtain ⟨FG, BG, st, lv⟩ := groundX (R := R) B F N hA hf hke
  have X₁ := X₀.keeps F.keep
  refine codeAny_call_function hroom (X₁ _ _ ho) rfl hco hgen rfl (codeRec_of X₁ hcd) (hbind _ _ _ _ ?_)
  refine wpAny_newFunctionEnv_cells hk (kindsX hkind _) fun env' he s' x => ?_
  subst he
  have hk₁ := x.toInCall.keep
  refine ⟨(T.nolimit.keeps F.keep).keeps hk₁, codeAny_func ?_⟩
  obtain ⟨h₁, tk, rfl, _⟩ := x.done
  obtain ⟨cells, NC, Y⟩ := Cl.news (h₀ := s.heap) (Nat.le_refl _) fun n c hm => ⟨x.cell n c (lookup_of_mem_nodup (cellsFrom_names scope.names 0 (s.heap.objs.size + 1) [] [] rfl ▸ hnd) hm), x.above n c hm⟩
  have NN : News (hideAll s.heap (news.map (·.1))) s.heap.objs.size h₁ (cells ++ news) := fun p hp => by
    rcases List.mem_append.mp hp with hp | hp
    · refine ⟨(NC p hp).1, (NC p hp).2.1, ?_⟩
      cases q : (hideAll s.heap (news.map (·.1))).get? p.1 with
      | none => rfl
      | some o => have := of_hideAll _ q; rw [(NC p hp).2.2] at this; cases this
    · exact ⟨hk₁ _ _ (N p hp).1, Nat.ne_of_lt (Heap.lt_size (N p hp).1), hideAll_none _ (List.mem_map_of_mem hp)⟩
  exact wpAny_mono (h _ s.heap.objs.size h₁ tk cells FG ⟨x.toInCall.ns, fun b o e => hk₁ b o (of_hideAll _ e), Nat.le_of_eq (hideAll_size _ _)⟩ NN Y BG (X₀.keeps st) (T.keeps st) (fun b o e n => hideAll_get _ e n) fun p hp => Heap.lt_size (N p hp).1) (fun fl s' hl => lv _ _ hl) fun _ _ y => y
end

end
-- pieces that several lines share
local macro_rules | `(tactic| walk_at "kn") => `(tactic| (repeat (first | refine news_cons (by k_asm) (by k_mem) ?_ | exact News.nil)))
local macro_rules | `(tactic| walk_at "fo") => `(tactic| ((try k_sweep); (try dsimp only); (try k_fold)))
local macro_rules | `(tactic| walk_at "ca") => `(tactic| ((case kA => exact rfl); (case kF => exact rfl); (case kK => assumption); (case k1 => k_asm); (case k2 => k_asm); (case k3 => k_asm); (case k4 => k_asm); (case k5 => k_asm)))
local macro_rules | `(tactic| walk_at "cb") => `(tactic| ((case c2 => exact rfl); (case c3 => exact rfl); (case c4 => exact rfl)))
local macro_rules | `(tactic| walk_at "k4") => `(tactic| ((case k1 => k_asm); (case k2 => k_asm); (case k3 => k_asm); (case k4 => k_asm)))
section
open PySem PySem.W PyProof.Rows PyProof.V PySem.Calls PySem.SeqAt
local macro_rules | `(tactic| k_room) => `(tactic| ((try simp only [depth_under_make, depth_under_kw, depth_in1, depth_deeper, depth_caller]); (try dsimp only [ktrTop]); omega))
local macro_rules | `(tactic| k_units) => `(tactic| ((try simp only [units_in1, units_deeper, Around.mark_units, units_caller]); (try dsimp only [ktrTop]); omega))
local macro_rules | `(tactic| tb_start) => `(tactic| repeat (first | exact List.forall_mem_nil _ | refine List.forall_mem_cons.mpr (And.intro (by first | (refine Or.inl ?_; k_mem) | (refine Or.inr ?_; k_mem)) ?_)))
section
open PySem PySem.W PyProof.Rows PyProof.V PySem.Calls PySem.SeqAt

/-- what a turn of _law_pairs changes -/
structure PS where
  found : Int
  tf : Tok
  oc : Obj
  v : Option Value
theorem lt_one (a b : Nat) : decide ([a] < [b]) = decide (a < b) := by
  by_cases h : a < b
  · have : [a] < [b] := List.Lex.rel h
    simp [h, this]
  · have : ¬ [a] < [b] := by
      intro q
      cases q with
      | rel q => exact h q
      | cons q => cases q
    simp [h, this]
theorem pairs_step {l : List Nat} {i ch : Nat} (h : l[i]? = some ch) : inv (l.drop i) = ((l.drop (i + 1)).filter (fun c => decide ([c] < [ch]))).length + inv (l.drop (i + 1)) := by
  have hlt := (List.getElem?_eq_some_iff.mp h).1
  have e : l[i] = ch := (List.getElem?_eq_some_iff.mp h).2
  rw [List.drop_eq_getElem_cons hlt, e]
  simp only [inv]
  congr 2
  exact List.filter_congr fun c _ => (lt_one c ch).symm

section
variable {prog : Program} {w : World} {A : Around} {E : Value → Shared → Prop} {s : Shared} {env : Env} {h₀ : Heap} {body : List Stmt} {Q : Flow → Shared → Prop}
theorem pairs_enum {elts : List Expr} {k : Nat} {pos : Pos} {x : Str} {t : Tok} {m₀ : Str → Option Value} {cA : Addr} {o : Obj} {v0 : Option Value} {tf : Tok}
    (hh : A.handled = none) (F : Fr h₀ env.locals s.heap m₀) (N : News h₀ env.locals s.heap [(cA, o)]) (hd : o.data = .cell v0) (hk : m₀ (Str.ofString "found") = some (.int 0 tf))
    (turn : ∀ (I : Addr) i ch (found : Int) tf oc v (u : Str → Option Value) T t1 t2 oE oI h tk, @LT.lt Nat _ cA I → x.cps.toList[i]? = some ch → oc.data = .cell v → found + (inv (x.cps.toList.drop i) : Int) = inv x.cps.toList → IsTup h T #[.int (i : Int) t1, .str ⟨#[ch]⟩ t2] →
      Fr h₀ env.locals h (kstB (fun z => if [Str.ofString "at"].contains z then u z else m₀ z) [(Str.ofString "found", .int found tf)]) → oE.cls = .type "enumerate" → oI.cls = .type (strIterType x) → News h₀ env.locals h [(I + 1, oE), (I, oI), (cA, oc)] →
      wpAny (model prog w) A (assign (.Tuple elts k pos) env (.ref T)) (fun _ s₂ => wpAny (model prog w) A (execs body env) (EnPost h₀ env.locals { s with heap := h, toks := tk } [(I + 1, oE), (I, oI)] (fun c : PS => [(cA, c.oc)]) (fun c : PS => [(Str.ofString "found", .int c.found c.tf)]) [Str.ofString "at"] m₀
        (fun c : PS => c.oc.data = .cell c.v ∧ c.found + (inv (x.cps.toList.drop (i + 1)) : Int) = inv x.cps.toList) Q) E s₂) E { s with heap := h, toks := tk })
    (done : ∀ (found : Int) tf oc (u : Str → Option Value) h tk, found = inv x.cps.toList → Fr h₀ env.locals h (kstB (fun z => if [Str.ofString "at"].contains z then u z else m₀ z) [(Str.ofString "found", .int found tf)]) → News h₀ env.locals h [(cA, oc)] → Q .next { s with heap := h, toks := tk }) :
    wpAny (model prog w) A (call (.type "enumerate") [.str x t]) (fun xv s₁ => wpAny (model prog w) A (pyIter xv) (fun it s₂ => TurnsAt prog w A h₀ env (.Tuple elts k pos) body Q E it s₂) E s₁) E s := by
  refine enum_str (σ := PS) (fun c => [(cA, c.oc)]) (fun c => [(Str.ofString "found", .int c.found c.tf)]) [Str.ofString "at"] (fun i c => c.oc.data = .cell c.v ∧ c.found + (inv (x.cps.toList.drop i) : Int) = inv x.cps.toList) ⟨0, tf, o, v0⟩ hh F N ?_ ⟨hd, by simp⟩ ?_ ?_
  · intro p hp
    rw [List.mem_singleton.mp hp]
    exact hk
  · intro I hI i ch c u T t1 t2 oE oI h tk hc hp hT F' hE hI' N'
    exact turn I i ch c.found c.tf c.oc c.v u T t1 t2 oE oI h tk (hI _ (.head _)) hc hp.1 hp.2 hT F' hE hI' N'
  · intro c u h tk hp F' N'
    refine done c.found c.tf c.oc u h tk ?_ F' N'
    have := hp.2
    rw [List.drop_length] at this
    simpa [inv] using this
theorem strsrc_lt {L : Addr} {m : Str → Option Value} {ct : Expr} {x : Str} {scope : Scope} {cl : List (Str × Addr)} {Q : Value → Shared → Prop} {l : List Nat} {i one : Nat} (_hch : l[i]? = some one) {y : Str} {t : Tok} {news : List (Addr × Obj)} {s₁ : Shared}
    (hh : A.handled = none) (F : Fr h₀ L s₁.heap m) (N : News h₀ L s₁.heap news) (hsz : y.length ≤ sizeLine)
    (turn : ∀ ch u I oI C oC D lD m₂ h tk (E' : Value → Shared → Prop), LCg.NsObj oC m₂ → m₂ x = some (.str ⟨#[ch]⟩ u) → Fr h₀ L h m → News h₀ L h ((I, oI) :: (C, oC) :: (D, LCg.lst lD) :: news) →
      wpAny (model prog w) A (isTrue ct (compEnvC scope cl C env) (eval ct (compEnvC scope cl C env))) (fun ok s' => ok = decide ([ch] < [one]) ∧ s' = { s₁ with heap := h, toks := s'.toks }) E' { s₁ with heap := h, toks := tk })
    (fin : ∀ D ys h tk, ys.length = (y.cps.toList.filter (fun ch => decide ([ch] < [one]))).length → Fr h₀ L h m → News h₀ L h ((D, LCg.lst ys) :: news) → LCg.Off1 D news → Q (.ref D) { s₁ with heap := h, toks := tk }) :
    StrSrc prog w A h₀ L m env ct x scope cl Q (.str y t) s₁ := ⟨y, t, news, _, rfl, hh, F, N, hsz, turn, fin⟩
end

local macro_rules | `(tactic| ktr_unf) => `(tactic| (refine wpAny_call ?_; k_dflt (refine' code_defCG ?k1 ?k2 ?k3 ?k4 ?k5 ?kA ?kF ?kK ?k6 ?k7 ?k8 ?k9 ?kB ?kD ?_ ?c2 ?c3 ?c4; walk_at "ca"; (case k6 => k_is); (case k7 => k_is); (case k8 => k_room); (case k9 => exact BindsTo.of_eq rfl); (case kB => exact rfl); (case kD => decide +kernel); walk_at "cb"; k_whole; intro g' L' h' tk' cells' FG' F' N' Y' B' X' T' kG' l1; (try k_lt l1); k_cells Y'; (try simp only [List.cons_append, List.nil_append] at N'); (try dsimp only); (try k_lift B'); (try k_fold))))
local macro_rules | `(tactic| walk_at "exec For Tuple Call cons nil") => `(tactic| (k_here; (rename Fr _ _ _ _ => lF'); (with_unfolding_all refine' For_turns lF' ?_; k_whole)))
local macro_rules | `(tactic| walk_at "call type:enumerate") => `(tactic| (k_here; k_dflt (refine' pairs_enum ?h ?F ?N ?d ?k ?t ?_; (case h => exact rfl); (case F => k_asm); (case N => k_asm); (case d => assumption); (case k => exact rfl)); rotate_left; (case' t => (intro _ _ _ _ _ _ _ _ _ _ _ _ _ _ _ l1 _ _ _ _ F' _ _ N'; (try k_fold))); (try (intro fo' tf' oc' u' h' tk' hinv' F' N'; (try k_fold)))))
local macro_rules | `(tactic| walk_at "eval ListComp") => `(tactic| (k_here; k_dflt (refine ListComp_strT (by k_asm) (by with_unfolding_all rfl) (by decide) (by rfl) (by decide) (by rfl) (fun _ => rfl) (fun _ => rfl) (by decide) ?_)))
theorem len_lst {prog : Program} {w : World} {A : Around} {E : Value → Shared → Prop} {s : Shared} {h₀ : Heap} {L D : Addr} {news : List (Addr × Obj)} {ys : List Value} {k : Nat} {Q : Value → Shared → Prop} (N : News h₀ L s.heap news) (hm : (D, LCg.lst ys) ∈ news) (hl : ys.length = k) (hk : k ≤ 5)
    (h : Q (.int (k : Int) (s.toks + 1)) { s with toks := s.toks + 1 + 1 }) : wpAny (model prog w) A (call (.builtin "len") [.ref D]) Q E s := by
  refine len_list (items := ys.toArray) ⟨_, (N _ hm).1, rfl, _, rfl⟩ ?_ ?_
  · rw [List.size_toArray, hl]; omega
  · rw [List.size_toArray, hl]; exact h
theorem filter_short {p : Nat → Bool} {y x : Str} (h : y.length ≤ x.length) (hx : x.length ≤ 5) : (y.cps.toList.filter p).length ≤ 5 := by
  have h1 := List.length_filter_le p y.cps.toList
  have h2 : y.cps.toList.length = y.length := by simp [Str.length]
  omega
theorem turn_end {x : Str} {i ch : Nat} {found : Int} (h : x.cps.toList[i]? = some ch) (hi : found + (inv (x.cps.toList.drop i) : Int) = inv x.cps.toList) :
    found + ((((Txt.slice x (some ((i : Int) + 1)) none).cps.toList.filter (fun c => decide ([c] < [ch]))).length : Nat) : Int) + (inv (x.cps.toList.drop (i + 1)) : Int) = inv x.cps.toList := by
  have hlt := (List.getElem?_eq_some_iff.mp h).1
  have hl : x.cps.toList.length = x.length := by simp [Str.length]
  have e := pairs_step h
  have hs := slice_from x (i + 1) (by omega)
  rw [show (((i + 1 : Nat)) : Int) = (i : Int) + 1 by omega] at hs
  rw [hs]
  omega
theorem pairs_end {h₀ : Heap} {L cA I : Addr} {s₁ : Shared} {oE oI oc : Obj} {found : Int} {tf : Tok} {v : Value} {m₀ m' : Str → Option Value} {x : Str} {i : Nat} {h' : Heap} {tk : Nat} {all : List (Addr × Obj)}
    (F : Fr h₀ L h' m') (N : News h₀ L h' all) (hs : ∀ p ∈ [(I + 1, oE), (I, oI), (cA, oc)], p ∈ all) (lt : @LT.lt Nat _ cA I) (hd : oc.data = .cell (some v)) (hm : m' (Str.ofString "found") = some (.int found tf))
    (hr : ∀ z, (∀ p ∈ [(Str.ofString "found", Value.int found tf)], z ≠ p.1) → [Str.ofString "at"].contains z = false → m' z = m₀ z) (hi : found + (inv (x.cps.toList.drop (i + 1)) : Int) = inv x.cps.toList) :
    EnEnd h₀ L s₁ [(I + 1, oE), (I, oI)] (fun c : PS => [(cA, c.oc)]) (fun c : PS => [(Str.ofString "found", .int c.found c.tf)]) [Str.ofString "at"] m₀ (fun c : PS => c.oc.data = .cell c.v ∧ c.found + (inv (x.cps.toList.drop (i + 1)) : Int) = inv x.cps.toList) { s₁ with heap := h', toks := tk } := by
  refine ⟨⟨found, tf, oc, some v⟩, h', tk, m', rfl, F, news_sub N hs, ?_, ?_, hr, hd, hi⟩
  · intro p hp q hq e
    rw [List.mem_singleton.mp hp] at e
    simp only [List.mem_cons, List.not_mem_nil, or_false] at hq
    rcases hq with rfl | rfl
    · exact absurd e (Nat.ne_of_lt (Nat.lt_succ_of_lt lt))
    · exact absurd e (Nat.ne_of_lt lt)
  · intro p hp
    rw [List.mem_singleton.mp hp]
    exact hm
local macro_rules | `(tactic| walk_at "call builtin:len") => `(tactic| (k_here; (with_reducible show wpAny _ _ (call (Value.builtin "len") [Value.ref _]) _ _ _); k_dflt (refine' len_lst ?N ?m ?l ?z ?_; (case N => k_asm); (case m => k_mem); (case l => assumption); (case z => exact filter_short (by assumption) (by assumption)))))
local macro_rules | `(tactic| walk_at "EnPost") => `(tactic| (dsimp only [EnPost]))
local macro_rules | `(tactic| walk_at "StrSrc") => `(tactic| (k_here; k_dflt (refine' strsrc_lt ?c ?h ?F ?N ?z ?t ?f; (case c => assumption); (case h => exact rfl); (case F => k_asm); (case N => k_asm); (case z => ((rw [PySem.sizeLine_eq]); omega)); (case' t => intro _ _ _ _ _ _ _ _ _ _ _ _ _ _ F' N'); (case' f => intro _ _ _ _ _ F' N' off'))))
set_option maxRecDepth 100000 in
set_option maxHeartbeats 8000000 in
theorem pairs_c {w : World} {x : Str} {tx : Tok} (hx : x.length ≤ 5) : Ctr w 458 [.str x tx] 4 60 [] (fun h _ _ v h' => KeepBut h h' [] ∧ ∃ t, v = .int (inv x.cps.toList : Int) t) := by
  unfold Ctr
  intro p loose mean mg mb dp un gd cn cs a ccd cl outer A₀ base h₀ L m s Q E B F X T hk hdp hun N hret
  have N₀ := N
  k_with_none
  w_top off
  ktr_unf
  k_steps
  all_goals first
    | (refine hret _ _ _ (by assumption) ⟨keep_of (by assumption) (by assumption) N₀ (by assumption) ?s, _, by rw [← (by assumption : _ = ((inv x.cps.toList : Nat) : Int))]⟩
       (case s => tb_start))
    | ((rename Fr _ _ _ _ => F8); (rename News _ _ _ _ => N8)
       refine' pairs_end F8 N8 ?s ?lt ?h3 ?h1 ?h2 ?h4
       (case s => ((try dsimp only); repeat (first | exact List.forall_mem_nil _ | refine List.forall_mem_cons.mpr (And.intro (by k_mem) ?_))))
       (case lt => assumption)
       (case h1 => exact rfl)
       (case h2 => (intro z8 h2 h3; (simp only [List.forall_mem_cons, List.not_mem_nil, false_implies, implies_true, and_true, ne_eq] at h2); (simp only [List.contains_cons, List.contains_nil, Bool.or_false, beq_eq_false_iff_ne, ne_eq] at h3); simp [h2, h3, kstB]))
       (case h3 => assumption)
       (case h4 => exact turn_end (by assumption) (by assumption)))

end
-- a def is entered
local macro_rules | `(tactic| ktr_unf) => `(tactic| (refine wpAny_call ?_; k_dflt (refine' code_defG ?k1 ?k2 ?k3 ?k4 ?k5 ?kA ?kF ?kK ?k6 ?k7 ?k8 ?k9 ?kB ?_ ?c2 ?c3 ?c4 ?c5; walk_at "ca"; (case k6 => k_is); (case k7 => k_is); (case k8 => k_room); (case k9 => exact BindsTo.of_eq rfl); (case c5 => decide); (case kB => exact locs rfl); walk_at "cb"; k_whole; intro g' L' h' FG' F' N' B' X' T' kG'; (try dsimp only); (try k_lift B'); (try k_fold))))
section
open PySem PySem.W PyProof.Rows PyProof.V PySem.Calls PySem.SeqAt
set_option maxRecDepth 100000 in
set_option maxHeartbeats 8000000 in
theorem next_c {w : World} {l D : Addr} {turn many : Int} {tt tm : Tok} {ws : List Value} {ns : List Int} {n1 n2 : Nat} (h0 : 0 ≤ turn) (h1 : turn < 10) (hm : 0 < many) (hm1 : many < 100) (hi : IntsAre ws ns) (hl : ns.length ≤ 20) (hne : @Ne Nat l D) :
    Ctr w 453 [.ref l, .int many tm] 4 60 [(l, W.listOf #[.ref D, .int turn tt] n1), (D, W.listOf ws.toArray n2)]
      (fun h _ _ v h' => KeepBut h h' [l] ∧ ∃ (r : Int) (t t' : Tok) (n' : Nat), v = .int r t ∧ 0 ≤ r ∧ r < many ∧ h'.get? l = some (W.listOf #[.ref D, .int (turn + 1) t'] n')) := by
  unfold Ctr
  intro p loose mean mg mb dp un gd cn cs a ccd cl outer A₀ base h₀ L m s Q E B F X T hk hdp hun N hret
  have N₀ := N
  k_with_none
  w_top off
  ktr_unf
  k_steps
  all_goals
    refine hret _ _ _ (by assumption) ⟨keep_of (by assumption) (by assumption) N₀ (by assumption) ?s, _, _, _, _, rfl, Int.fmod_nonneg_of_pos _ hm, Int.fmod_lt_of_pos _ hm, News.get (by assumption) (by k_mem)⟩
    (case s => tb_start)

end
local macro_rules | `(tactic| walk_at "compareOp Eq ref") => `(tactic| (k_here; (with_reducible show wpAny _ _ (compareOp CmpOp.Eq (Value.ref _) (Value.str _ _)) _ _ _); k_dflt (refine' tup_eq_str ?k1 ?k2 ?k3 ?_; (case k1 => k_asm); (case k2 => k_mem); (case k3 => k_units); k_whole)))
local macro_rules | `(tactic| walk_at "compareOp NotIn str ref") => `(tactic| (k_here; k_dflt (refine' notin_K ?F ?X ?l ?i ?b ?_; (case F => k_asm); (case X => k_asm); (case l => k_is); (case i => rfl); (case b => decide +kernel); k_whole)))
section
local macro_rules | `(tactic| k_lt $h:ident) => `(tactic| clear $h)
local macro_rules | `(tactic| k_lt2 $h:ident) => `(tactic| clear $h)
local macro_rules | `(tactic| k_ne) => `(tactic| (refine' news_ne ?N ?a ?b ?c; (case N => k_asm); (case a => k_mem); (case b => k_mem); (case c => (first | exact tup_dict | exact tup_list | exact list_dict | exact dict_list | exact ref_dict | exact ref_list))))
section
open PySem PySem.W PyProof.Rows PyProof.V PySem.Calls PySem.SeqAt

set_option maxRecDepth 100000 in
set_option maxHeartbeats 8000000 in
theorem step_c {w : World} {H dH : Addr} {d : HD} {k : Int} {tk : Tok} (h0 : 0 ≤ k) (h1 : k < 90000) :
    Ctr w 233 [.ref H] 2 20 [(H, instObj 236 dH), (dH, hostD d k tk)] (fun h h₀ L v h' => v = .none ∧ KeepBut h h' [dH] ∧ ∃ t, h'.get? dH = some (hostD d (k + 1) t)) := by
  unfold Ctr
  intro p loose mean mg mb dp un gd cn cs a ccd cl outer A₀ base h₀ L m s Q E B F X T hk hdp hun N hret
  have N₀ := N
  k_with_none
  w_top off
  ktr_unf
  k_steps
  refine hret _ _ _ (by assumption) ⟨rfl, keep_of (by assumption) (by assumption) N₀ (by assumption) ?_, _, News.get (by assumption) (by k_mem)⟩
  tb_start

set_option maxRecDepth 100000 in
set_option maxHeartbeats 8000000 in
theorem adv_alt {w : World} {ch n a1 a2 nm P H dH : Addr} {d : HD} {k : Int} {tk : Tok} {rv : Value} {b : Int} {tb : Tok} {x : Str} {tx : Tok} {u : Tok} {e1 e2 np : Nat} {its : List Value} (hi : its.length < 20) :
    Ctr w 418 [.ref ch, .int b tb, .ref nm, .str x tx, .ref P, .ref H] 4 40 [(P, W.listOf its.toArray np), (dH, hostD d k tk), (ch, tupO [.ref n, rv] e1), (n, tupO [.str (Str.ofString "alt") u, .ref a1, .ref a2] e2)]
      (fun h h₀ L v h' => ∃ (q1 w1 q2 w2 : Addr) (np' : Nat), v = Value.ref w2 ∧ KeepBut h h' [P] ∧ h'.get? P = some (W.listOf (its ++ [Value.ref w1]).toArray np') ∧
        Made h₀ L h' [(w2, tupO [.ref q2, .int b tb, .ref nm] 0), (q2, tupO [.ref a1, rv] 0), (w1, tupO [.ref q1, .int b tb, .ref nm] 0), (q1, tupO [.ref a2, rv] 0)]) := by
  unfold Ctr
  intro p loose mean mg mb dp un gd cn cs a ccd cl outer A₀ base h₀ L m s Q E B F X T hk hdp hun N hret
  have N₀ := N
  k_with_none
  w_top off
  ktr_unf
  k_steps
  refine hret _ _ _ (by assumption) ⟨_, _, _, _, _, rfl, keep_of (by assumption) (by assumption) N₀ (by assumption) ?_, push_at (News.get (by assumption) (by k_mem)), made (news_cons (by assumption) (by k_mem) (news_cons (by assumption) (by k_mem) (news_cons (by assumption) (by k_mem) (news_cons (by assumption) (by k_mem) News.nil))))⟩
  tb_start

set_option maxRecDepth 100000 in
set_option maxHeartbeats 8000000 in
theorem adv_later {w : World} {ch n c r nm P H dH : Addr} {d : HD} {k : Int} {tk : Tok} {oP : Obj} {rv : Value} {b : Int} {tb : Tok} {x : Str} {tx : Tok} {u : Tok} {e1 e2 : Nat} :
    Ctr w 418 [.ref ch, .int b tb, .ref nm, .str x tx, .ref P, .ref H] 4 40 [(P, oP), (dH, hostD d k tk), (ch, tupO [.ref n, rv] e1), (n, tupO [.str (Str.ofString "later") u, .ref c, .ref r] e2)]
      (fun h h₀ L v h' => ∃ (z q1 q2 w2 : Addr) (t : Tok), v = Value.ref w2 ∧ KeepBut h h' [] ∧
        Made h₀ L h' [(w2, tupO [.ref q2, .int b tb, .ref nm] 0), (q2, tupO [.ref c, .ref q1] 0), (q1, tupO [.ref z, rv] 0), (z, tupO [.str (Str.ofString "end later") t, .ref r, .int b tb] 0)]) := by
  unfold Ctr
  intro p loose mean mg mb dp un gd cn cs a ccd cl outer A₀ base h₀ L m s Q E B F X T hk hdp hun N hret
  have N₀ := N
  k_with_none
  w_top off
  ktr_unf
  k_steps
  refine hret _ _ _ (by assumption) ⟨_, _, _, _, _, rfl, keep_of (by assumption) (by assumption) N₀ (by assumption) ?_, made (news_cons (by assumption) (by k_mem) (news_cons (by assumption) (by k_mem) (news_cons (by assumption) (by k_mem) (news_cons (by assumption) (by k_mem) News.nil))))⟩
  tb_start

set_option maxRecDepth 100000 in
set_option maxHeartbeats 8000000 in
theorem adv_end {w : World} {ch n r nm P H dH : Addr} {d : HD} {k : Int} {tk : Tok} {oP : Obj} {rv : Value} {b c : Int} {tb tc : Tok} {x : Str} {tx : Tok} {u : Tok} {e1 e2 e3 : Nat} (hx : x.length ≤ 5) :
    Ctr w 418 [.ref ch, .int c tc, .ref nm, .str x tx, .ref P, .ref H] 4 40 [(P, oP), (dH, hostD d k tk), (ch, tupO [.ref n, rv] e1), (n, tupO [.str (Str.ofString "end later") u, .ref r, .int b tb] e2), (nm, tupO [] e3)]
      (fun h h₀ L v h' => ∃ (z q1 w2 : Addr) (t : Tok), v = Value.ref w2 ∧ KeepBut h h' [] ∧
        Made h₀ L h' [(w2, tupO [rv, .int c tc, .ref q1] 0), (q1, tupO [.ref z] 0), (z, tupO [.ref r, .str (Txt.slice x (some b) (some c)) t] 0)]) := by
  unfold Ctr
  intro p loose mean mg mb dp un gd cn cs a ccd cl outer A₀ base h₀ L m s Q E B F X T hk hdp hun N hret
  have N₀ := N
  k_with_none
  w_top off
  ktr_unf
  k_steps
  refine hret _ _ _ (by assumption) ⟨_, _, _, _, rfl, keep_of (by assumption) (by assumption) N₀ (by assumption) ?_, made (news_cons (by assumption) (by k_mem) (news_cons (by assumption) (by k_mem) (news_cons (by assumption) (by k_mem) News.nil)))⟩
  tb_start

set_option maxRecDepth 100000 in
set_option maxHeartbeats 8000000 in
theorem adv_chars {w : World} {ch n nm P H dH : Addr} {d : HD} {k : Int} {tk : Tok} {oP : Obj} {rv : Value} {b : Int} {tb : Tok} {x y : Str} {tx ty : Tok} {u : Tok} {e1 e2 : Nat} (hx : x.length ≤ 5) (hy : y.length = 2) :
    Ctr w 418 [.ref ch, .int b tb, .ref nm, .str x tx, .ref P, .ref H] 7 70 [(P, oP), (dH, hostD d k tk), (ch, tupO [.ref n, rv] e1), (n, tupO [.str (Str.ofString "chars") u, .str y ty] e2)]
      (fun h h₀ L v h' => KeepBut h h' [] ∧ (((Txt.slice x (some b) (some (b + (y.length : Int))) == y) = false ∧ v = Value.none) ∨ ((Txt.slice x (some b) (some (b + (y.length : Int))) == y) = true ∧ ∃ (w2 : Addr) (t : Tok), v = Value.ref w2 ∧ 
        Made h₀ L h' [(w2, tupO [rv, .int (b + (y.length : Int)) t, .ref nm] 0)])) ) := by
  unfold Ctr
  intro p loose mean mg mb dp un gd cn cs a ccd cl outer A₀ base h₀ L m s Q E B F X T hk hdp hun N hret
  have N₀ := N
  k_with_none
  w_top off
  ktr_unf
  k_steps
  · refine hret _ _ _ (by assumption) ⟨keep_of (by assumption) (by assumption) N₀ (by assumption) ?_, .inr ⟨by assumption, _, _, rfl, made (news_cons (by assumption) (by k_mem) News.nil)⟩⟩
    tb_start
  · refine hret _ _ _ (by assumption) ⟨keep_of (by assumption) (by assumption) N₀ (by assumption) ?_, .inl ⟨by assumption, rfl⟩⟩
    tb_start

end
section
open PySem PySem.W PyProof.Rows PyProof.V PySem.Calls PySem.SeqAt

local macro_rules | `(tactic| walk_at "call ref") => `(tactic| (k_here; (with_reducible show wpAny _ _ (call (Value.ref 233) _) _ _ _); k_dflt (
  refine' Ctr.use (step_c ?h0 ?h1) ?kN ?_
  (case kN => walk_at "kn")
  (case h0 => omega)
  (case h1 => omega)
  intro v' h' tk' F' hR'
  obtain ⟨e', hK', t', hG'⟩ := hR'
  subst e'
  have N' := news_set (by k_asm) hK' hG' (by k_upd)
  clear hK' hG'
  walk_at "fo")))
local macro_rules | `(tactic| walk_at "call ref") => `(tactic| (k_here; (with_reducible show wpAny _ _ (call (Value.ref 418) _) _ _ _); k_dflt (first
  | (refine' Ctr.use (adv_alt ?h0) ?kN ?_
     (case kN => walk_at "kn")
     (case h0 => exact Nat.le_of_ble_eq_true rfl)
     intro v' h' tk' F' hR'
     obtain ⟨q1', w1', q2', w2', np', e', hK', hG', hN'⟩ := hR'
     subst e'
     have N1' := news_set (by k_asm) hK' hG' (by k_upd)
     have N' := news_app hN' N1'
     simp only [List.cons_append, List.nil_append] at N'
     clear hK' hG' hN'
     walk_at "fo")
  | (refine' Ctr.use adv_later ?kN ?_
     (case kN => walk_at "kn")
     intro v' h' tk' F' hR'
     obtain ⟨z', q1', q2', w2', t', e', hK', hN'⟩ := hR'
     subst e'
     have N' := news_app hN' (news_same (by k_asm) hK')
     simp only [List.cons_append, List.nil_append] at N'
     clear hK' hN'
     walk_at "fo")
  | (refine' Ctr.use (adv_chars ?h0 ?h1) ?kN ?_
     (case kN => walk_at "kn")
     (case h0 => assumption)
     (case h1 => first | exact len_ba | exact len_ca | exact len_cb)
     intro v' h' tk' F' hR'
     obtain ⟨hK', hR'⟩ := hR'
     have N' := news_same (by k_asm) hK'
     clear hK'
     rcases hR' with ⟨hc', e'⟩ | ⟨hc', w2', t', e', hN'⟩
     (case' inl => (subst e'; walk_at "fo"))
     (case' inr => (subst e'; have N' := news_app hN' N'; simp only [List.cons_append, List.nil_append] at N'; clear hN'; walk_at "fo")))
  | (refine' Ctr.use (adv_end ?h0) ?kN ?_
     (case kN => walk_at "kn")
     (case h0 => assumption)
     intro v' h' tk' F' hR'
     obtain ⟨z', q1', w2', t', e', hK', hN'⟩ := hR'
     subst e'
     have N' := news_app hN' (news_same (by k_asm) hK')
     simp only [List.cons_append, List.nil_append] at N'
     clear hK' hN'
     walk_at "fo"))))

local macro_rules | `(tactic| walk_at "callWith ref") => `(tactic| (k_here; k_dflt (refine' callWith_K0 ?k1 ?k2 ?_; (case k1 => k_in); (case k2 => k_is); k_whole)))
local macro_rules | `(tactic| k_in) => `(tactic| (refine' Frag.In.keeps ?ka (Fr.keep ?kb); (case kb => k_asm); (case ka => with_reducible assumption)))
set_option maxRecDepth 100000 in
set_option maxHeartbeats 8000000 in
theorem tried_c {w : World} {H dH n2 n1 p1 p2 p3 c1 c2 c3 r1 r2 r3 : Addr} {d : HD} {k : Int} {tk : Tok} {u1 u2 u3 u4 u5 u6 u7 u8 u9 u10 u11 : Tok} {e1 e2 e3 e4 e5 e6 e7 e8 : Nat}
    {x : Str} {tx : Tok} {b : Int} {tb : Tok} (hx : x.length ≤ 5) (hk0 : 0 ≤ k) (hk1 : k < 80000) :
    Ctr w 411 [.ref n2, .str x tx, .int b tb, .ref H] 10 100 [(H, instObj 236 dH), (dH, hostD d k tk), (n2, tupO [.str (Str.ofString "alt") u1, .ref n1, .ref p3] e1), (n1, tupO [.str (Str.ofString "alt") u2, .ref p1, .ref p2] e2),
    (p1, tupO [.str (Str.ofString "later") u3, .ref c1, .ref r1] e3), (p2, tupO [.str (Str.ofString "later") u4, .ref c2, .ref r2] e4), (p3, tupO [.str (Str.ofString "later") u5, .ref c3, .ref r3] e5),
    (c1, tupO [.str (Str.ofString "chars") u6, .str (Str.ofString "ba") u7] e6), (c2, tupO [.str (Str.ofString "chars") u8, .str (Str.ofString "ca") u9] e7), (c3, tupO [.str (Str.ofString "chars") u10, .str (Str.ofString "cb") u11] e8)]
      (fun h h₀ L v h' => KeepBut h h' [dH] ∧ (∃ (k' : Int) (t' : Tok), h'.get? dH = some (hostD d k' t') ∧ k ≤ k' ∧ k' ≤ k + 20) ∧
        ((hitAt x b = false ∧ v = Value.none) ∨ (hitAt x b = true ∧ ∃ (T l u r : Addr) (c : Int) (t t2 : Tok) (n : Nat), v = Value.ref T ∧ c = b + 2 ∧ (r = r1 ∨ r = r2 ∨ r = r3) ∧
          Made h₀ L h' [(T, tupO [.int c t, .ref l] 0), (l, W.listOf #[Value.ref u] n), (u, tupO [.ref r, .str (Txt.slice x (some b) (some c)) t2] 0)]))) := by
  unfold Ctr
  intro p loose mean mg mb dp un gd cn cs a ccd cl outer A₀ base h₀ L m s Q E B F X T hk hdp hun N hret
  have N₀ := N
  k_with_none
  w_top off
  ktr_unf
  k_steps
  all_goals first
    | (refine hret _ _ _ (by assumption) ⟨keep_of (by assumption) (by assumption) N₀ (by assumption) ?s, ⟨_, _, News.get (by assumption) (by k_mem), ?ka, ?kb⟩, .inr ⟨?hit, _, _, _, _, _, _, _, _, rfl, ?c, ?r, made (news_cons (by assumption) (by k_mem) (news_cons (by assumption) (by k_mem) (news_cons (by assumption) (by k_mem) News.nil)))⟩⟩
       (case s => tb_start)
       (case ka => omega)
       (case kb => omega)
       (case hit => first | exact hit1 (by assumption) | exact hit2 (by assumption) | exact hit3 (by assumption))
       (case c => first | exact add_ba _ | exact add_ca _ | exact add_cb _)
       (case r => first | exact .inl rfl | exact .inr (.inl rfl) | exact .inr (.inr rfl)))
    | (refine hret _ _ _ (by assumption) ⟨keep_of (by assumption) (by assumption) N₀ (by assumption) ?s, ⟨_, _, News.get (by assumption) (by k_mem), ?ka, ?kb⟩, .inl ⟨nohit (by assumption) (by assumption) (by assumption), rfl⟩⟩
       (case s => tb_start)
       (case ka => omega)
       (case kb => omega))

end
section
open PySem PySem.W PyProof.Rows PyProof.V PySem.Calls PySem.SeqAt

local macro_rules | `(tactic| walk_at "call ref") => `(tactic| (k_here; (with_reducible show wpAny _ _ (call (Value.ref 411) _) _ _ _); k_dflt (
  refine' Ctr.use (tried_c ?h0 ?h1 ?h2) ?kN ?_
  (case kN => walk_at "kn")
  (case h0 => assumption)
  (case h1 => omega)
  (case h2 => omega)
  intro v' h' tk' F' hR'
  obtain ⟨hK', ⟨k9, t9, hG', hk1', hk2'⟩, hR'⟩ := hR'
  have N' := news_set (by k_asm) hK' hG' (by k_upd)
  clear hK' hG'
  rcases hR' with ⟨hc', e'⟩ | ⟨hc', T', l', u', r', c', t', s', n', e', ec', er', hN'⟩
  (case' inl => (subst e'; walk_at "fo"))
  (case' inr => (subst e'; have N' := news_app hN' N'; simp only [List.cons_append, List.nil_append] at N'; clear hN'; walk_at "fo")))))

set_option maxRecDepth 100000 in
set_option maxHeartbeats 8000000 in
theorem match_at_c {w : World} {H dH n2 n1 p1 p2 p3 c1 c2 c3 r1 r2 r3 : Addr} {d : HD} {k : Int} {tk : Tok} {u1 u2 u3 u4 u5 u6 u7 u8 u9 u10 u11 : Tok} {e1 e2 e3 e4 e5 e6 e7 e8 : Nat}
    {x : Str} {tx : Tok} {b : Int} {tb : Tok} (hx : x.length ≤ 5) (hk0 : 0 ≤ k) (hk1 : k < 80000) :
    Ctr w 404 [.ref n2, .str x tx, .int b tb, .ref H] 14 140 [(H, instObj 236 dH), (dH, hostD d k tk), (n2, tupO [.str (Str.ofString "alt") u1, .ref n1, .ref p3] e1), (n1, tupO [.str (Str.ofString "alt") u2, .ref p1, .ref p2] e2),
    (p1, tupO [.str (Str.ofString "later") u3, .ref c1, .ref r1] e3), (p2, tupO [.str (Str.ofString "later") u4, .ref c2, .ref r2] e4), (p3, tupO [.str (Str.ofString "later") u5, .ref c3, .ref r3] e5),
    (c1, tupO [.str (Str.ofString "chars") u6, .str (Str.ofString "ba") u7] e6), (c2, tupO [.str (Str.ofString "chars") u8, .str (Str.ofString "ca") u9] e7), (c3, tupO [.str (Str.ofString "chars") u10, .str (Str.ofString "cb") u11] e8)]
      (fun h h₀ L v h' => KeepBut h h' [dH] ∧ (∃ (k' : Int) (t' : Tok), h'.get? dH = some (hostD d k' t') ∧ k ≤ k' ∧ k' ≤ k + 20) ∧
        ((hitAt x b = false ∧ v = Value.none) ∨ (hitAt x b = true ∧ ∃ (T l u r : Addr) (c : Int) (t t1 t2 : Tok) (n : Nat), v = Value.ref T ∧ c = b + 2 ∧ (r = r1 ∨ r = r2 ∨ r = r3) ∧
          Made h₀ L h' [(T, tupO [.int b t1, .int c t, .ref l] 0), (l, W.listOf #[Value.ref u] n), (u, tupO [.ref r, .str (Txt.slice x (some b) (some c)) t2] 0)]))) := by
  unfold Ctr
  intro p loose mean mg mb dp un gd cn cs a ccd cl outer A₀ base h₀ L m s Q E B F X T hk hdp hun N hret
  have N₀ := N
  k_with_none
  w_top off
  ktr_unf
  k_steps
  all_goals first
    | (refine hret _ _ _ (by assumption) ⟨keep_of (by assumption) (by assumption) N₀ (by assumption) ?s, ⟨_, _, News.get (by assumption) (by k_mem), ?ka, ?kb⟩, .inr ⟨by assumption, _, _, _, _, _, _, _, _, _, rfl, ?c, ?r, made (news_cons (by assumption) (by k_mem) (news_cons (by assumption) (by k_mem) (news_cons (by assumption) (by k_mem) News.nil)))⟩⟩
       (case s => tb_start)
       (case ka => assumption)
       (case kb => assumption)
       (case c => assumption)
       (case r => assumption))
    | (refine hret _ _ _ (by assumption) ⟨keep_of (by assumption) (by assumption) N₀ (by assumption) ?s, ⟨_, _, News.get (by assumption) (by k_mem), ?ka, ?kb⟩, .inl ⟨by assumption, rfl⟩⟩
       (case s => tb_start)
       (case ka => assumption)
       (case kb => assumption))

end
section
open PySem PySem.W PyProof.Rows PyProof.V PySem.Calls PySem.SeqAt

local macro_rules | `(tactic| walk_at "no such key") => `(tactic| skip)
local macro_rules | `(tactic| walk_at "call ref") => `(tactic| (k_here; (with_reducible show wpAny _ _ (call (Value.ref 404) _) _ _ _); k_dflt (
  refine' Ctr.use (match_at_c ?h0 ?h1 ?h2) ?kN ?_
  (case kN => walk_at "kn")
  (case h0 => assumption)
  (case h1 => omega)
  (case h2 => omega)
  intro v' h' tk' F' hR'
  obtain ⟨hK', ⟨k9, t9, hG', hk1', hk2'⟩, hR'⟩ := hR'
  have N' := news_set (by k_asm) hK' hG' (by k_upd)
  dsimp only [hostD] at N'
  clear hK' hG'
  rcases hR' with ⟨hc', e'⟩ | ⟨hc', T', l', u', r', c', t', t1', s', n', e', ec', er', hN'⟩
  (case' inl => (subst e'; walk_at "fo"))
  (case' inr => (subst e'; have N' := news_app hN' N'; simp only [List.cons_append, List.nil_append] at N'; clear hN'; walk_at "fo")))))

/-- an address that no object of the heap bears -/
def FreshIn (h : Heap) (l : Addr) : Prop := ∀ b o, h.get? b = some o → b ≠ l
theorem fresh_of {h g' h' : Heap} {L' l : Addr} {o : Obj} {led news : List (Addr × Obj)} (kG : GSub h g' (led.map (·.1))) (N' : News g' L' h' news) (hm : (l, o) ∈ news) (hne : ∀ p ∈ led, p.1 ≠ l) : FreshIn h l := by
  intro b ob e hb
  subst hb
  by_cases hmem : b ∈ led.map (·.1)
  · obtain ⟨p, hp, hpe⟩ := List.mem_map.mp hmem
    exact hne p hp hpe
  · have h1 := kG b ob e hmem
    rw [(N' _ hm).2.2] at h1
    cases h1
theorem plain_state {x : Str} {k st k9 n : Int} {pre : List Int} (h0 : ∀ b : Int, 0 ≤ b → b < (pre.length : Int) → hitAt x b = false) (ha : k ≤ st) (hb : st ≤ k + 20 * (pre.length : Int)) (h1 : st ≤ k9) (h2 : k9 ≤ st + 20)
    (hn : n = 0 + (pre.length : Int)) (hc : hitAt x n = false) : (∀ b : Int, 0 ≤ b → b < ((pre ++ [n]).length : Int) → hitAt x b = false) ∧ k ≤ k9 ∧ k9 ≤ k + 20 * ((pre ++ [n]).length : Int) := by
  simp only [List.length_append, List.length_cons, List.length_nil]
  refine ⟨fun b b0 b1 => ?_, by omega, by omega⟩
  by_cases e : b < (pre.length : Int)
  · exact h0 b b0 e
  · have : b = n := by omega
    rw [this]; exact hc
theorem plain_pre {x : Str} {n b : Int} (h : ∀ b : Int, 0 ≤ b → b < n → hitAt x b = false) (h0 : 0 ≤ b) (h1 : b < n) : hitAt x b = false := h b h0 h1

set_option maxRecDepth 100000 in
set_option maxHeartbeats 8000000 in
theorem match_c {w : World} {H dH n2 n1 p1 p2 p3 c1 c2 c3 r1 r2 r3 : Addr} {d : HD} {k : Int} {tk : Tok} {u1 u2 u3 u4 u5 u6 u7 u8 u9 u10 u11 : Tok} {e1 e2 e3 e4 e5 e6 e7 e8 : Nat}
    {x : Str} {tx : Tok} (hx : x.length ≤ 5) (hk0 : 0 ≤ k) (hk1 : k < 70000) :
    Ctr w 397 [.ref n2, .str x tx, .bool false, .ref H] 18 180 [(H, instObj 236 dH), (dH, hostD d k tk), (n2, tupO [.str (Str.ofString "alt") u1, .ref n1, .ref p3] e1), (n1, tupO [.str (Str.ofString "alt") u2, .ref p1, .ref p2] e2),
    (p1, tupO [.str (Str.ofString "later") u3, .ref c1, .ref r1] e3), (p2, tupO [.str (Str.ofString "later") u4, .ref c2, .ref r2] e4), (p3, tupO [.str (Str.ofString "later") u5, .ref c3, .ref r3] e5),
    (c1, tupO [.str (Str.ofString "chars") u6, .str (Str.ofString "ba") u7] e6), (c2, tupO [.str (Str.ofString "chars") u8, .str (Str.ofString "ca") u9] e7), (c3, tupO [.str (Str.ofString "chars") u10, .str (Str.ofString "cb") u11] e8)]
      (fun h h₀ L v h' => KeepBut h h' [dH] ∧ (∃ (k' : Int) (t' : Tok), h'.get? dH = some (hostD d k' t') ∧ k ≤ k' ∧ k' ≤ k + 120) ∧
        (((∀ b : Int, 0 ≤ b → b ≤ x.length → hitAt x b = false) ∧ v = Value.none) ∨ (∃ b : Int, (0 ≤ b ∧ b ≤ x.length) ∧ (∀ b' : Int, 0 ≤ b' → b' < b → hitAt x b' = false) ∧ hitAt x b = true ∧ ∃ (T l u r : Addr) (c : Int) (t t1 t2 : Tok) (n : Nat), v = Value.ref T ∧ c = b + 2 ∧ (r = r1 ∨ r = r2 ∨ r = r3) ∧
          Made h₀ L h' [(T, tupO [.int b t1, .int c t, .ref l] 0), (l, W.listOf #[Value.ref u] n), (u, tupO [.ref r, .str (Txt.slice x (some b) (some c)) t2] 0)] ∧ FreshIn h l))) := by
  unfold Ctr
  intro p loose mean mg mb dp un gd cn cs a ccd cl outer A₀ base h₀ L m s Q E B F X T hk hdp hun N hret
  have N₀ := N
  k_with_none
  w_top off
  replace N := N₀
  dsimp only [hostD] at N
  k_with "state" => exact plain_state (by assumption) (by assumption) (by assumption) (by assumption) (by assumption) (by assumption) (by assumption)
  k_with "pyIter ref" => k_state (fun pre st => (∀ b : Int, 0 ≤ b → b < (pre.length : Int) → hitAt x b = false) ∧ k ≤ st ∧ st ≤ k + 20 * (pre.length : Int)) "host.steps"
  ktr_unf
  k_steps
  all_goals first
    | (refine hret _ _ _ (by assumption) ⟨keep_of (by assumption) (by assumption) N₀ (by assumption) ?s, ⟨_, _, News.get (by assumption) (by k_mem), ?ka, ?kb⟩, .inr ⟨_, ⟨?b0, ?b1⟩, ?bm, by assumption, _, _, _, _, _, _, _, _, _, rfl, ?c, ?r, made (news_cons (by assumption) (by k_mem) (news_cons (by assumption) (by k_mem) (news_cons (by assumption) (by k_mem) News.nil))), fresh_of (by assumption) (by assumption) (by k_mem) ?fr⟩⟩
       (case s => tb_start)
       (case fr => (repeat (first | exact List.forall_mem_nil _ | refine List.forall_mem_cons.mpr (And.intro (by k_ne) ?_))))
       (case ka => omega)
       (case kb => omega)
       (case b0 => omega)
       (case b1 => omega)
       (case bm => (intro b' h1' h2'; refine plain_pre (by assumption) h1' ?_; omega))
       (case c => assumption)
       (case r => assumption))
    | (refine hret _ _ _ (by assumption) ⟨keep_of (by assumption) (by assumption) N₀ (by assumption) ?s, ⟨_, _, News.get (by assumption) (by k_mem), ?ka, ?kb⟩, .inl ⟨?bm, rfl⟩⟩
       (case s => tb_start)
       (case ka => assumption)
       (case kb => (simp only [rangeKs_length] at *; omega))
       (case bm => (intro b' h1' h2'; refine plain_pre (by assumption) h1' ?_; simp only [rangeKs_length]; omega)))

end
end
section
theorem isDict_cls {prog : Program} {w : World} {K : Type} [DecidableEq K] {knd : KeyKind prog w K} {o : Obj} {kvs : List (K × Value)} (h : o.IsDictOf knd kvs) : o.cls = .type "dict" := by
  obtain ⟨es, ep, hE, _⟩ := h
  exact hE.1
theorem ne_cls {a c : Value} {o : Obj} (h : o.cls = c) (hn : a ≠ c) : a ≠ o.cls := by rw [h]; exact hn
theorem cls_ne {a c : Value} {o : Obj} (h : o.cls = c) (hn : c ≠ a) : o.cls ≠ a := by rw [h]; exact hn
theorem it_dict : Value.type "list_iterator" ≠ Value.type "dict" := by decide
theorem it_list : Value.type "list_iterator" ≠ Value.type "list" := by decide
theorem meth_dict : Value.type "method" ≠ Value.type "dict" := by decide
theorem meth_list : Value.type "method" ≠ Value.type "list" := by decide
theorem ktu_clsEq {a b : Value} {n n' : String} (h : a = .type n) (h' : b = .type n') (e : a = b) : Value.type n = Value.type n' := h ▸ h' ▸ e
theorem fun_dict : Value.type "function" ≠ Value.type "dict" := by decide
theorem fun_list : Value.type "function" ≠ Value.type "list" := by decide
theorem type_none {n : String} : Value.type n ≠ Value.none := nofun
theorem ref_none {a : Addr} : Value.ref a ≠ Value.none := nofun
theorem cj2 {r p q : Prop} (h : r ∧ p ∧ q) : p := h.2.1
theorem cj3 {r s p q : Prop} (h : r ∧ s ∧ p ∧ q) : p := h.2.2.1
theorem cj4 {r s u p q : Prop} (h : r ∧ s ∧ u ∧ p ∧ q) : p := h.2.2.2.1
theorem cj5 {r s u v p q : Prop} (h : r ∧ s ∧ u ∧ v ∧ p ∧ q) : p := h.2.2.2.2.1
theorem ce1 {r p : Prop} (h : r ∧ p) : p := h.2
theorem ce2 {r s p : Prop} (h : r ∧ s ∧ p) : p := h.2.2
theorem ce3 {r s u p : Prop} (h : r ∧ s ∧ u ∧ p) : p := h.2.2.2
theorem ce4 {r s u v p : Prop} (h : r ∧ s ∧ u ∧ v ∧ p) : p := h.2.2.2.2
theorem ce5 {r s u v z p : Prop} (h : r ∧ s ∧ u ∧ v ∧ z ∧ p) : p := h.2.2.2.2.2
local macro_rules | `(tactic| tb_rel) => `(tactic| (first | exact tup_dict | exact tup_list | exact list_dict | exact dict_list | exact ref_dict | exact ref_list | exact fun_dict | exact fun_list | exact ne_cls (by assumption) tup_dict | exact ne_cls (by assumption) ref_dict | exact ne_cls (by assumption) list_dict | exact ne_cls (by assumption) fun_dict | exact cls_ne (by assumption) dict_list | exact cls_ne (by assumption) it_dict | exact cls_ne (by assumption) it_list | exact meth_dict | exact meth_list | exact ne_cls (by assumption) meth_dict | exact fun h9 => absurd (ktu_clsEq (by assumption) (by assumption) h9) it_dict | exact type_none | exact ref_none))
local macro_rules | `(tactic| k_ne) => `(tactic| (first | (refine' news_ne ?N ?a ?b ?c; (case N => k_asm); (case a => k_mem); (case b => k_mem); (case c => tb_rel)) | assumption | exact Ne.symm (by assumption) | ((try dsimp only); refine Nat.ne_of_lt ?_; (first | with_reducible assumption | exact And.left (by with_reducible assumption) | exact cj2 (by with_reducible assumption) | exact cj3 (by with_reducible assumption) | exact cj4 (by with_reducible assumption) | exact cj5 (by with_reducible assumption) | exact ce1 (by with_reducible assumption) | exact ce2 (by with_reducible assumption) | exact ce3 (by with_reducible assumption) | exact ce4 (by with_reducible assumption) | exact ce5 (by with_reducible assumption))) | ((try dsimp only); refine Nat.ne_of_gt ?_; (first | with_reducible assumption | exact And.left (by with_reducible assumption) | exact cj2 (by with_reducible assumption) | exact cj3 (by with_reducible assumption) | exact cj4 (by with_reducible assumption) | exact cj5 (by with_reducible assumption) | exact ce1 (by with_reducible assumption) | exact ce2 (by with_reducible assumption) | exact ce3 (by with_reducible assumption) | exact ce4 (by with_reducible assumption) | exact ce5 (by with_reducible assumption))) | (refine neN ?_; (try dsimp only); omega)))
section
open PySem PySem.W PyProof.Rows PyProof.V PySem.Calls PySem.SeqAt

/-- a NameRef's dict, its hashes and tokens -/
structure ND where
  h1 : Int
  h2 : Int
  h3 : Int
  t1 : Tok
  t2 : Tok
  t3 : Tok
  t4 : Tok
  t5 : Tok
abbrev nrefD (a : ND) : Obj := dictOf [⟨a.h1, .str (Str.ofString "kind") a.t1, .str (Str.ofString "var") a.t2⟩, ⟨a.h2, .str (Str.ofString "owner") a.t3, .none⟩, ⟨a.h3, .str (Str.ofString "key") a.t4, .str (Str.ofString "W") a.t5⟩] 3

/-- the values of a host: W alone -/
def VHas (w : World) (o : Obj) (y : Str) : Prop := ∃ t, o.IsDictOf (PySem.strKind PySem.Challenge.rw_sa0601_01.row.prog w) [(Str.ofString "W", .str y t)]
/-- the values of a host: no name, or W alone -/
def VIn (w : World) (o : Obj) : Prop := o.IsDictOf (PySem.strKind PySem.Challenge.rw_sa0601_01.row.prog w) [] ∨ ∃ y, VHas w o y
theorem VHas.inn {w : World} {o : Obj} {y : Str} (h : VHas w o y) : VIn w o := .inr ⟨y, h⟩
theorem VIn.cls {w : World} {o : Obj} (h : VIn w o) : o.cls = .type "dict" := by
  rcases h with h | ⟨y, t, h⟩ <;> exact isDict_cls h
theorem VHas.cls {w : World} {o : Obj} {y : Str} (h : VHas w o y) : o.cls = .type "dict" := h.inn.cls
theorem set_W {w : World} {A : Around} {E : Value → Shared → Prop} {s : Shared} {h₀ : Heap} {L dd : Addr} {m : Str → Option Value} {news : List (Addr × Obj)} {g : Obj → List (Addr × Obj)} {o : Obj} {y : Str} {t u : Tok} {Q : Unit → Shared → Prop}
    (F : Fr h₀ L s.heap m) (N : News h₀ L s.heap news) (U : UpdF dd o news g) (hV : VIn w o) (h : ∀ h' o', Fr h₀ L h' m → News h₀ L h' (g o') → VHas w o' y → Q () { s with heap := h', toks := s.toks + 1 }) :
    wpAny (model PySem.Challenge.rw_sa0601_01.row.prog w) A (setItem (.ref dd) (.str (Str.ofString "W") u) (.str y t)) Q E s := by
  rcases hV with hV | ⟨y0, t0, hV⟩
  · refine setItem_K PyProof.V.same_str (strKind_is _ _ _ _) (PyProof.V.Flat.str y t) F N U hV .nil (fun h' o' F' N' hd' _ => h h' o' F' N' ⟨t, ?_⟩) (Nat.zero_le _)
    simpa [stored] using hd'
  · refine setItem_K PyProof.V.same_str (strKind_is _ _ _ _) (PyProof.V.Flat.str y t) F N U hV (.cons (PyProof.V.Flat.str y0 t0) .nil) (fun h' o' F' N' hd' _ => h h' o' F' N' ⟨t, ?_⟩) (by rw [sizeLine_eq]; exact Nat.le_of_ble_eq_true rfl)
    simpa [stored] using hd'
theorem made_out {h₀ h : Heap} {L : Addr} {l : List (Addr × Obj)} (N : Made h₀ L h l) : News h₀ L h l := N
/-- what the caller's text_of does -/
def TextOf (w : World) (f H dH cN : Addr) (d : HD) (fd : FuncData) (oc : Obj) : Prop := ∀ (y : Str) (oV : Obj) (k : Int) (tk : Tok) (rest : List (Addr × Obj)), (y = Str.ofString "ba" ∨ y = Str.ofString "ca" ∨ y = Str.ofString "cb") → VHas w oV y →
  Ctr w f [.ref H] 4 60 ((H, instObj 236 dH) :: (dH, hostD d k tk) :: (d.V, oV) :: (f, ⟨.type "function", none, .func fd, #[]⟩) :: (cN, oc) :: rest)
    (fun _ h₀ L v h' => Made h₀ L h' ((H, instObj 236 dH) :: (dH, hostD d k tk) :: (d.V, oV) :: (f, ⟨.type "function", none, .func fd, #[]⟩) :: (cN, oc) :: rest) ∧ ∃ t, v = .str (revS y) t)
theorem Ctr.mono {w : World} {f : Addr} {vs : List Value} {nd nu : Nat} {led : List (Addr × Obj)} {Ret Ret' : Heap → Heap → Addr → Value → Heap → Prop} (C : Ctr w f vs nd nu led Ret) (hr : ∀ h h₀ L v h', Ret h h₀ L v h' → Ret' h h₀ L v h') : Ctr w f vs nd nu led Ret' := by
  intro p loose mean mg mb dp un gd cn cs a ccd cl outer A₀ base h₀ L m s Q E B F X T hk hd hu N ret
  exact C.use N (B := B) (F := F) (X := X) (T := T) (hk := hk) (hd := hd) (hu := hu) fun v h' tk' F' R => ret v h' tk' F' (hr _ _ _ _ _ R)
theorem revS_len {y : Str} (hy : y = Str.ofString "ba" ∨ y = Str.ofString "ca" ∨ y = Str.ofString "cb") : (revS y).length ≤ 2 := by
  rcases hy with rfl | rfl | rfl <;> decide +kernel
theorem TextOf.use {w : World} {f H dH cN : Addr} {d : HD} {fd : FuncData} {oc : Obj} (h : TextOf w f H dH cN d fd oc) {y : Str} {oV : Obj} {k : Int} {tk : Tok} {rest : List (Addr × Obj)} (hy : y = Str.ofString "ba" ∨ y = Str.ofString "ca" ∨ y = Str.ofString "cb") (hV : VHas w oV y) :
  Ctr w f [.ref H] 4 60 ((H, instObj 236 dH) :: (dH, hostD d k tk) :: (d.V, oV) :: (f, ⟨.type "function", none, .func fd, #[]⟩) :: (cN, oc) :: rest)
    (fun _ h₀ L v h' => Made h₀ L h' rest ∧ (∃ t, v = .str (revS y) t) ∧ (revS y).length ≤ 2) :=
  (h y oV k tk rest hy hV).mono fun _ _ _ _ _ r => ⟨fun p hp => r.1 p (.tail _ (.tail _ (.tail _ (.tail _ (.tail _ hp))))), r.2, revS_len hy⟩

theorem fresh_G {h₀ h : Heap} {L l H dH : Addr} {d : HD} {k : Int} {tk : Tok} {o : Obj} {news : List (Addr × Obj)} (hF : FreshIn h l) (N : News h₀ L h news) (_m1 : (H, instObj 236 dH) ∈ news) (_m2 : (dH, hostD d k tk) ∈ news) (m3 : (d.G, o) ∈ news) : d.G ≠ l := hF _ _ (N _ m3).1
theorem hit_text {x : Str} {b c : Int} (h : hitAt x b = true) (e : c = b + 2) : ∃ y, Txt.slice x (some b) (some c) = y ∧ (y = Str.ofString "ba" ∨ y = Str.ofString "ca" ∨ y = Str.ofString "cb") := by
  subst e
  unfold hitAt at h
  rw [add_ba, add_ca, add_cb] at h
  simp only [Bool.or_eq_true, beq_iff_eq] at h
  rcases h with (h | h) | h
  · exact ⟨_, rfl, .inl h⟩
  · exact ⟨_, rfl, .inr (.inl h)⟩
  · exact ⟨_, rfl, .inr (.inr h)⟩
theorem ref_of {h₀ h : Heap} {L : Addr} {news : List (Addr × Obj)} {r r1 r2 r3 q1 q2 q3 : Addr} {a1 a2 a3 : ND} {dH V : Addr} (N : News h₀ L h news) (er : r = r1 ∨ r = r2 ∨ r = r3)
    (m1 : (r1, instObj 145 q1) ∈ news) (n1 : (q1, nrefD a1) ∈ news) (m2 : (r2, instObj 145 q2) ∈ news) (n2 : (q2, nrefD a2) ∈ news) (m3 : (r3, instObj 145 q3) ∈ news) (n3 : (q3, nrefD a3) ∈ news)
    (z2 : q1 ≠ dH) (z3 : q2 ≠ dH) (z4 : q3 ≠ dH) (z6 : q1 ≠ V) (z7 : q2 ≠ V) (z8 : q3 ≠ V) : ∃ (q : Addr) (a : ND), q ≠ dH ∧ q ≠ V ∧ Made h₀ L h [(r, instObj 145 q), (q, nrefD a)] := by
  rcases er with rfl | rfl | rfl
  · exact ⟨q1, a1, z2, z6, news_cons N m1 (news_cons N n1 News.nil)⟩
  · exact ⟨q2, a2, z3, z7, news_cons N m2 (news_cons N n2 News.nil)⟩
  · exact ⟨q3, a3, z4, z8, news_cons N m3 (news_cons N n3 News.nil)⟩

local macro_rules | `(tactic| walk_at "call ref") => `(tactic| (k_here; k_dflt (
  refine' Ctr.use (TextOf.use ?te ?hy ?hV) ?kN ?_
  (case te => assumption)
  (case hV => assumption)
  (case hy => assumption)
  (case kN => exact (news_cons (by k_asm) (by k_mem) (news_cons (by k_asm) (by k_mem) (news_cons (by k_asm) (by k_mem) (news_cons (by k_asm) (by k_mem) (news_cons (by k_asm) (by k_mem) (by k_asm)))))))
  intro v' h' tk' F' hR'
  obtain ⟨hM', ⟨t', e'⟩, hl9⟩ := hR'
  subst e'
  have N' := made_out hM'
  clear hM'
  walk_at "fo")))
local macro_rules | `(tactic| walk_at "call ref") => `(tactic| (k_here; (with_reducible show wpAny _ _ (call (Value.ref 397) _) _ _ _); k_dflt (
  refine' Ctr.use (match_c ?h0 ?h1 ?h2) ?kN ?_
  (case kN => walk_at "kn")
  (case h0 => assumption)
  (case h1 => omega)
  (case h2 => omega)
  intro v' h' tk' F' hR'
  obtain ⟨hK', ⟨k9, t9, hG', hk1', hk2'⟩, hR'⟩ := hR'
  have hO' : ∀ l, FreshIn _ l → _ := fun l hF => fresh_G (l := l) hF (by k_asm) (by k_mem) (by k_mem) (by k_mem)
  have N' := news_set (by k_asm) hK' hG' (by k_upd)
  clear hK' hG'
  rcases hR' with ⟨hc', e'⟩ | ⟨b9, hb', hm', hc', T', l', u', r', c', t', t1', s', n', e', ec', er', hN', hF'⟩
  (case' inl => (subst e'; clear hO'; walk_at "fo"))
  (case' inr => (subst e'; have zl := hO' _ hF'; clear hO' hF'; obtain ⟨y9, ey9, oy9⟩ := hit_text hc' ec'; rw [ey9] at hN'; obtain ⟨q9, a9, zq1, zq2, hM'⟩ := ref_of N' er' (by k_mem) (by k_mem) (by k_mem) (by k_mem) (by k_mem) (by k_mem) (by assumption) (by assumption) (by assumption) (by assumption) (by assumption) (by assumption); have N' := news_app hN' (news_app hM' N'); simp only [List.cons_append, List.nil_append] at N'; clear hN' hM'; walk_at "fo")))))
theorem in_nil {prog : Program} {w : World} {A : Around} {E : Value → Shared → Prop} {s : Shared} {h₀ : Heap} {L : Addr} {news : List (Addr × Obj)} {l : Addr} {n : Nat} {b : Str} {u : Tok} {Q : Value → Shared → Prop}
    (N : News h₀ L s.heap news) (hm : (l, W.listOf #[] n) ∈ news) (h : Q (.bool false) s) : wpAny (model prog w) A (compareOp .In (.str b u) (.ref l)) Q E s :=
  in_listAt (fun _ => false) ⟨_, (N _ hm).1, rfl, n, rfl⟩ (by simp) (by simpa using h)
local macro_rules | `(tactic| walk_at "compareOp In str ref") => `(tactic| (k_here; k_dflt (refine' in_nil ?N ?m ?_; (case N => k_asm); (case m => k_mem); k_whole)))
local macro_rules | `(tactic| walk_at "setItem ref str") => `(tactic| (k_here; k_dflt (refine' set_W ?F ?N ?U ?V ?_; (case F => k_asm); (case N => k_asm); (case U => k_updF); (case V => first | assumption | exact VHas.inn (by assumption)); k_whole); intro h' o' F' N' hV'; have hC' := VHas.cls hV'; (try dsimp only at N'); (try k_sweep)))
local macro_rules | `(tactic| walk_at "exec For Tuple Subscript cons nil") => `(tactic| (k_here; (rename Fr _ _ _ _ => lF'); (with_unfolding_all refine' For_turns lF' ?_; k_whole)))
local macro_rules | `(tactic| walk_at "callWith ref") => `(tactic| (k_here; k_dflt (refine' callWith_F ?k1 ?_; (case k1 => exact FnAt.of (by k_asm) (by k_mem)); k_whole)))

set_option maxRecDepth 100000 in
set_option maxHeartbeats 8000000 in
theorem once_c {w : World} {H dH n2 n1 p1 p2 p3 c1 c2 c3 r1 r2 r3 : Addr} {d : HD} {k : Int} {tk : Tok} {u1 u2 u3 u4 u5 u6 u7 u8 u9 u10 u11 : Tok} {e1 e2 e3 e4 e5 e6 e7 e8 : Nat} {q1 q2 q3 f cN : Addr} {a1 a2 a3 : ND} {oV oc : Obj} {nR nG : Nat} {its : List Value} {fd : FuncData}
    {x : Str} {tx : Tok} (hx : x.length ≤ 5) (hk0 : 0 ≤ k) (hk1 : k < 60000) (hi : its.length < 100) (hT : TextOf w f H dH cN d fd oc) (hV : VIn w oV)
    (z1 : d.V ≠ dH) (z2 : q1 ≠ dH) (z3 : q2 ≠ dH) (z4 : q3 ≠ dH) (z5 : cN ≠ dH) (z6 : q1 ≠ d.V) (z7 : q2 ≠ d.V) (z8 : q3 ≠ d.V) (z9 : cN ≠ d.V) (z10 : d.R ≠ d.G) (z12 : cN ≠ d.G) :
    Ctr w 42 [.ref 397, .ref n2, .str x tx, .bool false, .ref H, .ref f] 25 250 [(H, instObj 236 dH), (dH, hostD d k tk), (n2, tupO [.str (Str.ofString "alt") u1, .ref n1, .ref p3] e1), (n1, tupO [.str (Str.ofString "alt") u2, .ref p1, .ref p2] e2),
    (p1, tupO [.str (Str.ofString "later") u3, .ref c1, .ref r1] e3), (p2, tupO [.str (Str.ofString "later") u4, .ref c2, .ref r2] e4), (p3, tupO [.str (Str.ofString "later") u5, .ref c3, .ref r3] e5),
    (c1, tupO [.str (Str.ofString "chars") u6, .str (Str.ofString "ba") u7] e6), (c2, tupO [.str (Str.ofString "chars") u8, .str (Str.ofString "ca") u9] e7), (c3, tupO [.str (Str.ofString "chars") u10, .str (Str.ofString "cb") u11] e8),
    (r1, instObj 145 q1), (q1, nrefD a1), (r2, instObj 145 q2), (q2, nrefD a2), (r3, instObj 145 q3), (q3, nrefD a3), (d.V, oV), (d.R, W.listOf #[] nR), (d.G, W.listOf its.toArray nG), (f, ⟨.type "function", none, .func fd, #[]⟩), (cN, oc)]
      (fun h h₀ L v h' => (∃ (k' : Int) (t' : Tok), h'.get? dH = some (hostD d k' t') ∧ k ≤ k' ∧ k' ≤ k + 120) ∧
        ((KeepBut h h' [dH] ∧ (∀ b : Int, 0 ≤ b → b ≤ x.length → hitAt x b = false) ∧ v = Value.none) ∨
         (KeepBut h h' [dH, d.V, d.G] ∧ ∃ (b c : Int) (y : Str) (oV' : Obj) (nG' : Nat) (a9 : Value) (t : Tok), (0 ≤ b ∧ b ≤ x.length) ∧ (∀ b' : Int, 0 ≤ b' → b' < b → hitAt x b' = false) ∧ hitAt x b = true ∧ c = b + 2 ∧ Txt.slice x (some b) (some c) = y ∧
           (y = Str.ofString "ba" ∨ y = Str.ofString "ca" ∨ y = Str.ofString "cb") ∧ v = Value.str (Txt.slice x none (some b) ++ revS y ++ Txt.slice x (some c) none) t ∧ h'.get? d.V = some oV' ∧ VHas w oV' y ∧ h'.get? d.G = some (W.listOf (its ++ [a9]).toArray nG')))) := by
  unfold Ctr
  intro p loose mean mg mb dp un gd cn cs a ccd cl outer A₀ base h₀ L m s Q E B F X T hk hdp hun N hret
  have N₀ := N
  k_with_none
  w_top off
  have hC := hV.cls
  ktr_unf
  k_steps
  all_goals first
    | (refine hret _ _ _ (by assumption) ⟨⟨_, _, News.get (by assumption) (by k_mem), ?ka, ?kb⟩, .inl ⟨keep_of (by assumption) (by assumption) N₀ (by assumption) ?s, by assumption, rfl⟩⟩
       (case s => tb_start)
       (case ka => assumption)
       (case kb => assumption))
    | (refine hret _ _ _ (by assumption) ⟨⟨_, _, News.get (by assumption) (by k_mem), ?ka, ?kb⟩, .inr ⟨keep_of (by assumption) (by assumption) N₀ (by assumption) ?s, _, _, _, _, _, _, _, by assumption, by assumption, by assumption, by assumption, by assumption, by assumption, rfl, News.get (by assumption) (by k_mem), by assumption, push_at (News.get (by assumption) (by k_mem))⟩⟩
       (case s => tb_start)
       (case ka => assumption)
       (case kb => assumption))

end
section
open PySem PySem.W PyProof.Rows PyProof.V PySem.Calls PySem.SeqAt

structure SO where
  X : Str
  tx : Tok
  n : Nat
  z : Int
  tn : Tok
  k : Int
  tk : Tok
  oV : Obj
  its : List Value
  nG : Nat
def PP (w : World) (x : Str) (mo k : Int) (m : Nat) (c : SO) : Prop := Steps x c.n c.X ∧ (c.n : Int) ≤ mo ∧ c.X.length ≤ 5 ∧ VIn w c.oV ∧ k ≤ c.k ∧ c.k ≤ k + 120 * (c.n : Int) ∧ c.its.length ≤ m + c.n ∧ c.z = (c.n : Int)

theorem pp_next {w : World} {x : Str} {mo k : Int} {m : Nat} {c : SO} {X' : Str} {tx' tn' tk' : Tok} {k' : Int} {oV' : Obj} {nG' : Nat} (hS : Steps x c.n c.X) (hst : Step c.X X') (hz : c.z = (c.n : Int)) (hlt : c.z < mo) (hx : c.X.length ≤ 5) (hV : VIn w oV')
    (h1 : k ≤ c.k) (h2 : c.k ≤ k + 120 * (c.n : Int)) (h3 : c.k ≤ k') (h4 : k' ≤ c.k + 120) (h5 : c.its.length ≤ m + c.n) (a : Value) : PP w x mo k m ⟨X', tx', c.n + 1, c.z + 1, tn', k', tk', oV', c.its ++ [a], nG'⟩ := by
  refine ⟨.succ hS hst, ?_, ?_, hV, ?_, ?_, ?_, ?_⟩
  · show ((c.n + 1 : Nat) : Int) ≤ mo
    omega
  · show X'.length ≤ 5
    rw [step_len hst]; exact hx
  · show k ≤ k'
    omega
  · show k' ≤ k + 120 * ((c.n + 1 : Nat) : Int)
    omega
  · show (c.its ++ [a]).length ≤ m + (c.n + 1)
    rw [List.length_append, List.length_singleton]; omega
  · show c.z + 1 = ((c.n + 1 : Nat) : Int)
    omega
theorem news_set3 {h₀ h h' : Heap} {L d1 d2 d3 : Addr} {o1 o1' o2 o2' o3 o3' : Obj} {n0 n1 n2 n3 : List (Addr × Obj)} (N : News h₀ L h n0) (K : KeepBut h h' [d1, d2, d3]) (e1 : h'.get? d1 = some o1') (e2 : h'.get? d2 = some o2') (e3 : h'.get? d3 = some o3')
    (U1 : Upd d1 o1 o1' n0 n1) (U2 : Upd d2 o2 o2' n1 n2) (U3 : Upd d3 o3 o3' n2 n3) : News h₀ L h' n3 := by
  have upd : ∀ {d : Addr} {o o' : Obj} {a b : List (Addr × Obj)}, Upd d o o' a b → ∀ p ∈ b, p = (d, o') ∨ (p ∈ a ∧ p.1 ≠ d) := by
    intro d o o' a b U p hp
    obtain ⟨pre, post, rfl, rfl, h1, h2⟩ := U.split
    rcases List.mem_append.mp hp with q | q
    · exact .inr ⟨List.mem_append_left _ q, h1 p q⟩
    · rcases List.mem_cons.mp q with rfl | q
      · exact .inl rfl
      · exact .inr ⟨List.mem_append_right _ (.tail _ q), h2 p q⟩
  have old : ∀ {d : Addr} {o o' : Obj} {a b : List (Addr × Obj)}, Upd d o o' a b → (d, o) ∈ a := by
    intro d o o' a b U
    obtain ⟨pre, post, rfl, rfl, _, _⟩ := U.split
    simp
  have keyIn : ∀ {d : Addr} {o o' : Obj} {a b : List (Addr × Obj)}, Upd d o o' a b → ∀ p ∈ b, ∃ q ∈ a, q.1 = p.1 := by
    intro d o o' a b U p hp
    rcases upd U p hp with rfl | ⟨h, _⟩
    · exact ⟨_, old U, rfl⟩
    · exact ⟨p, h, rfl⟩
  intro p hp
  obtain ⟨q, hq, eq⟩ := keyIn U3 p hp
  obtain ⟨q2, hq2, eq2⟩ := keyIn U2 q hq
  obtain ⟨q3, hq3, eq3⟩ := keyIn U1 q2 hq2
  have side : p.1 ≠ L ∧ h₀.get? p.1 = none := by rw [← eq, ← eq2, ← eq3]; exact (N q3 hq3).2
  refine ⟨?_, side⟩
  rcases upd U3 p hp with rfl | ⟨hp3, n3'⟩
  · exact e3
  · rcases upd U2 p hp3 with rfl | ⟨hp2, n2'⟩
    · exact e2
    · rcases upd U1 p hp2 with rfl | ⟨hp1, n1'⟩
      · exact e1
      · exact K _ _ (N p hp1).1 (by simp [n1', n2', n3'])

local macro_rules | `(tactic| walk_at "call ref") => `(tactic| (k_here; (with_reducible show wpAny _ _ (call (Value.ref 42) _) _ _ _); k_dflt (
  refine' Ctr.use (once_c ?_ ?h1 ?h2 ?h3 ?h4 ?_ ?_ ?_ ?_ ?_ ?_ ?_ ?_ ?_ ?_ ?_ ?_) ?kN ?_
  (case h4 => assumption)
  (case kN => walk_at "kn")
  (case h1 => omega)
  (case h2 => omega)
  (case h3 => omega)
  iterate 13 assumption
  intro v' h' tk' F' hR'
  obtain ⟨⟨k9, t9, hG', hk1', hk2'⟩, hR'⟩ := hR'
  rcases hR' with ⟨hK', hc', e'⟩ | ⟨hK', b9, c9, y9, oV9, nG9, a9, t8, hb', hm', hc', ec', ey9, oy9, e', hV9, hVh, hG9⟩
  (case' inl => (have N' := news_set (by k_asm) hK' hG' (by k_upd); clear hK' hG'; subst e'; walk_at "fo"))
  (case' inr => (have N' := news_set3 (by k_asm) hK' hG' hV9 hG9 (by k_upd) (by k_upd) (by k_upd); clear hK' hG' hV9 hG9; subst e'; walk_at "fo")))))

set_option maxRecDepth 100000 in
set_option maxHeartbeats 8000000 in
theorem often_c {w : World} {H dH n2 n1 p1 p2 p3 c1 c2 c3 r1 r2 r3 : Addr} {d : HD} {k : Int} {tkH : Tok} {u1 u2 u3 u4 u5 u6 u7 u8 u9 u10 u11 : Tok} {e1 e2 e3 e4 e5 e6 e7 e8 : Nat} {q1 q2 q3 f cN : Addr} {a1 a2 a3 : ND} {oV oc : Obj} {nR nG : Nat} {its : List Value} {fd : FuncData}
    {x : Str} {tx : Tok} {mo : Int} {tm : Tok} (hx : x.length ≤ 5) (hk0 : 0 ≤ k) (hk1 : k < 1000) (hi : its = []) (hm0 : 0 ≤ mo) (hm1 : mo < 100) (hT : TextOf w f H dH cN d fd oc) (hV : VIn w oV)
    (z1 : d.V ≠ dH) (z2 : q1 ≠ dH) (z3 : q2 ≠ dH) (z4 : q3 ≠ dH) (z5 : cN ≠ dH) (z6 : q1 ≠ d.V) (z7 : q2 ≠ d.V) (z8 : q3 ≠ d.V) (z9 : cN ≠ d.V) (z10 : d.R ≠ d.G) (z12 : cN ≠ d.G) :
    Ctr w 49 [.ref 397, .ref n2, .str x tx, .bool false, .ref H, .ref f, .int mo tm] 29 300 [(H, instObj 236 dH), (dH, hostD d k tkH), (n2, tupO [.str (Str.ofString "alt") u1, .ref n1, .ref p3] e1), (n1, tupO [.str (Str.ofString "alt") u2, .ref p1, .ref p2] e2),
    (p1, tupO [.str (Str.ofString "later") u3, .ref c1, .ref r1] e3), (p2, tupO [.str (Str.ofString "later") u4, .ref c2, .ref r2] e4), (p3, tupO [.str (Str.ofString "later") u5, .ref c3, .ref r3] e5),
    (c1, tupO [.str (Str.ofString "chars") u6, .str (Str.ofString "ba") u7] e6), (c2, tupO [.str (Str.ofString "chars") u8, .str (Str.ofString "ca") u9] e7), (c3, tupO [.str (Str.ofString "chars") u10, .str (Str.ofString "cb") u11] e8),
    (r1, instObj 145 q1), (q1, nrefD a1), (r2, instObj 145 q2), (q2, nrefD a2), (r3, instObj 145 q3), (q3, nrefD a3), (d.V, oV), (d.R, W.listOf #[] nR), (d.G, W.listOf its.toArray nG), (f, ⟨.type "function", none, .func fd, #[]⟩), (cN, oc)]
      (fun h h₀ L v h' => KeepBut h h' [dH, d.V, d.G] ∧ ∃ (T : Addr) (X : Str) (n : Nat) (z : Int) (t t2 : Tok), v = Value.ref T ∧ Made h₀ L h' [(T, tupO [.str X t, .int z t2] 0)] ∧ z = (n : Int) ∧ Steps x n X ∧ (n : Int) ≤ mo ∧ ((n : Int) = mo ∨ NoHit X)) := by
  unfold Ctr
  intro p loose mean mg mb dp un gd cn cs a ccd cl outer A₀ base h₀ L m s Q E B F X T hk hdp hun N hret
  have N₀ := N
  k_with_none
  w_top off
  have hC := hV.cls
  have hi0 : its.length = 0 := by rw [hi]; rfl
  k_with_none
  w_top off
  k_with "exec While Compare cons nil" => (refine' ksw_while (σ := SO) (fun c => [(H, instObj 236 dH), (dH, hostD d c.k c.tk), (n2, tupO [.str (Str.ofString "alt") u1, .ref n1, .ref p3] e1), (n1, tupO [.str (Str.ofString "alt") u2, .ref p1, .ref p2] e2), (p1, tupO [.str (Str.ofString "later") u3, .ref c1, .ref r1] e3), (p2, tupO [.str (Str.ofString "later") u4, .ref c2, .ref r2] e4), (p3, tupO [.str (Str.ofString "later") u5, .ref c3, .ref r3] e5), (c1, tupO [.str (Str.ofString "chars") u6, .str (Str.ofString "ba") u7] e6), (c2, tupO [.str (Str.ofString "chars") u8, .str (Str.ofString "ca") u9] e7), (c3, tupO [.str (Str.ofString "chars") u10, .str (Str.ofString "cb") u11] e8), (r1, instObj 145 q1), (q1, nrefD a1), (r2, instObj 145 q2), (q2, nrefD a2), (r3, instObj 145 q3), (q3, nrefD a3), (d.V, c.oV), (d.R, W.listOf #[] nR), (d.G, W.listOf c.its.toArray c.nG), (f, ⟨.type "function", none, .func fd, #[]⟩), (cN, oc)]) (fun c => [(Str.ofString "subject", .str c.X c.tx), (Str.ofString "many", .int c.z c.tn)]) (fun _ => True) [Str.ofString "later", Str.ofString "subject", Str.ofString "many"] (fun c => PP w x mo k its.length c) (fun c => (mo - c.n).toNat) ⟨x, tx, 0, 0, _, k, tkH, oV, its, nG⟩ ?wF ?wN trivial ?wk ?wp ?wt ?wE; (case wF => k_asm); (case wN => k_asm); (case wk => (intro p hp; simp only [List.mem_cons, List.not_mem_nil, or_false] at hp; rcases hp with rfl | rfl <;> rfl)); (case wp => exact ⟨.zero, by simpa using hm0, hx, hV, by simp, by simp, by simp, rfl⟩); (case wE => first | passes_own | with_unfolding_all passes_own); intro c9 u9 h9 tk9 hf9 hp9 F9 N9; obtain ⟨hS9, hn9, hx9, hV9, hk9, hk99, hi9, hz9⟩ := hp9; have hC9 := hV9.cls; (try k_fold))
  ktr_unf
  k_steps
  all_goals first
    | (refine hret _ _ _ (by assumption) ⟨keep_of (by assumption) (by assumption) N₀ (by assumption) ?s, _, _, _, _, _, _, rfl, made (news_cons (by assumption) (by k_mem) News.nil), by assumption, by assumption, by assumption, .inr (by assumption)⟩
       (case s => tb_start))
    | (refine hret _ _ _ (by assumption) ⟨keep_of (by assumption) (by assumption) N₀ (by assumption) ?s, _, _, _, _, _, _, rfl, made (news_cons (by assumption) (by k_mem) News.nil), by assumption, by assumption, by assumption, .inl (by omega)⟩
       (case s => tb_start))
    | ((rename Fr _ _ _ _ => F8); (rename News _ _ _ _ => N8)
       refine ksw_end (⟨_, _, c9.n + 1, _, _, _, _, _, _, _⟩ : SO) F8 N8 (by dsimp only; repeat (first | exact List.forall_mem_nil _ | refine List.forall_mem_cons.mpr (And.intro (by k_mem) ?_))) trivial (List.forall_mem_cons.mpr ⟨rfl, List.forall_mem_cons.mpr ⟨rfl, List.forall_mem_nil _⟩⟩) ?hr ?hp ?hm
       (case hr => (intro z8 h2 h3; (simp only [List.forall_mem_cons, List.not_mem_nil, false_implies, implies_true, and_true, ne_eq] at h2); (simp only [List.contains_cons, List.contains_nil, Bool.or_false, Bool.or_eq_false_iff, beq_eq_false_iff_ne, ne_eq] at h3); simp [h2, h3, kstB]))
       (case hp => exact pp_next (by assumption) ⟨_, _, _, by assumption, by assumption, by assumption, by assumption, by assumption, by assumption, rfl⟩ (by assumption) (by assumption) (by assumption) (VHas.inn (by assumption)) (by assumption) (by assumption) (by assumption) (by assumption) (by assumption) _)
       (case hm => (dsimp only; omega)))

end
section
open PySem PySem.W PyProof.Rows PyProof.V PySem.Calls PySem.SeqAt

theorem fresh_ne {h₀ h : Heap} {L q b : Addr} {o : Obj} {led : List (Addr × Obj)} (f : FreshIn h q) (N : News h₀ L h led) (hm : (b, o) ∈ led) : q ≠ b := fun e => f b o (N _ hm).1 e.symm
theorem fresh_nil {h g' h' : Heap} {L' l : Addr} {o : Obj} {news : List (Addr × Obj)} (kG : GSub h g' (([] : List (Addr × Obj)).map (·.1))) (N' : News g' L' h' news) (hm : (l, o) ∈ news) : FreshIn h l := fun b o' e q => by
  have h1 := kG b o' e (by simp)
  rw [q, (N' _ hm).2.2] at h1
  cases h1
set_option maxRecDepth 100000 in
set_option maxHeartbeats 8000000 in
theorem falls_c {w : World} : Ctr w 465 [] 6 80 [] (fun h h₀ L v h' => KeepBut h h' [] ∧ ∃ (n2 n1 p1 p2 p3 c1 c2 c3 r1 r2 r3 q1 q2 q3 : Addr) (u1 u2 u3 u4 u5 u6 u7 u8 u9 u10 u11 : Tok) (a1 a2 a3 : ND), v = .ref n2 ∧
    Made h₀ L h' [(n2, tupO [.str (Str.ofString "alt") u1, .ref n1, .ref p3] 0), (n1, tupO [.str (Str.ofString "alt") u2, .ref p1, .ref p2] 0), (p1, tupO [.str (Str.ofString "later") u3, .ref c1, .ref r1] 0), (p2, tupO [.str (Str.ofString "later") u4, .ref c2, .ref r2] 0), (p3, tupO [.str (Str.ofString "later") u5, .ref c3, .ref r3] 0), (c1, tupO [.str (Str.ofString "chars") u6, .str (Str.ofString "ba") u7] 0), (c2, tupO [.str (Str.ofString "chars") u8, .str (Str.ofString "ca") u9] 0), (c3, tupO [.str (Str.ofString "chars") u10, .str (Str.ofString "cb") u11] 0), (r1, instObj 145 q1), (q1, nrefD a1), (r2, instObj 145 q2), (q2, nrefD a2), (r3, instObj 145 q3), (q3, nrefD a3)] ∧ FreshIn h q1 ∧ FreshIn h q2 ∧ FreshIn h q3) := by
  unfold Ctr
  intro p loose mean mg mb dp un gd cn cs a ccd cl outer A₀ base h₀ L m s Q E B F X T hk hdp hun N hret
  have N₀ := N
  k_with_none
  w_top off
  ktr_unf
  k_steps
  refine hret _ _ _ (by assumption) ⟨keep_of (by assumption) (by assumption) N₀ (News.nil (L := L)) (by simp), _, _, _, _, _, _, _, _, _, _, _, _, _, _, _, _, _, _, _, _, _, _, _, _, _, ⟨_, _, _, _, _, _, _, _⟩, ⟨_, _, _, _, _, _, _, _⟩, ⟨_, _, _, _, _, _, _, _⟩, rfl, made (news_cons (by assumption) (by k_mem) (news_cons (by assumption) (by k_mem) (news_cons (by assumption) (by k_mem) (news_cons (by assumption) (by k_mem) (news_cons (by assumption) (by k_mem) (news_cons (by assumption) (by k_mem) (news_cons (by assumption) (by k_mem) (news_cons (by assumption) (by k_mem) (news_cons (by assumption) (by k_mem) (news_cons (by assumption) (by k_mem) (news_cons (by assumption) (by k_mem) (news_cons (by assumption) (by k_mem) (news_cons (by assumption) (by k_mem) (news_cons (by assumption) (by k_mem) News.nil)))))))))))))), ?f1, ?f2, ?f3⟩
  (case f1 => exact fresh_nil (by assumption) (by assumption) (by k_mem))
  (case f2 => exact fresh_nil (by assumption) (by assumption) (by k_mem))
  (case f3 => exact fresh_nil (by assumption) (by assumption) (by k_mem))

end
section
open PySem PySem.W PyProof.Rows PyProof.V PySem.Calls PySem.SeqAt

theorem often_c2 {w : World} {H dH n2 n1 p1 p2 p3 c1 c2 c3 r1 r2 r3 : Addr} {d : HD} {k : Int} {tkH : Tok} {u1 u2 u3 u4 u5 u6 u7 u8 u9 u10 u11 : Tok} {e1 e2 e3 e4 e5 e6 e7 e8 : Nat} {q1 q2 q3 f cN : Addr} {a1 a2 a3 : ND} {oV oc : Obj} {nR nG : Nat} {its : List Value} {fd : FuncData}
    {vsO : Array Value} (_hoc : oc.data = .fields vsO) {x : Str} {tx : Tok} {mo : Int} {tm : Tok} (hx : x.length ≤ 5) (hk0 : 0 ≤ k) (hk1 : k < 1000) (hi : its = []) (hm0 : 0 ≤ mo) (hm1 : mo < 100) (hT : TextOf w f H dH cN d fd oc) (hV : VIn w oV)
    (z1 : d.V ≠ dH) (z2 : q1 ≠ dH) (z3 : q2 ≠ dH) (z4 : q3 ≠ dH) (z5 : cN ≠ dH) (z6 : q1 ≠ d.V) (z7 : q2 ≠ d.V) (z8 : q3 ≠ d.V) (z9 : cN ≠ d.V) (z10 : d.R ≠ d.G) (z12 : cN ≠ d.G) :
    Ctr w 49 [.ref 397, .ref n2, .str x tx, .bool false, .ref H, .ref f, .int mo tm] 29 300 [(H, instObj 236 dH), (dH, hostD d k tkH), (n2, tupO [.str (Str.ofString "alt") u1, .ref n1, .ref p3] e1), (n1, tupO [.str (Str.ofString "alt") u2, .ref p1, .ref p2] e2),
    (p1, tupO [.str (Str.ofString "later") u3, .ref c1, .ref r1] e3), (p2, tupO [.str (Str.ofString "later") u4, .ref c2, .ref r2] e4), (p3, tupO [.str (Str.ofString "later") u5, .ref c3, .ref r3] e5),
    (c1, tupO [.str (Str.ofString "chars") u6, .str (Str.ofString "ba") u7] e6), (c2, tupO [.str (Str.ofString "chars") u8, .str (Str.ofString "ca") u9] e7), (c3, tupO [.str (Str.ofString "chars") u10, .str (Str.ofString "cb") u11] e8),
    (r1, instObj 145 q1), (q1, nrefD a1), (r2, instObj 145 q2), (q2, nrefD a2), (r3, instObj 145 q3), (q3, nrefD a3), (d.V, oV), (d.R, W.listOf #[] nR), (d.G, W.listOf its.toArray nG), (f, ⟨.type "function", none, .func fd, #[]⟩), (cN, oc)]
      (fun h h₀ L v h' => KeepBut h h' [dH, d.V, d.G] ∧ Made h₀ L h' [(cN, oc)] ∧ ∃ (T : Addr) (X : Str) (n : Nat) (z : Int) (t t2 : Tok), v = Value.ref T ∧ Made h₀ L h' [(T, tupO [.str X t, .int z t2] 0)] ∧ z = (n : Int) ∧ Steps x n X ∧ (n : Int) ≤ mo ∧ ((n : Int) = mo ∨ NoHit X)) := by
  intro p loose mean mg mb dp un gd cn cs a ccd cl outer A₀ base h₀ L m s Q E B F X T hk hd hu N ret
  refine (often_c hx hk0 hk1 hi hm0 hm1 hT hV z1 z2 z3 z4 z5 z6 z7 z8 z9 z10 z12).use N (B := B) (F := F) (X := X) (T := T) (hk := hk) (hd := hd) (hu := hu) fun v h' tk' F' R => ret v h' tk' F' ⟨R.1, ?_, R.2⟩
  have q := N (cN, oc) (by k_mem)
  intro p hp
  rw [List.mem_singleton.mp hp]
  exact ⟨R.1 _ _ q.1 (by simp [z5, z9, z12]), q.2⟩
theorem news_kept {h₀ h h' : Heap} {L : Addr} {a : List (Addr × Obj)} {ds : List Addr} (K : KeepBut h h' ds) (N : News h₀ L h a) (hs : ∀ p ∈ a, p.1 ∉ ds) : News h₀ L h' a := fun p hp => ⟨K _ _ (N p hp).1 (hs p hp), (N p hp).2⟩
theorem apart3 {a d1 d2 d3 : Addr} {o : Obj} (h1 : a ≠ d1) (h2 : a ≠ d2) (h3 : a ≠ d3) : ∀ p ∈ [(a, o)], p.1 ∉ [d1, d2, d3] := fun p hp => by
  rw [List.mem_singleton.mp hp]
  simp [h1, h2, h3]
theorem line_y {y : Str} (h : y = Str.ofString "ba" ∨ y = Str.ofString "ca" ∨ y = Str.ofString "cb") : y.length ≤ sizeLine := by
  rw [PySem.sizeLine_eq]
  rcases h with rfl | rfl | rfl <;> exact Nat.le_of_ble_eq_true rfl
theorem rev_slice (x : Str) (u : Tok) : Txt.sliceBy x none none (-1, u) = revS x := by
  apply str_of
  rw [step_rev_list]
  show _ = x.cps.reverse.toList
  rw [Array.toList_reverse]
  apply List.ext_getElem
  · simp [Str.length]
  · intro i h1 h2
    have h3 : i < x.cps.size := by simpa [Str.length] using h1
    simp only [List.getElem_map, List.getElem_range, List.getElem_reverse, Array.length_toList, Str.length, Array.getElem_toList]
    rw [Array.getD_eq_getD_getElem?, Array.getElem?_eq_getElem (by omega)]
    rfl

theorem str_rev {x : Str} {k : Int} {u t : Tok} (e : k = -1) : Value.str (Txt.sliceBy x none none (k, u)) t = .str (revS x) t := by
  subst e
  rw [rev_slice]
local macro_rules | `(tactic| walk_at "subscriptTail") => `(tactic| (k_here; (with_reducible show wpAny _ _ (subscriptTail _ (Expr.Slice none none (some _) _) (Value.str _ _) _) _ _ _); (with_reducible rename Fr _ _ _ _ => F'); (with_reducible rename News _ _ _ _ => N'); (refine slice_strK_nn (hsz := ?hsz) (s := ⟨_, _, _, _, _⟩) F' N' (by decide) ?_); (case hsz => exact line_y (by assumption)); intro _ _ _ F' N'))
theorem fresh_all {h₀ h : Heap} {L q : Addr} {led : List (Addr × Obj)} (f : FreshIn h q) (N : News h₀ L h led) : ∀ p ∈ led, q ≠ p.1 := fun _ hp e => f _ _ (N _ hp).1 e.symm
theorem fresh_use {q b : Addr} {o : Obj} {led : List (Addr × Obj)} (f : ∀ p ∈ led, q ≠ p.1) (hm : (b, o) ∈ led) : q ≠ b := f _ hm
local macro_rules | `(tactic| walk_at "call ref") => `(tactic| (k_here; (with_reducible show wpAny _ _ (call (Value.ref 465) _) _ _ _); k_dflt (
  refine' Ctr.use falls_c ?kN ?_
  (case kN => exact News.nil)
  intro v' h' tk' F' hR'
  obtain ⟨hK', _, _, _, _, _, _, _, _, _, _, _, _, _, _, _, _, _, _, _, _, _, _, _, _, _, _, _, _, e', hM', hf1, hf2, hf3⟩ := hR'
  have hq1 := fresh_all hf1 (by k_asm)
  have hq2 := fresh_all hf2 (by k_asm)
  have hq3 := fresh_all hf3 (by k_asm)
  have N' := news_app hM' (news_same (by k_asm) hK')
  simp only [List.cons_append, List.nil_append] at N'
  clear hK' hM' hf1 hf2 hf3
  subst e'
  walk_at "fo")))
local macro_rules | `(tactic| walk_at "call ref") => `(tactic| (k_here; (with_reducible show wpAny _ _ (call (Value.ref 49) _) _ _ _); k_dflt (
  refine' Ctr.use0 (often_c2 (d := HD.mk _ _ _ _ _ _ _ _ _ _ _ _ _ _ _ _ _) (its := []) ?hoc ?h0 ?h1 ?h2 rfl ?h4 ?h5 ?hT ?hV ?z1 ?z2 ?z3 ?z4 ?z5 ?z6 ?z7 ?z8 ?z9 ?z10 ?z12) ?k1 ?k2 ?k3 ?k4 ?kK ?kd ?ku ?kN ?_
  (case hoc => assumption)
  (case kN => exact (news_cons (by k_asm) (by k_mem) (news_cons (by k_asm) (by k_mem) (news_cons (by k_asm) (by k_mem) (news_cons (by k_asm) (by k_mem) (news_cons (by k_asm) (by k_mem) (news_cons (by k_asm) (by k_mem) (news_cons (by k_asm) (by k_mem) (news_cons (by k_asm) (by k_mem) (news_cons (by k_asm) (by k_mem) (news_cons (by k_asm) (by k_mem) (news_cons (by k_asm) (by k_mem) (news_cons (by k_asm) (by k_mem) (news_cons (by k_asm) (by k_mem) (news_cons (by k_asm) (by k_mem) (news_cons (by k_asm) (by k_mem) (news_cons (by k_asm) (by k_mem) (news_cons (by k_asm) (by k_mem) (news_cons (by k_asm) (by k_mem) (news_cons (by k_asm) (by k_mem) (news_cons (by k_asm) (by k_mem) (news_cons (by k_asm) (by k_mem) News.nil))))))))))))))))))))))
  (case k1 => k_asm); (case k2 => k_asm); (case k3 => k_asm); (case k4 => k_asm); (case kK => first | exact rfl | assumption); (case kd => k_room); (case ku => k_units)
  (case h0 => assumption)
  (case h1 => omega)
  (case h2 => omega)
  (case h4 => assumption)
  (case h5 => assumption)
  (case hV => exact .inl (by assumption))
  (case z1 => k_ne)
  (case z2 => exact fresh_use (by assumption) (by k_mem)); (case z3 => exact fresh_use (by assumption) (by k_mem)); (case z4 => exact fresh_use (by assumption) (by k_mem)); (case z6 => exact fresh_use (by assumption) (by k_mem)); (case z7 => exact fresh_use (by assumption) (by k_mem)); (case z8 => exact fresh_use (by assumption) (by k_mem))
  (case z5 => k_ne)
  (case z9 => k_ne)
  (case z10 => k_ne)
  (case z12 => k_ne)
  (case' hT => (intro y8 _ _ _ _ _ hV8 _ _ _ _ _ _ _ _ _ _ _ _ _ _ _ _ _ _ _ _ _ _ _ _ _ _ _ _ _ _ _; obtain ⟨t8, hV8⟩ := hV8; have hf8 := FlatPairs.cons (enc := PyData.str) (k := Str.ofString "W") (PyProof.V.Flat.str y8 t8) FlatPairs.nil; refine wpAny_call ?_; refine' kla_code ?k1 ?k2 ?k3 ?k4 ?k5 ?kA ?kF ?kK ?k6 ?k7 ?k8 ?k9 ?kB ?_ ?c2 ?c3 ?c4 ?c5; (case kA => exact rfl); (case kF => exact rfl); (case kK => assumption); (case k1 => k_asm); (case k2 => k_asm); (case k3 => k_asm); (case k4 => k_asm); (case k5 => k_asm); (case k6 => k_mem); (case k7 => exact codeRec_news (by k_asm) (by k_mem) (by assumption) (by assumption)); (case k8 => k_room); (case k9 => exact rfl); (case c5 => decide); (case kB => exact locs rfl); (case c2 => exact rfl); (case c3 => exact rfl); (case c4 => exact rfl); k_whole; intro g' L' h' FG' F' N' B' X' T'; (try dsimp only); (try k_lift B'); (try k_fold)))
  rotate_left
  intro v' h' tk' F' hR'
  obtain ⟨hK', hC', _, _, _, _, _, _, e', hM', _, _, _, _⟩ := hR'
  have N' := news_app hM' (news_app hC' (news_kept hK' (news_cons (by k_asm) (show (467, _) ∈ _ by k_mem) News.nil) (apart3 (by k_ne) (by k_ne) (by k_ne))))
  simp only [List.cons_append, List.nil_append] at N'
  subst e'
  (try dsimp only)
  (try k_fold))))

def qualD : Str := (envOf (Str.ofString "_law_done") default 0 472 (.ref 471)).qual ++ Str.ofString "<lambda>"
set_option maxRecDepth 100000 in
set_option maxHeartbeats 8000000 in
theorem done_c {w : World} {x : Str} {tx : Tok} {mo : Int} {tmo : Tok} (hx : x.length ≤ 5) (hm0 : 0 ≤ mo) (hm1 : mo < 100) 
    (p : Program) (loose : List Str) (mean : ExcName → Option Value) (mg mb : Str → Option Value)
    (dp un : Nat) (gd : Option (List Code)) (cn : Str) (cs : Scope) (a : Addr) (ccd : Value) (cl : List (Str × Addr)) (outer : List Env) (A₀ : Around) (base h₀ : Heap) (L : Addr) (m : Str → Option Value) (s : Shared) (Q E : Value → Shared → Prop)
    (B : Below A₀ base outer h₀) (F : Fr h₀ L s.heap m) (X : (k0.heap_1 w.params).In h₀) (T : Top p loose mean mg mb h₀) (hk : cs.kind = .function) (hdp : dp + 40 < recursionLimit) (hun : un + 400 < cLine) (N : News h₀ L s.heap [(467, tabObj #[])])
    (codeHd : CodeHd h₀ 471 467)
    (ret : ∀ (T : Addr) (h' : Heap) (tk' : Nat) (c' : Addr) (oc : Obj) (vs' : Array Value) (t' : Tok) (X : Str) (n : Nat) (z : Int) (t1 t2 : Tok), Fr h₀ L h' m → KeepBut s.heap h' [467] → Made h₀ L h' [(T, tupO [.str X t1, .int z t2] 0), (c', oc), (467, tabObj #[rawInt ((327 : Nat) : Int), rawInt ((74 : Nat) : Int), .ref c'])] →
      oc.data = .fields vs' → vs'[1]? = some (.str qualD t') → z = (n : Int) → Steps x n X → (n : Int) ≤ mo → ((n : Int) = mo ∨ NoHit X) → Q (.ref T) { s with heap := h', toks := tk' }) :
    wpAny (model PySem.Challenge.rw_sa0601_01.row.prog w) (ktrTop dp un gd cn cs L a ccd cl outer) (call (.ref 472) [.str x tx, .int mo tmo]) Q E s := by
  have N₀ := N
  k_with_none
  w_top off
  ktr_unf
  rename Fr h₀ L _ m => FG9
  have codeHd2 := codeHd.keeps FG9.keep
  clear codeHd
  k_steps
  · refine ret _ _ _ _ _ _ _ _ _ _ _ _ (by assumption) (keep_of (by assumption) (by assumption) N₀ (News.nil (L := L)) ?s) (made (by assumption)) (by assumption) (by assumption) (by assumption) (by assumption) (by assumption) (by assumption)
    (case s => (intro p hp; rw [List.mem_singleton.mp hp]; simp))
  · rename (∀ (v : Value) (h' : Heap) (tk' : Nat), Fr _ _ h' _ → _) => ret8
    refine ret8 _ _ _ (by assumption) ⟨made (by assumption), _, str_rev (by decide)⟩
set_option maxRecDepth 100000 in
set_option maxHeartbeats 8000000 in
theorem done_c2 {w : World} {x : Str} {tx : Tok} {mo : Int} {tmo : Tok} (hx : x.length ≤ 5) (hm0 : 0 ≤ mo) (hm1 : mo < 100) 
    (p : Program) (loose : List Str) (mean : ExcName → Option Value) (mg mb : Str → Option Value)
    (dp un : Nat) (gd : Option (List Code)) (cn : Str) (cs : Scope) (a : Addr) (ccd : Value) (cl : List (Str × Addr)) (outer : List Env) (A₀ : Around) (base h₀ : Heap) (L : Addr) (m : Str → Option Value) (s : Shared) (Q E : Value → Shared → Prop)
    (B : Below A₀ base outer h₀) (F : Fr h₀ L s.heap m) (X : (k0.heap_1 w.params).In h₀) (T : Top p loose mean mg mb h₀) (hk : cs.kind = .function) (hdp : dp + 40 < recursionLimit) (hun : un + 400 < cLine) {c0 : Addr} {oc0 : Obj} {vs0 : Array Value} {t0 : Tok} (hoc0 : oc0.data = .fields vs0) (hq0 : vs0[1]? = some (.str qualD t0)) (N : News h₀ L s.heap [(467, tabObj #[rawInt ((327 : Nat) : Int), rawInt ((74 : Nat) : Int), .ref c0]), (c0, oc0)])
    (codeHd : CodeHd h₀ 471 467)
    (ret : ∀ (T : Addr) (h' : Heap) (tk' : Nat) (X : Str) (n : Nat) (z : Int) (t1 t2 : Tok), Fr h₀ L h' m → KeepBut s.heap h' [] → Made h₀ L h' [(T, tupO [.str X t1, .int z t2] 0)] →
      z = (n : Int) → Steps x n X → (n : Int) ≤ mo → ((n : Int) = mo ∨ NoHit X) → Q (.ref T) { s with heap := h', toks := tk' }) :
    wpAny (model PySem.Challenge.rw_sa0601_01.row.prog w) (ktrTop dp un gd cn cs L a ccd cl outer) (call (.ref 472) [.str x tx, .int mo tmo]) Q E s := by
  have N₀ := N
  k_with_none
  w_top off
  ktr_unf
  rename Fr h₀ L _ m => FG9
  have codeHd2 := codeHd.keeps FG9.keep
  clear codeHd
  k_steps
  · refine ret _ _ _ _ _ _ _ _ (by assumption) (keep_of (by assumption) (by assumption) N₀ (by assumption) ?s) (made (news_cons (by assumption) (by k_mem) News.nil)) (by assumption) (by assumption) (by assumption) (by assumption)
    (case s => tb_start)
  · rename (∀ (v : Value) (h' : Heap) (tk' : Nat), Fr _ _ h' _ → _) => ret8
    refine ret8 _ _ _ (by assumption) ⟨made (by assumption), _, str_rev (by decide)⟩

end
end
end
section
open PySem PySem.W PyProof.Rows PyProof.V PySem.Calls PySem.SeqAt PySem.Spec
set_option maxRecDepth 100000
abbrev feedO (D : Addr) (i : Int) (t : Tok) (n : Nat) : Obj := W.listOf #[.ref D, .int i t] n
def Letter (z : Str) : Prop := ∃ c : Nat, z = ⟨#[c]⟩ ∧ (c = 97 ∨ c = 98 ∨ c = 99)
theorem letter_item {r : Int} (h0 : 0 ≤ r) (h1 : r < 3) : Letter (Txt.item (Str.ofString "abc") r) := by
  have : r = 0 ∨ r = 1 ∨ r = 2 := by omega
  rcases this with rfl | rfl | rfl
  · exact ⟨97, by decide +kernel, .inl rfl⟩
  · exact ⟨98, by decide +kernel, .inr (.inl rfl)⟩
  · exact ⟨99, by decide +kernel, .inr (.inr rfl)⟩
theorem letters_signs : ∀ (xs : List Str), (∀ z ∈ xs, Letter z) → ∃ w : Str, xs = signs w ∧ abc w.cps.toList ∧ w.length = xs.length
  | [], _ => ⟨⟨#[]⟩, rfl, fun c hc => by simp at hc, rfl⟩
  | z :: r, h => by
    obtain ⟨w, e, ha, hl⟩ := letters_signs r fun z' h' => h z' (.tail _ h')
    obtain ⟨c, rfl, hc⟩ := h z (.head _)
    refine ⟨⟨(c :: w.cps.toList).toArray⟩, ?_, ?_, ?_⟩
    · simp only [signs, List.map_cons] at e ⊢
      rw [e]
    · intro d hd
      have hd' : d = c ∨ d ∈ w.cps.toList := by simpa using hd
      rcases hd' with rfl | hd'
      · exact hc
      · exact ha d hd'
    · simp only [Str.length] at hl ⊢
      simp [hl]
theorem signs_len (w : Str) : (signs w).length = w.length := by simp [signs, Str.length]
theorem join_signs (w : Str) : Txt.join (Str.ofString "") (signs w) = w := by
  have h := join_closes (sep := Str.ofString "") (sep' := ⟨#[]⟩) (ys := signs w) (by decide +kernel)
  rw [beq_iff_eq] at h
  rw [h, join_nil_signs]
theorem sum_signs (w : Str) : ((signs w).map (·.length)).sum = w.length := by
  simp only [signs, List.map_map]
  have : ∀ l : List Nat, (l.map ((fun x : Str => x.length) ∘ fun n => (⟨#[n]⟩ : Str))).sum = l.length := by
    intro l
    induction l with
    | nil => rfl
    | cons a r ih =>
      simp only [List.map_cons, List.sum_cons, ih, List.length_cons, Function.comp]
      show 1 + r.length = _
      omega
  rw [this]
  simp [Str.length]

section
variable {prog : Program} {w : World} {A : Around} {E : Value → Shared → Prop} {s : Shared} {h₀ : Heap} {L : Addr} {m : Str → Option Value} {news : List (Addr × Obj)}
theorem join_abc {D : Addr} {ys : List Value} {xs : List Str} {tk : Tok} {n : Nat} {Q : Value → Shared → Prop} (N : News h₀ L s.heap news) (hm : (D, LCg.lst ys) ∈ news) (hS : StrsAre ys xs) (hl : xs.length = 5) (hz : ∀ z ∈ xs, Letter z)
    (h : ∀ x t k, x.length = 5 → abc x.cps.toList → Q (.str x t) { s with toks := k }) (_hn : n = 0 := by rfl) : wpAny (model prog w) A (call (.builtin "str.join") [.str (Str.ofString "") tk, .ref D]) Q E s := by
  obtain ⟨x, rfl, ha, hx⟩ := letters_signs xs hz
  have hx5 : x.length = 5 := by rw [hx, hl]
  have hs : (Str.ofString "").length = 0 := by decide +kernel
  refine join_list (items := ys.toArray) ⟨_, (N _ hm).1, rfl, _, rfl⟩ (by simpa using hS) ?_ fun t' k => ?_
  · rw [sum_signs, hs]; omega
  · rw [join_signs]
    exact h x t' k hx5 ha
theorem join_text {D : Addr} {ys : List Value} {x : Str} {tk : Tok} {e : Nat} {Q : Value → Shared → Prop} (N : News h₀ L s.heap news) (hm : (D, W.listOf ys.toArray e) ∈ news) (hS : StrsAre ys (signs x)) (hl : x.length ≤ 5)
    (h : ∀ t k, Q (.str x t) { s with toks := k }) : wpAny (model prog w) A (call (.builtin "str.join") [.str (Str.ofString "") tk, .ref D]) Q E s := by
  have hs : (Str.ofString "").length = 0 := by decide +kernel
  refine join_list (items := ys.toArray) ⟨_, (N _ hm).1, rfl, _, rfl⟩ (by simpa using hS) ?_ fun t' k => ?_
  · rw [sum_signs, hs]; omega
  · rw [join_signs]
    exact h t' k

/-- the letters in order -/
def sortS (x : Str) : Str := ⟨(x.cps.toList.mergeSort (fun a b => decide (a ≤ b))).toArray⟩
theorem sortS_perm (x : Str) : (sortS x).cps.toList.Perm x.cps.toList := by
  show ((x.cps.toList.mergeSort _).toArray).toList.Perm _
  rw [List.toList_toArray]
  exact List.mergeSort_perm _ _
theorem sortS_sorted (x : Str) : (sortS x).cps.toList.Pairwise (· ≤ ·) := by
  show ((x.cps.toList.mergeSort _).toArray).toList.Pairwise _
  rw [List.toList_toArray]
  have h := List.pairwise_mergeSort (le := fun a b : Nat => decide (a ≤ b)) (fun a b c h1 h2 => by simp at *; omega) (fun a b => by simp; omega) x.cps.toList
  exact h.imp fun h => by simpa using h
theorem sorted_unique : ∀ {a b : List Nat}, a.Perm b → a.Pairwise (· ≤ ·) → b.Pairwise (· ≤ ·) → a = b := by
  intro a
  induction a with
  | nil => intro b p _ _; exact p.nil_eq
  | cons x r ih =>
    intro b p ha hb
    cases b with
    | nil => exact absurd p.length_eq (by simp)
    | cons y q =>
      have h1 : x ∈ y :: q := p.mem_iff.mp (.head _)
      have h2 : y ∈ x :: r := p.mem_iff.mpr (.head _)
      have hxy : x = y := by
        rcases List.mem_cons.mp h1 with e | h1
        · exact e
        · rcases List.mem_cons.mp h2 with e | h2
          · exact e.symm
          · exact Nat.le_antisymm (List.rel_of_pairwise_cons ha h2) (List.rel_of_pairwise_cons hb h1)
      subst hxy
      rw [ih (List.perm_cons x |>.mp p) (List.pairwise_cons.mp ha).2 (List.pairwise_cons.mp hb).2]
theorem sortS_of {X x : Str} (h : X.cps.toList.Pairwise (· ≤ ·)) (p : X.cps.toList.Perm x.cps.toList) : X = sortS x :=
  str_of (sorted_unique (p.trans (sortS_perm x).symm) h (sortS_sorted x))
theorem sortS_eq {X x : Str} (p : X.cps.toList.Perm x.cps.toList) : sortS X = sortS x := sortS_of (sortS_sorted X) ((sortS_perm X).trans p)
theorem sortS_len (x : Str) : (sortS x).length = x.length := by
  have h := (sortS_perm x).length_eq
  rw [length_list, length_list, h]

theorem strs_of_items {x : Str} {acc : Array Value} (h : ItemsOf (SignAt x) acc x.cps.size) : StrsAre acc.toList (signs x) := by
  obtain ⟨hl, hg⟩ := h
  have key : ∀ (vs : List Value) (cs : List Nat), vs.length = cs.length → (∀ (j : Nat) (v : Value), vs[j]? = some v → ∃ c u, cs[j]? = some c ∧ v = Value.str ⟨#[c]⟩ u) → StrsAre vs (cs.map fun c => ⟨#[c]⟩) := by
    intro vs
    induction vs with
    | nil =>
      intro cs h _
      cases cs with
      | nil => exact .nil
      | cons _ _ => cases h
    | cons v r ih =>
      intro cs h hg
      cases cs with
      | nil => cases h
      | cons c q =>
        obtain ⟨c', u, hc, rfl⟩ := hg 0 v rfl
        have e : c = c' := by simpa using hc
        subst e
        exact .cons _ u (ih q (by simpa using h) fun j v' hv => by simpa using hg (j + 1) v' (by simpa using hv))
  refine key acc.toList x.cps.toList (by simpa using hl) fun j v hv => ?_
  obtain ⟨c, u, hc, e⟩ := hg j v (by simpa using hv)
  exact ⟨c, u, by simpa using hc, e⟩
theorem lt_cps (a b : Nat) : ltCps [a] [b] = decide (a < b) := by
  rw [ltCps_eq]
  by_cases h : a < b
  · have : [a] < [b] := List.Lex.rel h
    simp [h, this]
  · have : ¬ [a] < [b] := by
      intro q
      cases q with
      | rel q => exact h q
      | cons q => cases q
    simp [h, this]
theorem rising_letters : ∀ (p : Nat) (l : List Nat), risingS ⟨#[p]⟩ (l.map fun c => ⟨#[c]⟩) = true → (p :: l).Pairwise (· ≤ ·)
  | p, [], _ => List.pairwise_singleton _ _
  | p, c :: r, h => by
    have h' : (!ltCps [c] [p] && risingS ⟨#[c]⟩ (r.map fun c => ⟨#[c]⟩)) = true := h
    rw [Bool.and_eq_true, lt_cps] at h'
    have ih := rising_letters c r h'.2
    have hpc : p ≤ c := by
      have := h'.1
      simp at this
      exact this
    refine List.pairwise_cons.mpr ⟨fun d hd => ?_, ih⟩
    rcases List.mem_cons.mp hd with rfl | hd
    · exact hpc
    · exact Nat.le_trans hpc (List.rel_of_pairwise_cons ih hd)
theorem perm_signs {x : Str} {ss : List Str} (p : ss.Perm (signs x)) : ∃ w : Str, ss = signs w ∧ w.cps.toList.Perm x.cps.toList := by
  refine ⟨⟨(ss.map fun z => z.cps.toList.headD 0).toArray⟩, ?_, ?_⟩
  · have hall : ∀ z ∈ ss, ∃ c : Nat, z = ⟨#[c]⟩ := fun z hz => by
      have := p.mem_iff.mp hz
      obtain ⟨c, _, e⟩ := List.mem_map.mp this
      exact ⟨c, e.symm⟩
    simp only [signs, List.map_map]
    clear p
    induction ss with
    | nil => rfl
    | cons z r ih =>
      obtain ⟨c, rfl⟩ := hall z (.head _)
      rw [List.map_cons, ← ih fun z hz => hall z (.tail _ hz)]
      rfl
  · have h := p.map (fun z : Str => z.cps.toList.headD 0)
    have e : (signs x).map (fun z : Str => z.cps.toList.headD 0) = x.cps.toList := by
      simp only [signs, List.map_map]
      exact (List.map_congr_left fun a _ => rfl).trans (List.map_id _)
    rw [e] at h
    simpa using h

theorem sorted_text {x : Str} {t : Tok} {Q : Value → Shared → Prop} (hh : A.handled = none) (F : Fr h₀ L s.heap m) (N : News h₀ L s.heap news) (h5 : x.length ≤ 5)
    (h : ∀ l h' (ys : List Value) e tk, Fr h₀ L h' m → News h₀ L h' ((l, W.listOf ys.toArray e) :: news) → (∀ p ∈ news, p.1 < l) → StrsAre ys (signs (sortS x)) → Q (.ref l) { s with heap := h', toks := tk }) :
    wpAny (model prog w) A (call (.builtin "sorted") [.str x t]) Q E s := by
  have hs5 : x.cps.size ≤ sizeLine := by
    have : x.cps.size = x.length := by simp [Str.length]
    rw [sizeLine_eq]; omega
  refine Calls.call_function_entry kind_sorted plain_sorted entry_sorted (args_sorted1 _) ?_
  unfold Builtin.«sorted»
  refine wpAny_bind (m := checkCount "sorted" 1 1 _) (wpAny_pure ?_)
  refine wpAny_bind (wpAny_collect_str (A := A.in1) (hn := hs5) hh x t fun s' acc hk hg hd ho hacc => ?_)
  obtain ⟨hp', g', d', tk', os'⟩ := s'
  dsimp only at hk hg hd ho
  subst hg hd ho
  have hS := strs_of_items hacc
  refine wpAny_bind (wpAny_newList ?_)
  have hoL : (hp'.push (seqObj "list" acc.toList.toArray 0)).get? hp'.objs.size = some (seqObj "list" acc.toList.toArray 0) := Heap.get?_push_size _ rfl
  have h64 : acc.toList.length < 64 := by
    have := hS.length
    rw [signs_len] at this
    omega
  refine wpAny_bind (wpAny_holding (wpAny_call_entry slot_list_sort ⟨_, hoL, rfl⟩ entry_list_sort (list_sort_treeK strKind_oneLt hoL hS.keysOf (fun v₁ v₂ rest e => keyKind_strs (by rw [← e]; exact hS)) h64 fun st' a1 a2 => ⟨_, rfl, ?_⟩) (args_list_sort _)))
  refine wpAny_pure ⟨_, rfl, ?_⟩
  obtain ⟨ss', q1, q2, q3⟩ := sorted_out_str hS a1 a2
  obtain ⟨w9, rfl, q4⟩ := perm_signs q2
  have hsorted : w9.cps.toList.Pairwise (· ≤ ·) := by
    have q3' : sortedS (w9.cps.toList.map fun c => ⟨#[c]⟩) = true := q3
    cases e : w9.cps.toList with
    | nil => exact .nil
    | cons c r =>
      rw [e] at q3'
      exact rising_letters c r q3'
  have ew := sortS_of hsorted q4
  subst ew
  obtain ⟨e9, he9⟩ := sortedHeap_at (vs := acc.toList) (out := (arrOf st').map (·.2)) hoL
  have old : ∀ b o, hp'.get? b = some o → (sortedHeap (hp'.push (seqObj "list" acc.toList.toArray 0)) hp'.objs.size acc.toList ((arrOf st').map (·.2))).get? b = some o := fun b o e => by
    have hlt := Heap.lt_size e
    rw [sortedHeap_old (Nat.ne_of_lt hlt) (by rw [Heap.size_push]; exact Nat.lt_succ_of_lt hlt)]
    exact Heap.get?_push_of_some _ e
  have F' : Fr h₀ L hp' m := F.keeps hk
  have N' : News h₀ L hp' news := fun p hp => ⟨hk _ _ (N p hp).1, (N p hp).2⟩
  refine h hp'.objs.size _ ((arrOf st').map (·.2)).toList e9 tk' (F'.keeps old) (News.kept_cons F' N' old (Nat.le_refl _) (by rw [Array.toArray_toList]; exact he9)) (fun p hp => Heap.lt_size (N' p hp).1) q1
end

end
section
open PySem PySem.W PyProof.Rows PyProof.V PySem.Calls PySem.SeqAt
/-- the element of the letters' comprehension -/
def LetEl (l D : Addr) (tail : List (Addr × Obj)) (i : Int) (y : Value) (news' : List (Addr × Obj)) : Prop :=
  ∃ z t tt nn, y = .str z t ∧ Letter z ∧ news' = (l, feedO D (i + 1) tt nn) :: tail
section
variable {prog : Program} {w : World} {A : Around} {h₀ : Heap} {L : Addr} {m : Str → Option Value} {env : Env} {elt : Expr} {x : Str} {scope : Scope} {cl : List (Str × Addr)} {s : Shared} {Fin : List Value → List (Addr × Obj) → Prop}
theorem letters_rest {n : Nat} {l D : Addr} {t0 : Tok} {n0 : Nat} {tail : List (Addr × Obj)} {P : Nat → Value → Prop}
    (turn : ∀ (i : Int) v I oI C oC Dc m₂ ys tt nn h tk (E' : Value → Shared → Prop), 0 ≤ i → i < (n : Int) → LCg.NsObj oC m₂ → m₂ x = some v → Fr h₀ L h m → News h₀ L h ((I, oI) :: (C, oC) :: (Dc, LCg.lst ys) :: (l, feedO D i tt nn) :: tail) →
      LCg.Off3 I C Dc ((l, feedO D i tt nn) :: tail) → ((@Ne Nat I C) ∧ (@Ne Nat I Dc) ∧ (@Ne Nat C Dc)) →
      wpAny (model prog w) A (eval elt (compEnvC scope cl C env)) (LCg.CompEnd h₀ L m { s with heap := h, toks := tk } I oI C oC Dc (LCg.lst ys) (fun _ => True) (fun y news' => LetEl l D tail i y news')) E' { s with heap := h, toks := tk })
    (fin : ∀ ys xs tt nn, StrsAre ys xs → xs.length = n → (∀ z ∈ xs, Letter z) → Fin ys ((l, feedO D (n : Int) tt nn) :: tail)) :
    LCg.CompRest prog w A h₀ L m env elt x scope cl s (fun _ => True) P Fin n 0 [] ((l, feedO D 0 t0 n0) :: tail) := by
  have key : ∀ (j i : Nat) (ys : List Value) (xs : List Str) (tt : Tok) (nn : Nat), i + j = n → StrsAre ys xs → xs.length = i → (∀ z ∈ xs, Letter z) → LCg.CompRest prog w A h₀ L m env elt x scope cl s (fun _ => True) P Fin j i ys ((l, feedO D (i : Int) tt nn) :: tail) := by
    intro j
    induction j with
    | zero =>
      intro i ys xs tt nn hi hS hl hz
      have e : i = n := by omega
      subst e
      exact LCg.CompRest.zero (fin ys xs tt nn hS hl hz)
    | succ j ih =>
      intro i ys xs tt nn hi hS hl hz
      refine LCg.CompRest.succ ?_
      intro v I oI C oC Dc m₂ h tk E' hv hC hx F N off ne
      refine wpAny_mono (turn (i : Int) v I oI C oC Dc m₂ ys tt nn h tk E' (by omega) (by omega) hC hx F N off ne) (fun y s₃ hr => ?_) fun _ _ e => e
      obtain ⟨h', tk', nw, e, F', N', off', hS', z, t, tt', nn', hy, hz', hn⟩ := hr
      subst hn
      refine ⟨h', tk', _, e, F', N', off', trivial, ?_⟩
      rw [hy]
      refine ih (i + 1) _ (xs ++ [z]) tt' nn' (by omega) (StrsAre.append' hS (.cons z t .nil)) (by rw [List.length_append, hl]; rfl) ?_
      intro z' h'
      rcases List.mem_append.mp h' with h' | h'
      · exact hz z' h'
      · rw [List.mem_singleton.mp h']; exact hz'
  exact key n 0 [] [] t0 n0 (by omega) .nil rfl (by simp)
end
section
variable {prog : Program} {w : World} {A : Around} {E : Value → Shared → Prop} {s : Shared} {value slice : Expr} {x : Str} {t : Tok} {h₀ : Heap} {L : Addr} {m : Str → Option Value} {news : List (Addr × Obj)} {Q : Value → Shared → Prop}
theorem slice_abc {r : Int} {uj : Tok} (hl : x.length = 5) (ha : abc x.cps.toList) (h0 : 0 ≤ r) (h1 : r < 9) (hF : Fr h₀ L s.heap m) (hN : News h₀ L s.heap news)
    (h : ∀ y h' t' k, y.length ≤ 5 → abc y.cps.toList → Fr h₀ L h' m → News h₀ L h' news → Q (.str y t') { s with heap := h', toks := k })
    (hs : subscripted slice false (.str x t) (.ref s.heap.objs.size) = operate [.ref s.heap.objs.size, .str x t] (getItem (.str x t) (.ref s.heap.objs.size)) := by with_unfolding_all rfl)
    (ht : ∀ r, letTemporaryGo value (.str x t) r = pure () := by intro _; with_unfolding_all rfl) :
    wpAny (model prog w) A (subscriptTail value slice (.str x t) (.ref s.heap.objs.size)) Q E { s with heap := s.heap.push { cls := .type "slice", data := .fields #[.none, .int (5 - r.fdiv 4) uj, .none] } } := by
  have hd : r.fdiv 4 = r / 4 := Int.fdiv_eq_ediv_of_nonneg _ (by decide)
  obtain ⟨k, hk⟩ := Int.eq_ofNat_of_zero_le (a := 5 - r.fdiv 4) (by rw [hd]; omega)
  have hk5 : k ≤ 5 := by rw [hd] at hk; omega
  have hu := slice_upto x k (by omega)
  rw [← hk] at hu
  refine slice_strN_ns (hsz := by rw [PySem.sizeLine_eq]; omega) hF hN (fun h' t' c F' N' => h _ h' t' c ?_ ?_ F' N') hs ht
  · rw [length_list, hu, List.length_take]; omega
  · intro c hc
    rw [hu] at hc
    exact ha c (List.mem_of_mem_take hc)
end
section
variable {prog : Program} {w : World} {A : Around} {E : Value → Shared → Prop} {s : Shared} {h₀ : Heap} {L : Addr} {news : List (Addr × Obj)} {Q : Value → Shared → Prop}
theorem ne_pair {l b : Addr} {a : Str} {i : Int} {t1 t2 t3 t4 : Tok} {n1 n2 : Nat} (N : News h₀ L s.heap news) (hm1 : (l, tupO [.str a t1, .int i t2] n1) ∈ news) (hm2 : (b, tupO [.str a t3, .int i t4] n2) ∈ news) (hu : A.units < cLine) (h : Q (.bool false) s) :
    wpAny (model prog w) A (compareOp .NotEq (.ref l) (.ref b)) Q E s := by
  refine cmp_ofNotEq (RcNeAt.tuples (e := fun _ => true) ⟨_, (N _ hm1).1, rfl, _, rfl⟩ ⟨_, (N _ hm2).1, rfl, _, rfl⟩ hu (fun j h1 h2 => ?_) prog w E Q (by exact h))
  have hj : j = 0 ∨ j = 1 := by
    have : j < 2 := by simpa using h1
    omega
  rcases hj with rfl | rfl
  · have := EqAt.str_str (A := A.in1) (s := s) a t1 a t3
    simpa using this
  · have := EqAt.int_int (A := A.in1) (s := s) i t2 i t4
    simpa using this
theorem strsAre_get : ∀ {ys : List Value} {xs : List Str}, StrsAre ys xs → ∀ j (h : j < ys.length) (h' : j < xs.length), ∃ t, ys[j] = .str xs[j] t
  | _, _, .cons x t _, 0, _, _ => ⟨t, rfl⟩
  | _, _, .cons _ _ r, j + 1, h, h' => by
    obtain ⟨t, e⟩ := strsAre_get r j (by simpa using h) (by simpa using h')
    exact ⟨t, by simpa using e⟩
theorem eq_sorted {l b : Addr} {ys1 ys2 : List Value} {x y : Str} {n1 n2 : Nat} (N : News h₀ L s.heap news) (hm1 : (l, W.listOf ys1.toArray n1) ∈ news) (hm2 : (b, W.listOf ys2.toArray n2) ∈ news) (hS1 : StrsAre ys1 (signs (sortS x))) (hS2 : StrsAre ys2 (signs (sortS y))) (e : sortS x = sortS y)
    (hu : A.units < cLine) (h : Q (.bool true) s) : wpAny (model prog w) A (compareOp .Eq (.ref l) (.ref b)) Q E s := by
  rw [← e] at hS2
  have l1 := hS1.length
  have l2 := hS2.length
  refine eq_listAt (e := fun _ => true) ⟨_, (N _ hm1).1, rfl, _, rfl⟩ ⟨_, (N _ hm2).1, rfl, _, rfl⟩ (by rw [List.size_toArray, List.size_toArray]; omega) hu (fun j h1 h2 => ?_) (by rw [List.all_eq_true.mpr fun _ _ => rfl]; exact h)
  rw [List.size_toArray] at h1 h2
  obtain ⟨t1, e1⟩ := strsAre_get hS1 j h1 (by omega)
  obtain ⟨t2, e2⟩ := strsAre_get hS2 j h2 (by omega)
  simp only [List.getElem_toArray, e1, e2]
  have := EqAt.str_str (A := A.in1) (s := s) (signs (sortS x))[j] t1 (signs (sortS x))[j] t2
  simpa using this
end
theorem eq_min {n d k : Int} (h : n = min d k) : n = if k < d then k else d := by
  split <;> omega
theorem eq_int_true {prog : Program} {w : World} {A : Around} {E : Value → Shared → Prop} {s : Shared} {a b : Int} {t u : Tok} {Q : Value → Shared → Prop} (e : a = b) (h : Q (.bool true) s) : wpAny (model prog w) A (compareOp .Eq (.int a t) (.int b u)) Q E s := by
  refine cmp_ofEq (RcAt.int_int a t b u prog w E Q ?_)
  rw [e, beq_self_eq_true]
  exact h
theorem abc_perm {a b : List Nat} (p : a.Perm b) (h : abc b) : abc a := fun c hc => h c (p.mem_iff.mp hc)
theorem steps_len5 {x X : Str} {n : Nat} (h : Steps x n X) (hx : x.length ≤ 5) : X.length ≤ 5 := by rw [(steps_inv h).2.2]; exact hx
local macro_rules | `(tactic| tb_rel) => `(tactic| (first | with_reducible assumption | exact And.left (by with_reducible assumption) | exact cj2 (by with_reducible assumption) | exact cj3 (by with_reducible assumption) | exact cj4 (by with_reducible assumption) | exact cj5 (by with_reducible assumption) | exact ce1 (by with_reducible assumption) | exact ce2 (by with_reducible assumption) | exact ce3 (by with_reducible assumption) | exact ce4 (by with_reducible assumption) | exact ce5 (by with_reducible assumption)))
local macro_rules | `(tactic| k_ne) => `(tactic| ((try dsimp only); (first | tb_rel | (refine Ne.symm ?_; tb_rel) | (refine Nat.ne_of_lt ?_; tb_rel) | (refine Nat.ne_of_gt ?_; tb_rel) | (refine neN ?_; omega))))
local macro_rules | `(tactic| walk_at "call ref") => `(tactic| (k_here; (with_reducible show wpAny _ _ (call (Value.ref 453) _) _ _ _); k_dflt (
  refine' Ctr.use (next_c ?h0 ?h1 ?hm ?hm1 ?hi ?hl ?hne) ?kN ?_
  (case kN => walk_at "kn")
  (case h0 => first | assumption | decide | omega)
  (case h1 => first | exact Int.lt_of_lt_of_le (by assumption) (by decide) | decide | omega)
  (case hm => decide)
  (case hm1 => decide)
  (case hi => assumption)
  (case hl => exact List.length_take_le _ _)
  (case hne => k_ne)
  intro v' h' tk' F' hR'
  obtain ⟨hK', r', t', t1', n', e', hr0, hr1, hG'⟩ := hR'
  have N' := news_set (by k_asm) hK' hG' (by k_upd)
  clear hK' hG'
  subst e'
  walk_at "fo")))
local macro_rules | `(tactic| walk_at "call ref") => `(tactic| (k_here; (with_reducible show wpAny _ _ (call (Value.ref 458) _) _ _ _); k_dflt (
  (refine' Ctr.use (pairs_c ?h0) ?kN ?_)
  (case kN => exact News.nil)
  (case h0 => assumption)
  intro v' h' tk' F' hR'
  obtain ⟨hK', t', e'⟩ := hR'
  have N' := news_same (by k_asm) hK'
  clear hK'
  subst e'
  walk_at "fo")))
local macro_rules | `(tactic| walk_at "call ref") => `(tactic| (k_here; (with_reducible show wpAny _ _ (call (Value.ref 472) [_, Value.int 99 _]) _ _ _); k_dflt (
  refine' done_c ?h0 ?h1 ?h2 _ _ _ _ _ _ _ _ _ _ _ _ _ _ _ _ _ _ _ _ _ _ ?k1 ?k2 ?k3 ?k4 ?kK ?kd ?ku ?kN ?kC ?_
  (case kN => walk_at "kn")
  walk_at "k4"; (case kK => exact rfl); (case kd => decide); (case ku => decide)
  (case kC => assumption)
  (case h0 => assumption)
  (case h1 => decide)
  (case h2 => decide)
  intro _ _ _ _ _ _ _ _ _ _ _ _ F' hK' hM' _ _ hz' hS' hn' he'
  obtain ⟨e1, e2, e3⟩ := plain_all (by assumption) (by assumption) hS' he'
  have eX := sortS_of e2 e3
  subst eX
  subst e1
  subst hz'
  have N' := made_out hM'
  clear hK' hM' hS' hn' he' e2 e3
  (try dsimp only)
  (try k_fold))))
local macro_rules | `(tactic| walk_at "call ref") => `(tactic| (k_here; (with_reducible show wpAny _ _ (call (Value.ref 472) _) _ _ _); k_dflt (
  refine' done_c2 ?h0 ?h1 ?h2 _ _ _ _ _ _ _ _ _ _ _ _ _ _ _ _ _ _ _ _ _ _ ?k1 ?k2 ?k3 ?k4 ?kK ?kd ?ku ?ho ?hq ?kN ?kC ?_
  (case kN => exact (news_cons (by k_asm) (show (467, _) ∈ _ by k_mem) (news_cons (by k_asm) (by k_mem) News.nil)))
  walk_at "k4"; (case kK => exact rfl); (case kd => decide); (case ku => decide)
  (case kC => assumption)
  (case ho => assumption)
  (case hq => assumption)
  (case h0 => assumption)
  (case h1 => assumption)
  (case h2 => first | exact Int.lt_of_lt_of_le (by assumption) (by decide) | omega)
  intro _ _ _ _ _ _ _ _ F' hK' hM' hz' hS' hn' he'
  have hX5 := steps_len5 hS' (by assumption)
  obtain ⟨e1, e2, e3⟩ := plain_some (by assumption) hS' hn' he'
  have eX := sortS_eq e2
  have hXa := abc_perm e2 (by assumption)
  subst hz'
  have N' := news_app hM' (news_cons (news_same (by k_asm) hK') (show (467, _) ∈ _ by k_mem) News.nil)
  simp only [List.cons_append, List.nil_append] at N'
  clear hK' hM' hS' he' e2
  (try dsimp only)
  (try k_fold))))
local macro_rules | `(tactic| walk_at "CompSrc") => `(tactic| (k_here; k_dflt (refine LCg.CompSrc.range (n := 5) (by rfl) (by k_asm) (by k_asm) (by assumption) (by decide) (by decide) (by size_fits) ?_; intro g'; refine' letters_rest ?turn ?fin; (case' turn => intro _ _ _ _ _ _ _ _ _ _ _ _ _ _ _ _ _ _ F' N' off' ne'; simp only [LCg.Off3, and_true] at off'; obtain ⟨⟨of1, of2, of3⟩, ⟨of4, of5, of6⟩, ⟨of7, of8, of9⟩, of10, of11, of12⟩ := off'; obtain ⟨ne1, ne2, ne3⟩ := ne'); (try (intro _ _ _ _ _ _ _; intro _ _ _ F' N' off')))))
local macro_rules | `(tactic| walk_at "LetEl") => `(tactic| exact ⟨_, _, _, _, rfl, letter_item (by assumption) (by assumption), rfl⟩)
local macro_rules | `(tactic| walk_at "call builtin:str.join") => `(tactic| (k_here; k_dflt (first
  | (refine' join_abc ?N ?m ?S ?l ?z ?_; (case N => k_asm); (case m => k_mem); (case S => assumption); (case l => assumption); (case z => assumption); intro x' t' k' hl5 hla)
  | (refine' join_text ?N ?m ?S ?l ?_; (case N => k_asm); (case m => k_mem); (case S => assumption); (case l => (rw [sortS_len]; assumption)); intro t' k'))))
local macro_rules | `(tactic| walk_at "subscriptTail Name Slice str ref") => `(tactic| (k_here; (with_reducible show wpAny _ _ (subscriptTail _ (Expr.Slice none (some _) none _) (Value.str _ _) _) _ _ _); (with_reducible rename Fr _ _ _ _ => F'); (with_reducible rename News _ _ _ _ => N'); k_dflt (refine slice_abc (s := ⟨_, _, _, _, _⟩) (by assumption) (by assumption) (by assumption) (by assumption) F' N' ?_); intro y' h' t' k' hy5 hya F' N'))
local macro_rules | `(tactic| walk_at "call builtin:sorted") => `(tactic| (k_here; (with_reducible show wpAny _ _ (call (Value.builtin _) [Value.str _ _]) _ _ _); k_dflt (refine' sorted_text ?h ?F ?N ?l ?_; (case h => exact rfl); (case F => k_asm); (case N => k_asm); (case l => assumption); intro l' h' ys' e' tk' F' N' l1 hS'; (try k_lt l1))))
local macro_rules | `(tactic| walk_at "compareOp NotEq ref ref") => `(tactic| (k_here; k_dflt (refine' ne_pair ?N ?m1 ?m2 ?u ?_; (case N => k_asm); (case m1 => k_mem); (case m2 => k_mem); (case u => k_units))))
local macro_rules | `(tactic| walk_at "compareOp Eq ref ref") => `(tactic| (k_here; k_dflt (refine' eq_sorted ?N ?m1 ?m2 ?s1 ?s2 ?e ?u ?_; (case N => k_asm); (case m1 => k_mem); (case m2 => k_mem); (case s1 => assumption); (case s2 => assumption); (case e => assumption); (case u => k_units))))
local macro_rules | `(tactic| walk_at "compareOp Eq int int") => `(tactic| (k_dflt (refine' eq_int_true ?e ?_; (case e => first | assumption | exact eq_min (by assumption)))))
-- names that are taken: no twin of the head's own constants is laid (the compiled file would be 70 MB larger)
theorem law_t.tw10041621988211709499 : True := trivial
theorem law_t.tw10048859060687964615 : True := trivial
theorem law_t.tw10102486796658765872 : True := trivial
theorem law_t.tw10127703299331553114 : True := trivial
theorem law_t.tw10137037045430298233 : True := trivial
theorem law_t.tw10145021904789819935 : True := trivial
theorem law_t.tw10150893784039448402 : True := trivial
theorem law_t.tw10185050339312491569 : True := trivial
theorem law_t.tw10315920867346257614 : True := trivial
theorem law_t.tw103242435779238743 : True := trivial
theorem law_t.tw10351634223948174004 : True := trivial
theorem law_t.tw10371689570955522130 : True := trivial
theorem law_t.tw10393125986502262736 : True := trivial
theorem law_t.tw10427969574434137691 : True := trivial
theorem law_t.tw10448501426046092746 : True := trivial
theorem law_t.tw10504198666363452509 : True := trivial
theorem law_t.tw10517746107612175017 : True := trivial
theorem law_t.tw10570482876015950170 : True := trivial
theorem law_t.tw10656381671555249155 : True := trivial
theorem law_t.tw1065647674281990519 : True := trivial
theorem law_t.tw10686702373922840451 : True := trivial
theorem law_t.tw10702390854243670779 : True := trivial
theorem law_t.tw10798957356247829856 : True := trivial
theorem law_t.tw10799683266374051841 : True := trivial
theorem law_t.tw10835010014804668495 : True := trivial
theorem law_t.tw10839583995495164583 : True := trivial
theorem law_t.tw10872675615728705515 : True := trivial
theorem law_t.tw10902834823291991642 : True := trivial
theorem law_t.tw10921739340257792047 : True := trivial
theorem law_t.tw10923658115938221998 : True := trivial
theorem law_t.tw1098841225058499219 : True := trivial
theorem law_t.tw10990572359186008407 : True := trivial
theorem law_t.tw1099170777383891799 : True := trivial
theorem law_t.tw11002717299516867984 : True := trivial
theorem law_t.tw11020839034813648578 : True := trivial
theorem law_t.tw11090567542796284011 : True := trivial
theorem law_t.tw11109888483624479196 : True := trivial
theorem law_t.tw11150020386633196205 : True := trivial
theorem law_t.tw11167887474720204655 : True := trivial
theorem law_t.tw11194019831916552213 : True := trivial
theorem law_t.tw11235589577911905362 : True := trivial
theorem law_t.tw1128370218148533548 : True := trivial
theorem law_t.tw11323081133195214651 : True := trivial
theorem law_t.tw11364797039210320415 : True := trivial
theorem law_t.tw11443726401151516102 : True := trivial
theorem law_t.tw1146661256620347375 : True := trivial
theorem law_t.tw11546280583058921613 : True := trivial
theorem law_t.tw11733088527271639343 : True := trivial
theorem law_t.tw11751435794902243422 : True := trivial
theorem law_t.tw11824996958155095715 : True := trivial
theorem law_t.tw11846473941698472447 : True := trivial
theorem law_t.tw11859244484710054739 : True := trivial
theorem law_t.tw11864018938700690773 : True := trivial
theorem law_t.tw11877861126342126159 : True := trivial
theorem law_t.tw11950711106984905284 : True := trivial
theorem law_t.tw11975823736241620145 : True := trivial
theorem law_t.tw1200741217434994830 : True := trivial
theorem law_t.tw12022556222900844782 : True := trivial
theorem law_t.tw12040990815404091050 : True := trivial
theorem law_t.tw12071850416614822282 : True := trivial
theorem law_t.tw12093716498007122424 : True := trivial
theorem law_t.tw12166420736922594502 : True := trivial
theorem law_t.tw12196035511577932360 : True := trivial
theorem law_t.tw12206577194850424061 : True := trivial
theorem law_t.tw12207130634196065462 : True := trivial
theorem law_t.tw12208753633603934601 : True := trivial
theorem law_t.tw12320102743735753676 : True := trivial
theorem law_t.tw12358012565802812008 : True := trivial
theorem law_t.tw12361784649179736722 : True := trivial
theorem law_t.tw12389509522764997170 : True := trivial
theorem law_t.tw12393249124492625826 : True := trivial
theorem law_t.tw12456386037640696361 : True := trivial
theorem law_t.tw12464034616909125022 : True := trivial
theorem law_t.tw12474965310798489947 : True := trivial
theorem law_t.tw12533043394832465299 : True := trivial
theorem law_t.tw12600043956471322659 : True := trivial
theorem law_t.tw12613488948356630966 : True := trivial
theorem law_t.tw12619816473335934278 : True := trivial
theorem law_t.tw12730771452619763519 : True := trivial
theorem law_t.tw12750865291862599662 : True := trivial
theorem law_t.tw12754714326104468587 : True := trivial
theorem law_t.tw12763287323178510254 : True := trivial
theorem law_t.tw12800214580980761489 : True := trivial
theorem law_t.tw12801558940660580637 : True := trivial
theorem law_t.tw12970797480110854979 : True := trivial
theorem law_t.tw13000638545615331423 : True := trivial
theorem law_t.tw1308832920488596556 : True := trivial
theorem law_t.tw13093009248600486416 : True := trivial
theorem law_t.tw13133265936769768863 : True := trivial
theorem law_t.tw1316596791330431717 : True := trivial
theorem law_t.tw132038020249727820 : True := trivial
theorem law_t.tw13217234823800856510 : True := trivial
theorem law_t.tw1323661694359511768 : True := trivial
theorem law_t.tw13246282973008398059 : True := trivial
theorem law_t.tw13299051680543523694 : True := trivial
theorem law_t.tw13315694434238064653 : True := trivial
theorem law_t.tw13362158740013210196 : True := trivial
theorem law_t.tw13398896345969850098 : True := trivial
theorem law_t.tw13472116111651965711 : True := trivial
theorem law_t.tw13478995931277420347 : True := trivial
theorem law_t.tw13526524222112015209 : True := trivial
theorem law_t.tw13591037490762312849 : True := trivial
theorem law_t.tw13652308673460804752 : True := trivial
theorem law_t.tw13654664218602960145 : True := trivial
theorem law_t.tw13738747877180970513 : True := trivial
theorem law_t.tw13855266920194915996 : True := trivial
theorem law_t.tw13862762177110135125 : True := trivial
theorem law_t.tw13921615717639358324 : True := trivial
theorem law_t.tw13949893015901175904 : True := trivial
theorem law_t.tw14001076030753851640 : True := trivial
theorem law_t.tw14009207321442992068 : True := trivial
theorem law_t.tw14077911169111417076 : True := trivial
theorem law_t.tw14115250505460580465 : True := trivial
theorem law_t.tw1420224155336247706 : True := trivial
theorem law_t.tw14207057731558352735 : True := trivial
theorem law_t.tw14259545589149964591 : True := trivial
theorem law_t.tw14293225818992365026 : True := trivial
theorem law_t.tw14355545442542504492 : True := trivial
theorem law_t.tw14362494223336420134 : True := trivial
theorem law_t.tw14371306751658892322 : True := trivial
theorem law_t.tw14400210019357343448 : True := trivial
theorem law_t.tw14402232876568092843 : True := trivial
theorem law_t.tw14423925768873802377 : True := trivial
theorem law_t.tw14474198082392573766 : True := trivial
theorem law_t.tw1457831565009849110 : True := trivial
theorem law_t.tw14649587384964536692 : True := trivial
theorem law_t.tw14682113607040963522 : True := trivial
theorem law_t.tw14725497204463745706 : True := trivial
theorem law_t.tw14764924680905089891 : True := trivial
theorem law_t.tw14846462789446320182 : True := trivial
theorem law_t.tw14963931763693568909 : True := trivial
theorem law_t.tw14964255471523765989 : True := trivial
theorem law_t.tw15085182402225680288 : True := trivial
theorem law_t.tw15124385050337504674 : True := trivial
theorem law_t.tw1516450629267869110 : True := trivial
theorem law_t.tw15172378874953070004 : True := trivial
theorem law_t.tw15205057794533642437 : True := trivial
theorem law_t.tw15220840121431102006 : True := trivial
theorem law_t.tw15268431576264802505 : True := trivial
theorem law_t.tw15274239056081865626 : True := trivial
theorem law_t.tw15287593741007837296 : True := trivial
theorem law_t.tw15328170114765190228 : True := trivial
theorem law_t.tw15363840466193118382 : True := trivial
theorem law_t.tw15368095139893482274 : True := trivial
theorem law_t.tw15394434579132661087 : True := trivial
theorem law_t.tw15452650669425576505 : True := trivial
theorem law_t.tw15455059817439435413 : True := trivial
theorem law_t.tw1550575851024095545 : True := trivial
theorem law_t.tw1552197232676913322 : True := trivial
theorem law_t.tw1553034916289142320 : True := trivial
theorem law_t.tw15532948898073503737 : True := trivial
theorem law_t.tw15572442388034765467 : True := trivial
theorem law_t.tw15593703606134568326 : True := trivial
theorem law_t.tw15617350852949873852 : True := trivial
theorem law_t.tw15618969542522663020 : True := trivial
theorem law_t.tw15629287384350563292 : True := trivial
theorem law_t.tw15637723773936995818 : True := trivial
theorem law_t.tw15665462056610158921 : True := trivial
theorem law_t.tw15726048112951872943 : True := trivial
theorem law_t.tw15738532001378884992 : True := trivial
theorem law_t.tw1577142524228694577 : True := trivial
theorem law_t.tw15807642978365864771 : True := trivial
theorem law_t.tw15868471727910976334 : True := trivial
theorem law_t.tw15952612696975926248 : True := trivial
theorem law_t.tw15978099151167419392 : True := trivial
theorem law_t.tw15999809959189999778 : True := trivial
theorem law_t.tw16052425137077994883 : True := trivial
theorem law_t.tw16066047264893813182 : True := trivial
theorem law_t.tw16071279691285583756 : True := trivial
theorem law_t.tw16142489584522565457 : True := trivial
theorem law_t.tw16156669378830310334 : True := trivial
theorem law_t.tw16186328281613378065 : True := trivial
theorem law_t.tw16254915355824114795 : True := trivial
theorem law_t.tw16331550822643476838 : True := trivial
theorem law_t.tw16397994513673752843 : True := trivial
theorem law_t.tw16467172407370664617 : True := trivial
theorem law_t.tw16468875557091752758 : True := trivial
theorem law_t.tw16553866862711387364 : True := trivial
theorem law_t.tw16562323177137684933 : True := trivial
theorem law_t.tw16563538679781096887 : True := trivial
theorem law_t.tw1667673337848302422 : True := trivial
theorem law_t.tw16691169309350274611 : True := trivial
theorem law_t.tw16724913343421861349 : True := trivial
theorem law_t.tw16740370613446244213 : True := trivial
theorem law_t.tw16742014787530514993 : True := trivial
theorem law_t.tw16758943648283654811 : True := trivial
theorem law_t.tw16815860883880002246 : True := trivial
theorem law_t.tw16830879326589805408 : True := trivial
theorem law_t.tw16845718269065944299 : True := trivial
theorem law_t.tw16914934037001822186 : True := trivial
theorem law_t.tw17012993350923593643 : True := trivial
theorem law_t.tw1710251767915184199 : True := trivial
theorem law_t.tw17152542964299410448 : True := trivial
theorem law_t.tw1716767933269680828 : True := trivial
theorem law_t.tw1721493342656396534 : True := trivial
theorem law_t.tw17233908151806276035 : True := trivial
theorem law_t.tw17237137888176292841 : True := trivial
theorem law_t.tw17256784130134093411 : True := trivial
theorem law_t.tw17305828511954272030 : True := trivial
theorem law_t.tw17343759082928867017 : True := trivial
theorem law_t.tw17364345782762803510 : True := trivial
theorem law_t.tw17367843059633888843 : True := trivial
theorem law_t.tw17394637855728295325 : True := trivial
theorem law_t.tw17405656302811125226 : True := trivial
theorem law_t.tw17413994429358291160 : True := trivial
theorem law_t.tw17477975310262775832 : True := trivial
theorem law_t.tw17498237517276504073 : True := trivial
theorem law_t.tw17537851721007524393 : True := trivial
theorem law_t.tw17538795544558942935 : True := trivial
theorem law_t.tw17634992041662696980 : True := trivial
theorem law_t.tw17649547062752850523 : True := trivial
theorem law_t.tw176900877010053536 : True := trivial
theorem law_t.tw17732598149020985225 : True := trivial
theorem law_t.tw17842438192881012954 : True := trivial
theorem law_t.tw17860180011426465054 : True := trivial
theorem law_t.tw17926460086282261320 : True := trivial
theorem law_t.tw17945450443726276772 : True := trivial
theorem law_t.tw17970569749315924314 : True := trivial
theorem law_t.tw17981018420463597223 : True := trivial
theorem law_t.tw1802063573969735895 : True := trivial
theorem law_t.tw18032305763925290983 : True := trivial
theorem law_t.tw18047372970001273817 : True := trivial
theorem law_t.tw18047672533658337336 : True := trivial
theorem law_t.tw18073200104798332931 : True := trivial
theorem law_t.tw18139469208599399538 : True := trivial
theorem law_t.tw18141715465244273828 : True := trivial
theorem law_t.tw18171286449119982094 : True := trivial
theorem law_t.tw18171832962670101306 : True := trivial
theorem law_t.tw18204174318447519237 : True := trivial
theorem law_t.tw18311668985540167876 : True := trivial
theorem law_t.tw1834227646539290620 : True := trivial
theorem law_t.tw18416958853705654707 : True := trivial
theorem law_t.tw18423414429707159691 : True := trivial
theorem law_t.tw18446743806908707776 : True := trivial
theorem law_t.tw1856750921516044396 : True := trivial
theorem law_t.tw2002530643126745573 : True := trivial
theorem law_t.tw2125840927616443361 : True := trivial
theorem law_t.tw2179279529466427243 : True := trivial
theorem law_t.tw2187642770484266407 : True := trivial
theorem law_t.tw220753477943597065 : True := trivial
theorem law_t.tw2268062158274380560 : True := trivial
theorem law_t.tw2318274381021021017 : True := trivial
theorem law_t.tw2324184481716103609 : True := trivial
theorem law_t.tw2331369142206466636 : True := trivial
theorem law_t.tw2393532244930659451 : True := trivial
theorem law_t.tw2446648754445461654 : True := trivial
theorem law_t.tw263137161291833680 : True := trivial
theorem law_t.tw2642716641579837876 : True := trivial
theorem law_t.tw2693425723733222758 : True := trivial
theorem law_t.tw2728770530993464930 : True := trivial
theorem law_t.tw2739693253363288888 : True := trivial
theorem law_t.tw2867706289802378891 : True := trivial
theorem law_t.tw2890978763083354284 : True := trivial
theorem law_t.tw2910609718491087698 : True := trivial
theorem law_t.tw2912570694507450104 : True := trivial
theorem law_t.tw2914916462642319427 : True := trivial
theorem law_t.tw2926717133569423583 : True := trivial
theorem law_t.tw2983586630279843750 : True := trivial
theorem law_t.tw3168458814626791493 : True := trivial
theorem law_t.tw3229478594625726582 : True := trivial
theorem law_t.tw3260744219525099502 : True := trivial
theorem law_t.tw3290553081156356057 : True := trivial
theorem law_t.tw3323354217428617351 : True := trivial
theorem law_t.tw3357051707852854132 : True := trivial
theorem law_t.tw3447408363627482543 : True := trivial
theorem law_t.tw3449449838500534954 : True := trivial
theorem law_t.tw3470104454997367879 : True := trivial
theorem law_t.tw3475385998958528897 : True := trivial
theorem law_t.tw3480911255204524284 : True := trivial
theorem law_t.tw3538442860405331856 : True := trivial
theorem law_t.tw3542857402262239472 : True := trivial
theorem law_t.tw3567724752294236679 : True := trivial
theorem law_t.tw3589424927288165388 : True := trivial
theorem law_t.tw361503863546906610 : True := trivial
theorem law_t.tw3662085824704902818 : True := trivial
theorem law_t.tw3668931004053566470 : True := trivial
theorem law_t.tw3711381407594482964 : True := trivial
theorem law_t.tw3725858682784524721 : True := trivial
theorem law_t.tw3807243742842239938 : True := trivial
theorem law_t.tw381822463285113422 : True := trivial
theorem law_t.tw3833224564136332348 : True := trivial
theorem law_t.tw3842345484598906758 : True := trivial
theorem law_t.tw3900723313403981834 : True := trivial
theorem law_t.tw3946366797818467670 : True := trivial
theorem law_t.tw3958477731275216047 : True := trivial
theorem law_t.tw3958943253918667188 : True := trivial
theorem law_t.tw3999365812138008731 : True := trivial
theorem law_t.tw4005749150255772535 : True := trivial
theorem law_t.tw4075837688527942572 : True := trivial
theorem law_t.tw4120529138726589592 : True := trivial
theorem law_t.tw4218968496052785150 : True := trivial
theorem law_t.tw4252121445003679801 : True := trivial
theorem law_t.tw4256016723919244937 : True := trivial
theorem law_t.tw4266910744618112094 : True := trivial
theorem law_t.tw4270436635230661856 : True := trivial
theorem law_t.tw4391161196328166051 : True := trivial
theorem law_t.tw4422979291355263401 : True := trivial
theorem law_t.tw4454472584166898699 : True := trivial
theorem law_t.tw449026468457793434 : True := trivial
theorem law_t.tw4499537950312726563 : True := trivial
theorem law_t.tw470555846662684523 : True := trivial
theorem law_t.tw4745510915679940594 : True := trivial
theorem law_t.tw4816607393597910728 : True := trivial
theorem law_t.tw4905768225348420840 : True := trivial
theorem law_t.tw492980589298472213 : True := trivial
theorem law_t.tw4935107059920552750 : True := trivial
theorem law_t.tw4935850199111083991 : True := trivial
theorem law_t.tw5004887874429692555 : True := trivial
theorem law_t.tw5006412990138234915 : True := trivial
theorem law_t.tw5011161508257702940 : True := trivial
theorem law_t.tw5015420583959362374 : True := trivial
theorem law_t.tw5109242086969337813 : True := trivial
theorem law_t.tw511773978856778805 : True := trivial
theorem law_t.tw5131076577388761798 : True := trivial
theorem law_t.tw5164916403475555992 : True := trivial
theorem law_t.tw5295313101113192304 : True := trivial
theorem law_t.tw5339512514984338902 : True := trivial
theorem law_t.tw5410635246550746916 : True := trivial
theorem law_t.tw5440431586566003713 : True := trivial
theorem law_t.tw5471988022182805821 : True := trivial
theorem law_t.tw5481366708819878312 : True := trivial
theorem law_t.tw5493609668438008599 : True := trivial
theorem law_t.tw5502219189471082207 : True := trivial
theorem law_t.tw550960207935804250 : True := trivial
theorem law_t.tw5545602552022757489 : True := trivial
theorem law_t.tw5599603379728409238 : True := trivial
theorem law_t.tw5669096208869980428 : True := trivial
theorem law_t.tw5690201206899636559 : True := trivial
theorem law_t.tw5695170458481204885 : True := trivial
theorem law_t.tw5696137757627364097 : True := trivial
theorem law_t.tw5697444563774048333 : True := trivial
theorem law_t.tw5787029881216342796 : True := trivial
theorem law_t.tw5879069364837179157 : True := trivial
theorem law_t.tw5957737802973879948 : True := trivial
theorem law_t.tw5984843353758987333 : True := trivial
theorem law_t.tw6122163882863549034 : True := trivial
theorem law_t.tw6202104750961515108 : True := trivial
theorem law_t.tw6208194252767083301 : True := trivial
theorem law_t.tw622358368574643730 : True := trivial
theorem law_t.tw6228340885623276339 : True := trivial
theorem law_t.tw6242198494555592383 : True := trivial
theorem law_t.tw6248245859910746348 : True := trivial
theorem law_t.tw6364365227873385729 : True := trivial
theorem law_t.tw6373708828483494188 : True := trivial
theorem law_t.tw6408143696376020543 : True := trivial
theorem law_t.tw6415459898632146533 : True := trivial
theorem law_t.tw6485704708520051713 : True := trivial
theorem law_t.tw6520361398244141959 : True := trivial
theorem law_t.tw6529670186142531659 : True := trivial
theorem law_t.tw6629115155835955314 : True := trivial
theorem law_t.tw6641723821640377794 : True := trivial
theorem law_t.tw6643870763444655701 : True := trivial
theorem law_t.tw6650714498644909134 : True := trivial
theorem law_t.tw6728093462053877397 : True := trivial
theorem law_t.tw6820133220228427685 : True := trivial
theorem law_t.tw6959317451359318832 : True := trivial
theorem law_t.tw7048495352461214406 : True := trivial
theorem law_t.tw7093350276001742429 : True := trivial
theorem law_t.tw7132186897059493025 : True := trivial
theorem law_t.tw7137936172046293987 : True := trivial
theorem law_t.tw7197011671043536636 : True := trivial
theorem law_t.tw7221750997654164587 : True := trivial
theorem law_t.tw7315344081791432205 : True := trivial
theorem law_t.tw7320006272557850461 : True := trivial
theorem law_t.tw7373147875585604735 : True := trivial
theorem law_t.tw7453858396972368876 : True := trivial
theorem law_t.tw7465075359883703351 : True := trivial
theorem law_t.tw748102071417746466 : True := trivial
theorem law_t.tw7550102586182126643 : True := trivial
theorem law_t.tw7550898776914185459 : True := trivial
theorem law_t.tw7649089608824525501 : True := trivial
theorem law_t.tw7667679995015591151 : True := trivial
theorem law_t.tw7679767074865289129 : True := trivial
theorem law_t.tw7706910059894979119 : True := trivial
theorem law_t.tw7823406405086010734 : True := trivial
theorem law_t.tw7839431613692565774 : True := trivial
theorem law_t.tw7858869641252932864 : True := trivial
theorem law_t.tw7866435768159628609 : True := trivial
theorem law_t.tw7893324216189497225 : True := trivial
theorem law_t.tw792250747271112770 : True := trivial
theorem law_t.tw7967319714572546210 : True := trivial
theorem law_t.tw7968593681410618259 : True := trivial
theorem law_t.tw7991196786924976446 : True := trivial
theorem law_t.tw799624341057155728 : True := trivial
theorem law_t.tw8121112257641521556 : True := trivial
theorem law_t.tw8127768322745811548 : True := trivial
theorem law_t.tw8162530749166008725 : True := trivial
theorem law_t.tw8267825956990165058 : True := trivial
theorem law_t.tw8302208156409971835 : True := trivial
theorem law_t.tw8305141774074573279 : True := trivial
theorem law_t.tw833723853473759713 : True := trivial
theorem law_t.tw8346561467804554287 : True := trivial
theorem law_t.tw834708680154355196 : True := trivial
theorem law_t.tw8354168321572759339 : True := trivial
theorem law_t.tw8379386023088352036 : True := trivial
theorem law_t.tw8512780517067864875 : True := trivial
theorem law_t.tw8521172780123224600 : True := trivial
theorem law_t.tw852591725516889701 : True := trivial
theorem law_t.tw8532610035360296580 : True := trivial
theorem law_t.tw8554409650184914725 : True := trivial
theorem law_t.tw8592654837896532321 : True := trivial
theorem law_t.tw8629084462726078445 : True := trivial
theorem law_t.tw8666142222961568319 : True := trivial
theorem law_t.tw8676299236802116110 : True := trivial
theorem law_t.tw8708586999588892279 : True := trivial
theorem law_t.tw8730544253462906497 : True := trivial
theorem law_t.tw8770077430686460298 : True := trivial
theorem law_t.tw8828853827201252098 : True := trivial
theorem law_t.tw8844379552210593965 : True := trivial
theorem law_t.tw8856873561012123791 : True := trivial
theorem law_t.tw8867083424449906825 : True := trivial
theorem law_t.tw889432574166814162 : True := trivial
theorem law_t.tw8972897368036347942 : True := trivial
theorem law_t.tw8976623909890637223 : True := trivial
theorem law_t.tw9074379616796764568 : True := trivial
theorem law_t.tw9143708597421477396 : True := trivial
theorem law_t.tw9162115584778421514 : True := trivial
theorem law_t.tw9166406054179402495 : True := trivial
theorem law_t.tw9172452652516703104 : True := trivial
theorem law_t.tw9178391979471723238 : True := trivial
theorem law_t.tw9186316589047471488 : True := trivial
theorem law_t.tw9189458703372886760 : True := trivial
theorem law_t.tw9201900016934062987 : True := trivial
theorem law_t.tw923396299331079098 : True := trivial
theorem law_t.tw9245911888613914474 : True := trivial
theorem law_t.tw9286507850838876541 : True := trivial
theorem law_t.tw9331748264470897285 : True := trivial
theorem law_t.tw9426175302219647549 : True := trivial
theorem law_t.tw9457316096326083931 : True := trivial
theorem law_t.tw9553834903365712704 : True := trivial
theorem law_t.tw9577015742115564370 : True := trivial
theorem law_t.tw9585703003529059856 : True := trivial
theorem law_t.tw9591836127063153986 : True := trivial
theorem law_t.tw9680587125010754537 : True := trivial
theorem law_t.tw9682454842562075676 : True := trivial
theorem law_t.tw9700429971812274673 : True := trivial
theorem law_t.tw971811814469307519 : True := trivial
theorem law_t.tw9723894579359380730 : True := trivial
theorem law_t.tw975954787347644733 : True := trivial
theorem law_t.tw9800978226614043835 : True := trivial
theorem law_t.tw9811769829588528707 : True := trivial
theorem law_t.tw9882276467120539929 : True := trivial
theorem law_t.tw9925894023413680805 : True := trivial
theorem law_t.tw9941991353038279272 : True := trivial
theorem law_t.tw9951336226249589113 : True := trivial
theorem law_t.tw9951471461295449430 : True := trivial
theorem law_t.tw995775220138220913 : True := trivial
theorem law_t.tw9990841688589047944 : True := trivial
set_option Elab.async true in
set_option maxRecDepth 100000 in
set_option maxHeartbeats 8000000 in
theorem law_t : PySem.Challenge.rw_sa0601_01.Holds := by
  k_with_none
  w_on
  o_law
  o_head (kmHook k0.heap_1 [2, 3, 15, 17, 18, 20, 21, 22, 24, 25, 27, 28, 29, 31, 32, 34, 35, 36, 38, 39, 41, 42, 43, 45, 46, 48, 49, 50, 53, 58, 59, 60, 62, 63, 65, 66, 67, 68, 69, 70, 80, 81, 82, 83, 84, 94, 96, 97, 99, 100, 101, 102, 103, 104, 105, 115, 117, 118, 120, 121, 122, 123, 124, 125, 126, 136, 138, 139, 141, 142, 143, 144, 145, 146, 147, 150, 152, 153, 155, 156, 157, 159, 160, 162, 163, 164, 166, 167, 169, 170, 171, 173, 174, 176, 177, 178, 180, 181, 183, 184, 185, 187, 188, 190, 191, 192, 194, 195, 197, 198, 206, 208, 209, 211, 212, 213, 215, 216, 218, 219, 220, 222, 223, 225, 226, 227, 229, 230, 232, 233, 234, 235, 236, 237, 238, 241, 242, 243, 244, 246, 247, 249, 250, 251, 253, 254, 256, 257, 258, 260, 261, 263, 264, 265, 267, 268, 270, 271, 272, 274, 275, 277, 278, 279, 281, 282, 284, 285, 286, 288, 289, 291, 292, 293, 295, 296, 298, 299, 300, 302, 303, 305, 306, 307, 309, 310, 312, 313, 314, 316, 317, 319, 320, 321, 323, 324, 326, 327, 328, 330, 331, 333, 334, 335, 337, 338, 340, 341, 342, 344, 345, 347, 348, 349, 351, 352, 354, 355, 356, 358, 359, 361, 362, 363, 365, 366, 368, 369, 370, 372, 373, 375, 376, 377, 379, 380, 382, 383, 384, 386, 387, 389, 390, 391, 393, 394, 396, 397, 398, 400, 401, 403, 404, 405, 407, 408, 410, 411, 412, 414, 415, 417, 418, 419, 421, 422, 424, 425, 426, 428, 429, 431, 432, 433, 435, 436, 438, 439, 440, 442, 443, 445, 446, 447, 449, 450, 452, 453, 454, 457, 458, 459, 461, 462, 464, 465, 466, 468, 469, 471, 472, 473, 476, 477] (fun _ => by kernel_rfl) [467])
  (case hw => w_witness2)
  k_go0
  (all_goals try k_fold)
  k_steps

end
end Mine
theorem PySem.Challenge.cw_sa0601_01_holds : PySem.Challenge.rw_sa0601_01.Holds := by
  exact Mine.law_t
