import PyProof.Rows.All
import Wide.All
import OpenK.AllK
import Wide.FinOn
import HandS.ForMost
import HandS.ForSpec
import HandS.Flow
import HandS.IsInst
import HandS.Conv
import HandS.NoneIn
import HandS.ExcInit
import HandS.ExcField
import PySem.Challenge.RW_holdlane_k21_nets_tell
import HandS.Codes
import HandS.Walk
import HandS.ClsMeth
import HandS.CallSlots
import PyProof.P3Eq
import KE.KStateDown
import HandS.Defaults
import HandS.Head0
import HandS.Head1
import HandS.Head2
import HandS.HeadEnd
import HandS.HeadHook1
import HandS.HeadHook2
set_option Elab.async false
set_option linter.all false
set_option maxRecDepth 100000
set_option maxHeartbeats 3990000
/-! words of the law: the mathematics -/
namespace K21
open PySem TL
/-- the law's mixing of a cell and a number -/
def mixN (c k : Int) : Int := ((c % 2147483647 * 48271 + 7919 * k + 11) % 2147483647) * ((c % 2147483647 * 48271 + 7919 * k + 11) % 2147483647) % 2147483629
def mixF (c k : Int) : Int := (mixN c k + 613 * k) * mixN c k % 2147483587
theorem mixN_b (c k : Int) : 0 ≤ mixN c k ∧ mixN c k < 2147483629 := by
  unfold mixN
  exact ⟨Int.emod_nonneg _ (by decide),
      Int.emod_lt_of_pos _ (by decide)⟩
theorem mixF_b (c k : Int) : 0 ≤ mixF c k ∧ mixF c k < 2147483587 := by
  unfold mixF
  exact ⟨Int.emod_nonneg _ (by decide),
      Int.emod_lt_of_pos _ (by decide)⟩
theorem mod_b (a : Int) {m : Int} (h : 0 < m) : 0 ≤ a % m ∧ a % m < m := ⟨Int.emod_nonneg _ (by omega), Int.emod_lt_of_pos _ h⟩
def lettersS : Str := "abcdefghijklmnopqrstuvwxyz"
def figuresS : Str := "0123456789"
theorem tl_letters : tl lettersS = [97, 98, 99, 100, 101, 102, 103, 104, 105, 106, 107, 108, 109, 110, 111, 112, 113, 114, 115, 116, 117, 118, 119, 120, 121, 122] := by decide +kernel
theorem tl_figures : tl figuresS = [48, 49, 50, 51, 52, 53, 54, 55, 56, 57] := by decide +kernel
theorem mem_letters {c : Nat} : c ∈ lettersS.cps.toList ↔ 97 ≤ c ∧ c ≤ 122 := by
  show c ∈ tl lettersS ↔ _
  rw [tl_letters]
  simp only [List.mem_cons, List.not_mem_nil, or_false]
  omega
theorem mem_figures {c : Nat} : c ∈ figuresS.cps.toList ↔ 48 ≤ c ∧ c ≤ 57 := by
  show c ∈ tl figuresS ↔ _
  rw [tl_figures]
  simp only [List.mem_cons, List.not_mem_nil, or_false]
  omega
theorem letters_at : ∀ n : Nat, n < 26 → (tl lettersS)[n]? = some (97 + n) := by
  rw [tl_letters]
  decide
theorem len_letters : lettersS.length = 26 := by decide +kernel
/-- the i-th letter, a text -/
def letS (i : Int) : Str := ⟨#[97 + i.toNat]⟩
theorem tl_letS (i : Int) : tl (letS i) = [97 + i.toNat] := rfl
/-- what is a name -/
structure NameOk (z : Str) : Prop where
  lo : 1 ≤ z.length
  hi : z.length ≤ 8
  all : ∀ c ∈ tl z, (97 ≤ c ∧ c ≤ 122) ∨ (48 ≤ c ∧ c ≤ 57)
  one : ∃ c, (tl z)[0]? = some c ∧ 97 ≤ c ∧ c ≤ 122
def manyF (c : Int) : Int := mixF c 50 % 7
def baseL (c : Int) : List Str := (List.range (manyF c).toNat).map fun (j : Nat) => letS (mixF c (60 + (j : Int)) % 26)
def baseF (c : Int) : Str := Txt.join ("" : Str) (baseL c)
def atF (c : Int) : Int := mixF c 51 % (manyF c + 1)
/-- the law's word of a cell and a number -/
def wordF (c k : Int) : Str :=
  if mixF c 52 % 3 = 0 then letS (mixF c 53 % 26) ++ Str.ofString (toString (mixF c 54 % 1000 + 37 * k))
  else L2.cutS (baseF c) none (some (atF c)) ++ letS ((mixF c 55 + k) % 26) ++ L2.cutS (baseF c) (some (atF c)) none
theorem manyF_b (c : Int) : 0 ≤ manyF c ∧ manyF c < 7 := mod_b _ (by decide)
theorem atF_b (c : Int) : 0 ≤ atF c ∧ atF c ≤ manyF c := by
  have h := manyF_b c
  have z := mod_b (mixF c 51) (m := manyF c + 1) (by omega)
  exact ⟨z.1, by unfold atF; omega⟩
theorem joinL_nil : ∀ l : List (List Nat), joinL [] l = l.flatten
  | [] => rfl
  | [x] => by simp [joinL]
  | x :: y :: r => by
    have ih := joinL_nil (y :: r)
    show x ++ ([] ++ joinL [] (y :: r)) = _
    rw [ih]
    simp
theorem tl_base (c : Int) : tl (baseF c) = (List.range (manyF c).toNat).map fun (j : Nat) => 97 + (mixF c (60 + (j : Int)) % 26).toNat := by
  unfold baseF
  rw [join_eq, tl_join]
  rw [show tl ("" : Str) = [] by decide +kernel, joinL_nil]
  unfold baseL
  rw [List.map_map]
  show ((List.range (manyF c).toNat).map fun (j : Nat) => [97 + (mixF c (60 + (j : Int)) % 26).toNat]).flatten = _
  generalize List.range (manyF c).toNat = l
  induction l with
  | nil => rfl
  | cons a r ih => simp only [List.map_cons, List.flatten_cons, ih]; all_goals rfl
theorem len_base (c : Int) : (baseF c).length = (manyF c).toNat := by
  rw [len_tl, tl_base, List.length_map, List.length_range]
theorem base_all {c : Int} {n : Nat} (h : n ∈ tl (baseF c)) : 97 ≤ n ∧ n ≤ 122 := by
  rw [tl_base] at h
  obtain ⟨j, _, rfl⟩ := List.mem_map.mp h
  have z := mod_b (mixF c (60 + (j : Int))) (m := 26) (by decide)
  omega
theorem tl_cut_to (z : Str) (i : Int) (h0 : 0 ≤ i) (h1 : i ≤ z.length) : tl (L2.cutS z none (some i)) = (tl z).take i.toNat := by
  obtain ⟨n, rfl⟩ :=
      Int.eq_ofNat_of_zero_le h0
  show ((tl z).drop (HT.sIx z.length 0 none)).take (HT.sIx z.length z.length (some (n : Int)) - HT.sIx z.length 0 none) = _
  rw [HT.sIx_none, HT.sIx_nat]
  simp only [List.drop_zero, Nat.sub_zero, Int.toNat_natCast]
  rw [Nat.min_eq_left (by omega)]
theorem tl_cut_from (z : Str) (i : Int) (h0 : 0 ≤ i) (h1 : i ≤ z.length) : tl (L2.cutS z (some i) none) = (tl z).drop i.toNat := by
  obtain ⟨n, rfl⟩ :=
      Int.eq_ofNat_of_zero_le h0
  show ((tl z).drop (HT.sIx z.length 0 (some (n : Int)))).take (HT.sIx z.length z.length none - HT.sIx z.length 0 (some (n : Int))) = _
  rw [HT.sIx_none, HT.sIx_nat]
  rw [Nat.min_eq_left (by omega), Int.toNat_natCast]
  exact List.take_of_length_le (by rw [List.length_drop, ← len_tl]; omega)
theorem at_base (c : Int) : 0 ≤ atF c ∧ atF c ≤ (baseF c).length := by
  have h := atF_b c
  have m := manyF_b c
  rw [len_base]
  omega
theorem tl_word_b {c k : Int} (h : ¬ mixF c 52 % 3 = 0) : tl (wordF c k) = (tl (baseF c)).take (atF c).toNat ++ [97 + ((mixF c 55 + k) % 26).toNat] ++ (tl (baseF c)).drop (atF c).toNat := by
  unfold wordF
  rw [if_neg h, tl_append, tl_append, tl_letS, tl_cut_to _ _ (at_base c).1 (at_base c).2, tl_cut_from _ _ (at_base c).1 (at_base c).2]
theorem tl_word_a {c k : Int} (h : mixF c 52 % 3 = 0) (hk : 0 ≤ k) : tl (wordF c k) = (97 + (mixF c 53 % 26).toNat) :: numL (mixF c 54 % 1000 + 37 * k).toNat := by
  unfold wordF
  have z := mod_b (mixF c 54) (m := 1000) (by decide)
  obtain ⟨n, hn⟩ := Int.eq_ofNat_of_zero_le (show 0 ≤ mixF c 54 % 1000 + 37 * k by omega)
  rw [if_pos h, tl_append, tl_letS, hn, tl_num, Int.toNat_natCast]
  rfl
theorem word_ok {c k : Int} (h0 : 0 ≤ k) (h1 : k ≤ 60) : NameOk (wordF c k) := by
  by_cases h : mixF c 52 % 3 = 0
  · have e := tl_word_a h h0
    have z := mod_b (mixF c 53) (m := 26) (by decide)
    have z2 := mod_b (mixF c 54) (m := 1000) (by decide)
    have hl := numL_len (n := (mixF c 54 % 1000 + 37 * k).toNat) (k := 4) (by decide) (by omega)
    refine ⟨?_, ?_, ?_, ?_⟩
    · rw [len_tl, e, List.length_cons]; omega
    · rw [len_tl, e, List.length_cons]; omega
    · intro x hx
      rw [e] at hx
      rcases List.mem_cons.mp
          hx with rfl | hx
      · left; omega
      · right; have := numL_digits _ x hx; omega
    · rw [e]; exact ⟨_, rfl, by omega, by omega⟩
  · have e := tl_word_b (k := k) h
    have z := mod_b (mixF c 55 + k) (m := 26) (by decide)
    have hb := at_base c
    have hm := manyF_b c
    have el : (tl (baseF c)).length = (manyF c).toNat := by rw [← len_tl, len_base]
    have hall : ∀ x ∈ tl (wordF c k), 97 ≤ x ∧ x ≤ 122 := by
      intro x hx
      rw [e] at hx
      rcases List.mem_append.mp
          hx with hx | hx
      · rcases List.mem_append.mp
            hx with hx | hx
        · exact base_all (List.mem_of_mem_take hx)
        · rw [List.mem_singleton.mp hx]; omega
      · exact base_all (List.mem_of_mem_drop hx)
    have hlen : (tl (wordF c k)).length = (manyF c).toNat + 1 := by
      rw [e]
      simp only [List.length_append, List.length_take, List.length_drop, List.length_cons, List.length_nil, el]
      rw [len_base] at hb
      omega
    refine ⟨by rw [len_tl, hlen]; omega, by rw [len_tl, hlen]; omega, fun x hx => .inl (hall x hx), ?_⟩
    cases q : tl (wordF c k) with
    | nil => rw [q] at hlen; simp at hlen
    | cons x r => exact ⟨x, rfl, hall x (by rw [q]; exact List.mem_cons_self)⟩
theorem word_inj {c k k' : Int} (h0 : 0 ≤ k) (h1 : k ≤ 25) (h2 : 0 ≤ k') (h3 : k' ≤ 25) (e : wordF c k = wordF c k') : k = k' := by
  have et : tl (wordF c k) = tl (wordF c k') := by rw [e]
  by_cases h : mixF c 52 % 3 = 0
  · rw [tl_word_a h h0, tl_word_a h h2] at et
    have z2 := mod_b (mixF c 54) (m := 1000) (by decide)
    have q := numL_inj (List.cons.inj et).2
    omega
  · rw [tl_word_b h, tl_word_b h] at et
    have q := List.append_cancel_right et
    have q2 := List.append_cancel_left q
    have q3 := (List.cons.inj q2).1
    omega
end K21
/-! the net that the law draws: the mathematics -/
namespace K21
open PySem TL
inductive Kd where
  | give | take | pass | copy | turn | heap | add | less | order | choose | split
  deriving DecidableEq
def Kd.word : Kd → Str
  | .give => "give" | .take => "take" | .pass => "pass" | .copy => "copy" | .turn => "turn" | .heap => "heap" | .add => "add" | .less => "less" | .order => "order" | .choose => "choose" | .split => "split"
def Kd.wants : Kd → Nat × Nat × Nat
  | .give => (0, 0, 1) | .take => (0, 1, 0) | .pass => (0, 1, 1) | .copy => (0, 1, 2) | .turn => (2, 1, 1) | .heap => (1, 1, 1) | .add => (0, 2, 1) | .less => (0, 2, 1) | .order => (0, 2, 2) | .choose => (0, 3, 1) | .split => (0, 2, 2)
theorem Kd.word_inj : ∀ {a b : Kd}, a.word = b.word → a = b := by
  intro a b
  cases a <;> cases b <;> first | (intro _; rfl) | (intro h; exact absurd h (by decide +kernel))
structure Ln where
  name : Str
  room : Int
  first : List Int
structure Pt where
  kd : Kd
  name : Str
  nums : List Int
  ins : List Str
  outs : List Str
structure GS where
  lanes : List Ln
  parts : List Pt
  opn : List Str
  one : Int
  other : Int
def isVal (v : Int) : Prop := 0 ≤ v ∧ v < 1000000000
structure LnOk (l : Ln) : Prop where
  lo : 1 ≤ l.room
  hi : l.room ≤ 199
  fit : (l.first.length : Int) ≤ l.room
  vals : ∀ v ∈ l.first, isVal v
structure PtOk (p : Pt) : Prop where
  w : (p.nums.length, p.ins.length, p.outs.length) = p.kd.wants
  vals : ∀ v ∈ p.nums, isVal v
def Pt.lanes (p : Pt) : List Str := p.ins ++ p.outs
def Compat (parts : List Pt) (f : Str → Bool) : Prop := ∀ p ∈ parts, ∀ l ∈ p.lanes, ∀ m ∈ p.lanes, f l = f m
def Conn (parts : List Pt) (opn : List Str) : Prop := ∀ f, Compat parts f → ∀ p ∈ parts, ∀ l ∈ p.lanes, ∃ o ∈ opn, f l = f o
/-- the new lanes ns behind n lanes -/
def Fresh (one : Int) (n : Nat) (ns : List Ln) : Prop := ∀ (i : Nat) (l : Ln), ns[i]? = some l → l.name = wordF one ((n + i : Nat) : Int) ∧ LnOk l
abbrev nms (ls : List Ln) : List Str := ls.map (fun l : Ln => l.name)
structure GInv (g : GS) (backs held : List Str) (L P : Nat) : Prop where
  ln : ∀ (i : Nat) (l : Ln), g.lanes[i]? = some l → l.name = wordF g.one (i : Int) ∧ LnOk l
  pn : ∀ (i : Nat) (p : Pt), g.parts[i]? = some p → p.name = wordF g.other (i : Int) ∧ PtOk p
  hl : g.lanes.length ≤ L
  hp : g.parts.length ≤ P
  pi : (g.parts.flatMap (fun p : Pt => p.ins) ++ g.opn ++ held).Perm (nms g.lanes)
  po : (g.parts.flatMap (fun p : Pt => p.outs) ++ backs).Perm (nms g.lanes)
  con : Conn g.parts (g.opn ++ held)
theorem Conn.perm {ps : List Pt} {a b : List Str} (h : Conn ps a) (p : ∀ x, x ∈ a → x ∈ b) : Conn ps b := fun f c q hq l hl => by
  obtain ⟨o, ho, e⟩ := h f c q hq l hl
  exact ⟨o, p o ho, e⟩
theorem Compat.left {a b : List Pt} {f : Str → Bool} (h : Compat (a ++ b) f) : Compat a f := fun p hp => h p (List.mem_append_left _ hp)
theorem fresh_app {one : Int} {ls ns : List Ln} (h : ∀ (i : Nat) (l : Ln), ls[i]? = some l → l.name = wordF one (i : Int) ∧ LnOk l) (k : Fresh one ls.length ns) (i : Nat) (l : Ln) (e : (ls ++ ns)[i]? = some l) :
    l.name = wordF one (i : Int) ∧ LnOk l := by
  by_cases hi : i < ls.length
  · rw [List.getElem?_append_left hi] at e
    exact h i l e
  · rw [List.getElem?_append_right (by omega)] at e
    have z := k (i - ls.length) l e
    have ei : ls.length + (i - ls.length) = i := by omega
    rw [ei] at z
    exact z
theorem Fresh.nil {one : Int} {n : Nat} : Fresh one n [] := fun i l e => by simp at e
theorem Fresh.snoc {one : Int} {n : Nat} {ns : List Ln} {l : Ln} (h : Fresh one n ns) (e : l.name = wordF one ((n + ns.length : Nat) : Int)) (k : LnOk l) : Fresh one n (ns ++ [l]) := by
  intro i m hm
  by_cases hi : i < ns.length
  · rw [List.getElem?_append_left hi] at hm
    exact h i m hm
  · rw [List.getElem?_append_right (by omega)] at hm
    have hz : i - ns.length = 0 := by
      cases q : i - ns.length with
      | zero => rfl
      | succ k => rw [q] at hm; simp at hm
    rw [hz] at hm
    have e2 : l = m := by simpa using hm
    subst e2
    have ei : i = ns.length := by omega
    rw [ei]
    exact ⟨e, k⟩
theorem part_app {other : Int} {ps : List Pt} {q : Pt} (h : ∀ (i : Nat) (p : Pt), ps[i]? = some p → p.name = wordF other (i : Int) ∧ PtOk p) (e : q.name = wordF other (ps.length : Int)) (k : PtOk q) (i : Nat) (p : Pt) (z : (ps ++ [q])[i]? = some p) :
    p.name = wordF other (i : Int) ∧ PtOk p := by
  by_cases hi : i < ps.length
  · rw [List.getElem?_append_left hi] at z
    exact h i p z
  · rw [List.getElem?_append_right (by omega)] at z
    have hz : i - ps.length = 0 := by
      cases y : i - ps.length with
      | zero => rfl
      | succ k => rw [y] at z; simp at z
    rw [hz] at z
    have e2 : q = p := by simpa using z
    subst e2
    have ei : i = ps.length := by omega
    rw [ei]
    exact ⟨e, k⟩
theorem pc {a b : List Str} : a.Perm b ↔ ∀ x, a.count x = b.count x := List.perm_iff_count
theorem erase_perm {a : Type} : ∀ (l : List a) (i : Nat) (h : i < l.length), (l[i] :: l.eraseIdx i).Perm l
  | [], i, h => absurd h (by simp)
  | x :: r, 0, h => List.Perm.refl _
  | x :: r, i + 1, h => by
    have hr : i < r.length := by simpa using h
    have ih := erase_perm r i hr
    show (r[i] :: x :: r.eraseIdx i).Perm (x :: r)
    exact (List.Perm.swap _ _ _).trans (ih.cons x)
/-- a lane is picked -/
theorem GInv.pick {g : GS} {backs held : List Str} {L P : Nat} (I : GInv g backs held L P) {i : Nat} {x : Str} (h : g.opn[i]? = some x) : GInv { g with opn := g.opn.eraseIdx i } backs (x :: held) L P := by
  obtain ⟨hi, rfl⟩ := List.getElem?_eq_some_iff.mp h
  have p : (g.opn[i] :: g.opn.eraseIdx i).Perm g.opn := erase_perm _ _ hi
  refine ⟨I.ln, I.pn, I.hl, I.hp, ?_, I.po, I.con.perm fun y hy => ?_⟩
  · refine List.Perm.trans ?_ I.pi
    rw [pc]
    intro y
    have c := pc.mp p y
    simp only [List.count_append, List.count_cons] at c ⊢
    omega
  · show y ∈ g.opn.eraseIdx i ++ g.opn[i] :: held
    rcases List.mem_append.mp
        hy with hy | hy
    · rcases List.mem_cons.mp (p.mem_iff.mpr hy) with rfl | hy
      · simp
      · exact List.mem_append_left _ hy
    · simp [hy]
/-- a part is added -/
theorem GInv.add {g : GS} {backs held : List Str} {L P : Nat} (I : GInv g backs held L P) {ns : List Ln} {q : Pt} {ex new gb backs' : List Str} (hn : Fresh g.one g.lanes.length ns) (e : q.name = wordF g.other (g.parts.length : Int)) (k : PtOk q)
    (h1 : q.ins.Perm (held ++ ex)) (h2 : q.outs.Perm (gb ++ nms ns)) (h3 : (nms ns).Perm (ex ++ new)) (h4 : backs.Perm (gb ++ backs'))
    (hc : ∀ f, Compat (g.parts ++ [q]) f → ∀ l ∈ q.lanes, ∃ o ∈ g.opn ++ new, f l = f o) :
    GInv { g with lanes := g.lanes ++ ns, parts := g.parts ++ [q], opn := g.opn ++ new } backs' [] (L + ns.length) (P + 1) := by
  refine ⟨fresh_app I.ln hn, part_app I.pn e k, ?_, ?_, ?_, ?_, ?_⟩
  · show (g.lanes ++ ns).length ≤ _
    rw [List.length_append]; have := I.hl; omega
  · show (g.parts ++ [q]).length ≤ _
    rw [List.length_append]; have := I.hp; simp; omega
  · show ((g.parts ++ [q]).flatMap (fun p : Pt => p.ins) ++ (g.opn ++ new) ++ []).Perm ((g.lanes ++ ns).map (fun l : Ln => l.name))
    rw [pc]
    intro x
    have c0 := pc.mp I.pi x
    have c1 := pc.mp h1 x
    have c3 := pc.mp h3 x
    simp only [List.flatMap_append, List.flatMap_cons, List.flatMap_nil, List.count_append, List.count_nil, List.map_append, nms] at c0 c1 c3 ⊢
    omega
  · show ((g.parts ++ [q]).flatMap (fun p : Pt => p.outs) ++ backs').Perm ((g.lanes ++ ns).map (fun l : Ln => l.name))
    rw [pc]
    intro x
    have c0 := pc.mp I.po x
    have c2 := pc.mp h2 x
    have c4 := pc.mp h4 x
    simp only [List.flatMap_append, List.flatMap_cons, List.flatMap_nil, List.count_append, List.count_nil, List.map_append, nms] at c0 c2 c4 ⊢
    omega
  · intro f c p hp l hl
    show ∃ o ∈ g.opn ++ new ++ [], f l = f o
    rw [List.append_nil]
    rcases List.mem_append.mp
        hp with hp | hp
    · obtain ⟨o, ho, eo⟩ := I.con f c.left p hp l hl
      rcases List.mem_append.mp ho with ho | ho
      · exact ⟨o, List.mem_append_left _ ho, eo⟩
      · have oq : o ∈ q.lanes := List.mem_append_left _ (h1.mem_iff.mpr (List.mem_append_left _ ho))
        obtain ⟨o2, ho2, e2⟩ := hc f c o oq
        exact ⟨o2, ho2, eo.trans e2⟩
    · rw [List.mem_singleton.mp hp] at hl
      exact hc f c l hl
/-- the side condition of add, where a new open lane is given -/
theorem hc_new {ps : List Pt} {q : Pt} {opn new : List Str} {x : Str} (hx : x ∈ new) (hq : x ∈ q.outs) : ∀ f, Compat (ps ++ [q]) f → ∀ l ∈ q.lanes, ∃ o ∈ opn ++ new, f l = f o := fun f c l hl =>
  ⟨x, List.mem_append_right _ hx, c q (List.mem_append_right _ (List.mem_singleton.mpr rfl)) l hl x (List.mem_append_right _ hq)⟩
/-- a part that takes what was held and gives to new lanes, all open -/
theorem GInv.plain {g : GS} {backs held : List Str} {L P : Nat} (I : GInv g backs held L P) {ns : List Ln} {q : Pt} (hn : Fresh g.one g.lanes.length ns) (e : q.name = wordF g.other (g.parts.length : Int)) (k : PtOk q)
    (h1 : q.ins.Perm held) (h2 : q.outs = nms ns) (ne : ns ≠ []) :
    GInv { g with lanes := g.lanes ++ ns, parts := g.parts ++ [q], opn := g.opn ++ nms ns } backs [] (L + ns.length) (P + 1) := by
  cases ns with
  | nil => exact absurd rfl ne
  | cons a r =>
    refine I.add (ex := []) (new := nms (a :: r)) (gb := []) hn e k (by rw [List.append_nil]; exact h1) (by rw [h2]; exact List.Perm.refl _) (List.Perm.refl _) (List.Perm.refl _) (hc_new (x := a.name) ?_ ?_)
    · simp
    · rw [h2]; simp
/-- a loop: an own lane -/
theorem GInv.loop {g : GS} {backs : List Str} {one : Str} {L P : Nat} (I : GInv g backs [one] L P) {own fresh : Ln} {q : Pt} (hn : Fresh g.one g.lanes.length [own, fresh]) (e : q.name = wordF g.other (g.parts.length : Int)) (k : PtOk q)
    (h1 : q.ins = [one, own.name]) (h2 : q.outs = [own.name, fresh.name]) :
    GInv { g with lanes := g.lanes ++ [own, fresh], parts := g.parts ++ [q], opn := g.opn ++ [fresh.name] } backs [] (L + 2) (P + 1) := by
  refine I.add (ns := [own, fresh]) (ex := [own.name]) (new := [fresh.name]) (gb := []) hn e k (by rw [h1]; exact List.Perm.refl _) (by rw [h2]; exact List.Perm.refl _) (List.Perm.refl _) (List.Perm.refl _) (hc_new (x := fresh.name) ?_ ?_)
  · simp
  · rw [h2]; simp
/-- a copy and a take behind it -/
theorem GInv.sink {g : GS} {backs : List Str} {o1 o2 : Str} {L P : Nat} (I : GInv g backs [o2] L P) {q : Pt} (e : q.name = wordF g.other (g.parts.length : Int)) (k : PtOk q) (h1 : q.ins = [o2]) (h2 : q.outs = [])
    (h3 : o1 ∈ g.opn) (h4 : ∃ p ∈ g.parts, o1 ∈ p.lanes ∧ o2 ∈ p.lanes) :
    GInv { g with parts := g.parts ++ [q] } backs [] L (P + 1) := by
  have z := I.add (ns := []) (q := q) (ex := []) (new := []) (gb := []) (backs' := backs) Fresh.nil e k (by rw [h1]; exact List.Perm.refl _) (by rw [h2]; exact List.Perm.refl _) (List.Perm.refl _) (List.Perm.refl _) (fun f c l hl => ?_)
  · simpa using z
  · unfold Pt.lanes at hl
    rw [h1, h2] at hl
    have el : l = o2 := by simpa using hl
    subst el
    obtain ⟨p, hp, m1, m2⟩ := h4
    exact ⟨o1, by simpa using h3, c p (List.mem_append_left _ hp) _ m2 _ m1⟩
/-- a lane that leads back is given to -/
theorem GInv.back {g : GS} {backs : List Str} {b x : Str} {L P : Nat} (I : GInv g (b :: backs) [x] L P) {fresh : Ln} {q : Pt} (hn : Fresh g.one g.lanes.length [fresh]) (e : q.name = wordF g.other (g.parts.length : Int)) (k : PtOk q)
    (h1 : q.ins = [x]) (h2 : q.outs = [b, fresh.name]) :
    GInv { g with lanes := g.lanes ++ [fresh], parts := g.parts ++ [q], opn := g.opn ++ [fresh.name] } backs [] (L + 1) (P + 1) := by
  refine I.add (ns := [fresh]) (ex := []) (new := [fresh.name]) (gb := [b]) hn e k (by rw [h1]; exact List.Perm.refl _) (by rw [h2]; exact List.Perm.refl _) (List.Perm.refl _) (List.Perm.refl _) (hc_new (x := fresh.name) ?_ ?_)
  · simp
  · rw [h2]; simp
/-- lanes that lead back are laid -/
theorem GInv.backs {g : GS} {L P : Nat} (I : GInv g [] [] L P) {ns : List Ln} (hn : Fresh g.one g.lanes.length ns) : GInv { g with lanes := g.lanes ++ ns, opn := g.opn ++ nms ns } (nms ns) [] (L + ns.length) P := by
  refine ⟨fresh_app I.ln hn, I.pn, ?_, I.hp, ?_, ?_, I.con.perm fun x hx => ?_⟩
  · show (g.lanes ++ ns).length ≤ _
    rw [List.length_append]; have := I.hl; omega
  · show (g.parts.flatMap (fun p : Pt => p.ins) ++ (g.opn ++ nms ns) ++ []).Perm ((g.lanes ++ ns).map (fun l : Ln => l.name))
    rw [pc]
    intro x
    have c0 := pc.mp I.pi x
    simp only [List.count_append, List.count_nil, List.map_append, nms] at c0 ⊢
    omega
  · show (g.parts.flatMap (fun p : Pt => p.outs) ++ nms ns).Perm ((g.lanes ++ ns).map (fun l : Ln => l.name))
    rw [pc]
    intro x
    have c0 := pc.mp I.po x
    simp only [List.count_append, List.count_nil, List.map_append, nms] at c0 ⊢
    omega
  · show x ∈ g.opn ++ nms ns ++ []
    simp only [List.append_nil, List.mem_append] at hx ⊢
    exact .inl hx
theorem GInv.empty (one other : Int) : GInv ⟨[], [], [], one, other⟩ [] [] 0 0 :=
  ⟨fun i l e => by simp at e, fun i l e => by simp at e, Nat.le_refl _, Nat.le_refl _, List.Perm.refl _, List.Perm.refl _, fun f _ p hp => by simp at hp⟩
theorem GInv.mono {g : GS} {b h : List Str} {L P L' P' : Nat} (I : GInv g b h L P) (hl : L ≤ L') (hp : P ≤ P') : GInv g b h L' P' := ⟨I.ln, I.pn, Nat.le_trans I.hl hl, Nat.le_trans I.hp hp, I.pi, I.po, I.con⟩
/-- what the law hands to Net -/
structure NetOk (lanes : List Ln) (parts : List Pt) (one other : Int) : Prop where
  l0 : 1 ≤ lanes.length
  l1 : lanes.length ≤ 20
  p0 : 1 ≤ parts.length
  p1 : parts.length ≤ 16
  lnd : (nms lanes).Nodup
  lok : ∀ l ∈ lanes, NameOk l.name ∧ l.name ≠ wordF one 20 ∧ LnOk l
  pnd : (parts.map (fun p : Pt => p.name)).Nodup
  pok : ∀ p ∈ parts, NameOk p.name ∧ p.name ≠ wordF other 20 ∧ PtOk p
  pi : (parts.flatMap (fun p : Pt => p.ins)).Perm (nms lanes)
  po : (parts.flatMap (fun p : Pt => p.outs)).Perm (nms lanes)
  con : ∀ f, Compat parts f → ∀ p ∈ parts, ∀ l ∈ p.lanes, ∀ q ∈ parts, ∀ m ∈ q.lanes, f l = f m
theorem nodup_words {α : Type} {ls : List α} {nm : α → Str} {one : Int} (h : ∀ (i : Nat) (l : α), ls[i]? = some l → nm l = wordF one (i : Int)) (hl : ls.length ≤ 20) : (ls.map nm).Nodup := by
  rw [List.nodup_iff_pairwise_ne, List.pairwise_iff_getElem]
  intro i j hi hj hij
  rw [List.length_map] at hi hj
  rw [List.getElem_map, List.getElem_map, h i _ (List.getElem?_eq_getElem hi), h j _ (List.getElem?_eq_getElem hj)]
  intro e
  have z := word_inj (by omega) (by omega) (by omega) (by omega) e
  omega
theorem not_strange {α : Type} {ls : List α} {nm : α → Str} {one : Int} (h : ∀ (i : Nat) (l : α), ls[i]? = some l → nm l = wordF one (i : Int)) (hl : ls.length ≤ 20) : ∀ l ∈ ls, NameOk (nm l) ∧ nm l ≠ wordF one 20 := by
  intro l hm
  obtain ⟨i, hi, rfl⟩ := List.mem_iff_getElem.mp hm
  rw [h i _ (List.getElem?_eq_getElem hi)]
  exact ⟨word_ok (by omega) (by omega), fun e => by have z := word_inj (by omega) (by omega) (by omega) (by omega) e; omega⟩
/-- the last part: a take -/
theorem GInv.fin {g : GS} {x : Str} {L P : Nat} (I : GInv g [] [x] L P) (h0 : g.opn = []) {q : Pt} (e : q.name = wordF g.other (g.parts.length : Int)) (k : PtOk q) (h1 : q.ins = [x]) (h2 : q.outs = []) (hL : L ≤ 20) (hP : P ≤ 15) (n : Nat) :
    NetOk g.lanes ((g.parts ++ [q]).drop n ++ (g.parts ++ [q]).take n) g.one g.other := by
  have hpn := part_app I.pn e k
  have hl := I.hl
  have hp := I.hp
  have hlen : (g.parts ++ [q]).length ≤ 16 := by rw [List.length_append]; simp; omega
  have rot : ((g.parts ++ [q]).drop n ++ (g.parts ++ [q]).take n).Perm (g.parts ++ [q]) := by
    refine List.perm_append_comm.trans ?_
    rw [List.take_append_drop]
  have Ppi : ((g.parts ++ [q]).flatMap (fun p : Pt => p.ins)).Perm (nms g.lanes) := by
    have z := I.pi
    rw [h0] at z
    rw [List.flatMap_append]
    simpa [h1] using z
  have Ppo : ((g.parts ++ [q]).flatMap (fun p : Pt => p.outs)).Perm (nms g.lanes) := by
    have z := I.po
    rw [List.flatMap_append]
    simpa [h2] using z
  have fl : ∀ sel : Pt → List Str, (((g.parts ++ [q]).drop n ++ (g.parts ++ [q]).take n).flatMap sel).Perm ((g.parts ++ [q]).flatMap sel) := fun sel => List.Perm.flatMap_right sel rot
  refine ⟨?_, by omega, ?_, ?_, ?_, ?_, ?_, ?_, (fl _).trans Ppi, (fl _).trans Ppo, ?_⟩
  · have z := Ppi.length_eq
    rw [List.flatMap_append, List.length_append] at z
    simp [h1] at z
    omega
  · rw [rot.length_eq, List.length_append]; simp
  · rw [rot.length_eq]; exact hlen
  · exact nodup_words (fun i l z => (I.ln i l z).1) (by omega)
  · intro l hm
    have z := not_strange (fun i l z => (I.ln i l z).1) (show g.lanes.length ≤ 20 by omega) l hm
    obtain ⟨i, hi, rfl⟩ := List.mem_iff_getElem.mp hm
    exact ⟨z.1, z.2, (I.ln i _ (List.getElem?_eq_getElem hi)).2⟩
  · exact (rot.map _).nodup_iff.mpr (nodup_words (fun i l z => (hpn i l z).1) (by omega))
  · intro p hm
    have hm2 := rot.mem_iff.mp hm
    have z := not_strange (fun i l z => (hpn i l z).1) (show (g.parts ++ [q]).length ≤ 20 by omega) p hm2
    obtain ⟨i, hi, rfl⟩ := List.mem_iff_getElem.mp hm2
    exact ⟨z.1, z.2, (hpn i _ (List.getElem?_eq_getElem hi)).2⟩
  · intro f c
    have c2 : Compat (g.parts ++ [q]) f := fun p hp => c p (rot.mem_iff.mpr hp)
    have key : ∀ p ∈ g.parts ++ [q], ∀ l ∈ p.lanes, f l = f x := by
      intro p hp l hl
      rcases List.mem_append.mp
          hp with hp | hp
      · obtain ⟨o, ho, eo⟩ := I.con f c2.left p hp l hl
        rw [h0] at ho
        have ex : o = x := by simpa using ho
        rw [eo, ex]
      · rw [List.mem_singleton.mp hp] at hl
        unfold Pt.lanes at hl
        rw [h1, h2] at hl
        have ex : l = x := by simpa using hl
        rw [ex]
    intro p hp l hl r hr m hm
    rw [key p (rot.mem_iff.mp hp) l hl, key r (rot.mem_iff.mp hr) m hm]
end K21
/-! defs by their promises -/
namespace K21
open PySem PySem.Spec PyProof.Rows L2 TL
def top (i : Nat) : Stmt := PySem.Challenge.pw_holdlane_k21_nets_tell.main.body.getD i (.Pass ⟨0, 0, 0, 0⟩)
section
variable (P : Program) (w : World) (K : PySem.W.Frag) (mg : Str → Option Value) (base : Heap)
/-- a def of the top -/
structure GF (x : Str) (st : Stmt) : Prop where
  ex : ∃ f fd, Fun K x x st f fd ∧ mg x = some (.ref f)
/-- here: a method of the class at C -/
structure MF (C : Addr) (m q : Str) (st : Stmt) : Prop where
  ex : ∃ f fd, Fun K m q st f fd ∧ Meth K C m f
/-- a class that can be made -/
structure KF (x : Str) (C : Addr) (q : Str) (st : Stmt) : Prop where
  ex : ∃ f fd, Fun K "__init__" q st f fd ∧ Mk K C f
  gl : mg x = some (.ref C)
  cl : Cls K C
structure Cal (CX : CXT) (k : Nat) (x : Str) (ps : List Str) (sp : Sp) : Prop where
  ex : ∃ f fd, mg x = some (.ref f) ∧ PySem.W.keepIn K (.ref f) = true ∧ Binds K fd ps [] ∧ FnOk P w K mg base CX k f fd ps sp
structure MCal (CX : CXT) (C : Addr) (k : Nat) (m : Str) (ps : List Str) (sp : Sp) : Prop where
  ex : ∃ f fd, Meth K C m f ∧ Binds K fd ps [] ∧ FnOk P w K mg base CX k f fd ps sp
structure KCal (CX : CXT) (C : Addr) (k : Nat) (x : Str) (ps : List Str) (sp : Sp) : Prop where
  ex : ∃ f fd, Mk K C f ∧ Binds K fd ps [] ∧ FnOk P w K mg base CX k f fd ps sp
  gl : mg x = some (.ref C)
end
section
variable {P : Program} {w : World} {K : PySem.W.Frag}
    {mg : Str → Option Value} {base : Heap}
def BArgs (x q : Str) (st : Stmt) (ps : List Str) : Prop := ∀ (kV doc pm : Value) (an : Option Addr) (cdv ct : Value) (us : List Value), us.length = ps.length → bindArgs (PySem.W.fnOf x q (defArgs st) (defBody st) (defScope st) .none kV doc pm an cdv ct) ⟨us, []⟩ = pure (ps.zip us)
def Body0 (P : Program) (w : World) (K : PySem.W.Frag) (mg : Str → Option Value) (base : Heap) (N : List Str) (q : Str) (st : Stmt) (k : Nat) (sp : Sp) : Prop :=
  ∀ (f : Addr) (cdv : Value) (A : Around) (outer : List Env) (s : Shared) (H : Hp) (vs : List V) (Q : VK) (E : XK), Room k (A.deeper (envOfC q (defScope st) s.heap.objs.size f cdv)) → sp vs H Q E →
      ∃ t, PSs (cxOf CX0 P w K mg base N q (defScope st) f cdv A outer s H E).nox (defBody st) t ∧ t { nx := fun _ H' => Q .non H', rt := Q } (start N vs) H
def BodyX (P : Program) (w : World) (K : PySem.W.Frag) (mg : Str → Option Value) (base : Heap) (N : List Str) (q : Str) (st : Stmt) (k : Nat) (sp : Sp) : Prop :=
  ∀ (f : Addr) (cdv : Value) (A : Around) (outer : List Env) (s : Shared) (H : Hp) (vs : List V) (Q : VK) (E : XK), Room k (A.deeper (envOfC q (defScope st) s.heap.objs.size f cdv)) → sp vs H Q E →
      ∃ t, PSs (cxOf (L2.CX P w) P w K mg base N q (defScope st) f cdv A outer s H E) (defBody st) t ∧ t { nx := fun _ H' => Q .non H', rt := Q } (start N vs) H
def Len (ps : List Str) (sp : Sp) : Prop := ∀ vs H Q E, sp vs H Q E → vs.length = ps.length
theorem GF.cal {x : Str} {st : Stmt} {N ps : List Str} {k : Nat} {sp : Sp} (G : GF K mg x st) (S : FnScope N ps (defScope st)) (b : BArgs x x st ps) (len : Len ps sp) (body : Body0 P w K mg base N x st k sp) : Cal P w K mg base CX0 (k + 1) x ps sp := by
  obtain ⟨f, fd, F, m⟩ := G.ex
  exact ⟨f, fd, m, F.kp, F.binds b, F.ok S len (fun cdv A outer s H vs Q E hr h => body f cdv A outer s H vs Q E hr h)⟩
theorem GF.calX {x : Str} {st : Stmt} {N ps : List Str} {k : Nat} {sp : Sp} (G : GF K mg x st) (S : FnScope N ps (defScope st)) (b : BArgs x x st ps) (len : Len ps sp) (body : BodyX P w K mg base N x st k sp) : Cal P w K mg base (L2.CX P w) (k + 1) x ps sp := by
  obtain ⟨f, fd, F, m⟩ := G.ex
  exact ⟨f, fd, m, F.kp, F.binds b, F.okX S len (fun cdv A outer s H vs Q E hr h => body f cdv A outer s H vs Q E hr h)⟩
theorem MF.cal {C : Addr} {m q : Str} {st : Stmt} {N ps : List Str} {k : Nat} {sp : Sp} (G : MF K C m q st) (S : FnScope N ps (defScope st)) (b : BArgs m q st ps) (len : Len ps sp) (body : Body0 P w K mg base N q st k sp) : MCal P w K mg base CX0 C (k + 1) m ps sp := by
  obtain ⟨f, fd, F, hm⟩ := G.ex
  exact ⟨f, fd, hm, F.binds b, F.ok S len (fun cdv A outer s H vs Q E hr h => body f cdv A outer s H vs Q E hr h)⟩
theorem MF.calX {C : Addr} {m q : Str} {st : Stmt} {N ps : List Str} {k : Nat} {sp : Sp} (G : MF K C m q st) (S : FnScope N ps (defScope st)) (b : BArgs m q st ps) (len : Len ps sp) (body : BodyX P w K mg base N q st k sp) : MCal P w K mg base (L2.CX P w) C (k + 1) m ps sp := by
  obtain ⟨f, fd, F, hm⟩ := G.ex
  exact ⟨f, fd, hm, F.binds b, F.okX S len (fun cdv A outer s H vs Q E hr h => body f cdv A outer s H vs Q E hr h)⟩
theorem KF.cal {C : Addr} {x q : Str} {st : Stmt} {N ps : List Str} {k : Nat} {sp : Sp} (G : KF K mg x C q st) (S : FnScope N ps (defScope st)) (b : BArgs "__init__" q st ps) (len : Len ps sp) (body : Body0 P w K mg base N q st k sp) : KCal P w K mg base CX0 C (k + 1) x ps sp := by
  obtain ⟨f, fd, F, hm⟩ := G.ex
  exact ⟨⟨f, fd, hm, F.binds b, F.ok S len (fun cdv A outer s H vs Q E hr h => body f cdv A outer s H vs Q E hr h)⟩, G.gl⟩
end
/-! ### the calls -/
section
variable {X : Cx} {CX : CXT} {k : Nat} {C : Addr} {ps : List Str} {sp : Sp} {E : XK} {x m : Str} {p pos apos : Pos} {e o : Expr} {es : List Expr} {ta : TE} {t : TA}
theorem pe_callG (F : Cal X.prog X.w X.K X.mg X.base CX k x ps sp) (hr : Room k X.A) (hg : Gl X x) (hx : Passes CX X E)
    (ha : PA X (e :: es) t) (hdb : (x == ("__debug__" : Str)) = false := by decide) (he : starEach (e :: es) X.env = (false, eval e
        X.env) :: starEach es X.env := by rfl) (hpl : (backTo pos (starEach es X.env)).any (·.1) = false := by rfl) :
    PE X (.Call (.Name x p) (e :: es) [] pos) (tCall sp [] E t) := by
  obtain ⟨f, fd, hm, kp, b, G⟩ := F.ex
  exact pe_call G hr hg hm kp b .nil hx ha hdb he hpl
theorem pe_methG {pl : Sem Bool} (F : MCal X.prog X.w X.K X.mg X.base CX C k m ps sp) (he : PE X o ta) (c : Cls X.K C) (hr : Room k X.A) (hx : Passes CX X E) (ha : PA X (e :: es) t)
    (hst : starEach (e :: es) X.env = (false, eval e X.env) :: starEach es X.env := by rfl)
        (hpl : (backTo pos (starEach es X.env)).any (·.1) = false := by rfl)
    (ht : eval (.Call (.Attribute o m apos)
        (e :: es) [] pos) X.env = (do
      let ov ← eval o X.env
      standAt apos.atName
      let (f, first) ← holding [ov]
          (getMethod ov m pl)
      callWith pos f first (backTo pos (starEach (e :: es) X.env))
          (backToKw pos (keywordEach [] X.env))) := by rfl) :
    PE X (.Call (.Attribute o m apos) (e :: es) [] pos) (tMeth C m sp [] E ta t) := by
  obtain ⟨f, fd, hm, b, G⟩ := F.ex
  exact pe_meth he c hm G hr b .nil hx ha hst hpl ht
theorem pe_methG0 {pl : Sem Bool} (F : MCal X.prog X.w X.K X.mg X.base CX C k m ps sp) (he : PE X o ta) (c : Cls X.K C) (hr : Room k X.A) (hx : Passes CX X E)
    (ht : eval (.Call (.Attribute o m
        apos) [] [] pos) X.env = (do
      let ov ← eval o X.env
      standAt apos.atName
      let (f, first) ← holding [ov]
          (getMethod ov m pl)
      callWith pos f first (backTo pos (starEach [] X.env))
          (backToKw pos (keywordEach [] X.env))) := by rfl) :
    PE X (.Call (.Attribute o m apos) [] [] pos) (tMeth C m sp [] E ta tNil) := by
  obtain ⟨f, fd, hm, b, G⟩ := F.ex
  exact pe_meth0 he c hm G hr b .nil hx ht
theorem pe_makeG (F : KCal X.prog X.w X.K X.mg X.base CX C k x ps sp) (hr : Room (k + 1) X.A) (hg : Gl X x) (hx : Passes CX X E)
    (ha : PA X (e :: es) t) (hdb : (x == ("__debug__" : Str)) = false := by decide) (he : starEach (e :: es) X.env = (false, eval e
        X.env) :: starEach es X.env := by rfl) (hpl : (backTo pos (starEach es X.env)).any (·.1) = false := by rfl) :
    PE X (.Call (.Name x p) (e :: es) [] pos) (tMake C sp [] E t) := by
  obtain ⟨f, fd, M, b, G⟩ := F.ex
  exact pe_make M G hr hg F.gl b .nil hx ha hdb he hpl
end
end K21
namespace K21
open PySem PySem.Spec PyProof.Rows L2 TL
abbrev sCell : Stmt := top 44
abbrev sMix : Stmt := top 45
abbrev sValue : Stmt := top 46
def cellF (ns : List Int) (k : Int) : Int := if k < (ns.length : Int) then (ns[k.toNat]?).getD 0 else 41 * k + 3
def spCell (K : PySem.W.Frag) : Sp := fun vs H Q _ => ∃ (a : Addr) (ns : List Int) (k : Int), vs = [.ref a, .int k] ∧ SqL K H a (ns.map V.int) ∧ 0 ≤ k ∧ Q (.int (cellF ns k)) H
def spMix : Sp := fun vs H Q _ => ∃ c k : Int, vs = [.int c, .int k] ∧ (-1000 ≤ k ∧ k ≤ 1000) ∧ Q (.int (mixF c k)) H
def spValue : Sp := fun vs H Q _ => ∃ c k : Int, vs = [.int c, .int k] ∧ (-1000 ≤ k ∧ k ≤ 1000) ∧ ∀ v, isVal v → Q (.int v) H
section
variable {P : Program} {w : World} {K : PySem.W.Frag}
    {mg : Str → Option Value} {base : Heap}
theorem scCell : FnScope ["_law_script", "_law_k"] ["_law_script", "_law_k"] (defScope sCell) := ⟨rfl, rfl, rfl, by decide +kernel, rfl, by decide +kernel, by decide +kernel⟩
theorem ok_cell (G : GF K mg "_law_cell" sCell) (hlen : mg "len" = none) : Cal P w K mg base CX0 1 "_law_cell" ["_law_script", "_law_k"] (spCell K) := by
  refine G.cal scCell (fun _ _ _ _ _ _ us hl => match us, hl with | [_, _], _ => rfl) (fun vs H Q E h => by obtain ⟨_, _, _, rfl, _⟩ := h; rfl) (fun f cdv A outer s H vs Q E hr h => ?_)
  obtain ⟨a, ns, k, rfl, hS, h0, q⟩ := h
  refine ⟨_, pss_cons (ps_if (pt_cmpR op_lt (pv 1) (pe_callB call_len_seq (by rfl) hlen PySem.boot_len (pa_cons (pv 0) pa_nil)) (nomark _)) (pss_one (ps_ret (pe_ix ix_list (pv 0) (pv 1) (fun _ _ => rfl)))) pss_nil)
    (pss_one (ps_ret (pe_op op_add (pe_op op_mul pe_int (pv 1)) pe_int))), ?_⟩
  refine ⟨_, rfl, _, rfl, a, _, rfl, .inl
      hS, _, _, rfl, rfl, _, rfl, ?_⟩
  have e : (ns.map V.int).length = ns.length := List.length_map ..
  rw [e]
  refine ite2 (fun c
      => ?_) (fun c => ?_)
  · have c' : k < (ns.length : Int) := of_decide_eq_true c
    refine ⟨_, rfl, _, rfl, a, _, k, .int ((ns[k.toNat]?).getD 0), rfl, rfl, hS, ?_, ?_⟩
    · refine at_of (j := k.toNat) (by omega) ?_
      rw [List.getElem?_map]
      have hk : k.toNat <
          ns.length := by omega
      rw [List.getElem?_eq_getElem hk]
      rfl
    · unfold cellF at q
      rw [if_pos c'] at q
      exact q
  · have c' : ¬ k < (ns.length : Int) := fun z => c (decide_eq_true z)
    refine ⟨_, rfl, _, _, rfl, rfl, .inl ⟨by decide, by decide⟩, _, _, rfl, rfl, ?_⟩
    unfold cellF at q
    rw [if_neg c'] at q
    exact q
theorem scMix : FnScope ["_law_cell_here", "_law_k", "_law_number"] ["_law_cell_here", "_law_k"] (defScope sMix) := ⟨rfl, rfl, rfl, by decide +kernel, rfl, by decide +kernel, by decide +kernel⟩
theorem ok_mix (G : GF K mg "_law_mix" sMix) : Cal P w K mg base CX0 1 "_law_mix" ["_law_cell_here", "_law_k"] spMix := by
  refine G.cal scMix (fun _ _ _ _ _ _ us hl => match us, hl with | [_, _], _ => rfl) (fun vs H Q E h => by obtain ⟨_, _, rfl, _⟩ := h; rfl) (fun f cdv A outer s H vs Q E hr h => ?_)
  obtain ⟨c, k, rfl, hk, q⟩ := h
  refine ⟨_, pss_cons (ps_set (i := 2) scMix.nd rfl (.inl rfl) (pe_op op_mod (pe_op op_add (pe_op op_add (pe_op op_mul (pe_op op_mod (pv 0) pe_int) pe_int) (pe_op op_mul pe_int (pv 1))) pe_int) pe_int))
    (pss_cons (ps_set (i := 2) scMix.nd rfl (.inl rfl) (pe_op op_mod (pe_op op_mul (pv 2) (pv 2)) pe_int))
    (pss_one (ps_ret (pe_op op_mod (pe_op op_mul (pe_op op_add (pv 2) (pe_op op_mul pe_int (pv 1))) (pv 2)) pe_int)))), ?_⟩
  have b1 := mod_b c (m := 2147483647) (by decide)
  have b2 := mod_b (c % 2147483647 * 48271 + 7919 * k + 11) (m := 2147483647) (by decide)
  have b3 := mixN_b c k
  refine ⟨_, rfl, _, _, rfl, rfl, (by show (0 : Int) < 2147483647; decide), _, _, rfl, rfl, .inr ⟨by decide, by decide⟩, _, rfl, _, _, rfl, rfl, .inl ⟨by decide, by decide⟩, _, _, rfl, rfl, _, _, rfl, rfl, _, _, rfl, rfl, (by show (0 : Int) < 2147483647; decide), ?_⟩
  refine ⟨_, rfl, _, rfl, _, _, rfl, rfl, .inl ⟨by omega, by omega⟩, _, _, rfl, rfl, (by show (0 : Int) < 2147483629; decide), ?_⟩
  refine ⟨_, rfl, _, rfl, _, _, rfl, rfl, .inl ⟨by decide, by decide⟩, _, _, rfl, rfl, _, rfl, _, _, rfl, rfl, .inr ⟨?_, ?_⟩, _, _, rfl, rfl, (by show (0 : Int) < 2147483587; decide), q⟩
  · show -(2 ^ 64) < mixN c k
    omega
  · show mixN c k < 2 ^ 64
    omega
theorem scValue : FnScope ["_law_cell_here", "_law_k", "_law_number", "_law_way"] ["_law_cell_here", "_law_k"] (defScope sValue) := ⟨rfl, rfl, rfl, by decide +kernel, rfl, by decide +kernel, by decide +kernel⟩
theorem ok_value (G : GF K mg "_law_value" sValue) (M : Cal P w K mg base CX0 1 "_law_mix" ["_law_cell_here", "_law_k"] spMix) : Cal P w K mg base CX0 2 "_law_value" ["_law_cell_here", "_law_k"] spValue := by
  refine G.cal scValue (fun _ _ _ _ _ _ us hl => match us, hl with | [_, _], _ => rfl) (fun vs H Q E h => by obtain ⟨_, _, rfl, _⟩ := h; rfl) (fun f cdv A outer s H vs Q E hr h => ?_)
  obtain ⟨c, k, rfl, hk, q⟩ := h
  refine ⟨_, pss_cons (ps_set (i := 2) scValue.nd rfl (.inl rfl) (pe_callG M hr (by rfl) pass0 (pa_cons (pv 0) (pa_cons (pv 1) pa_nil))))
    (pss_cons (ps_set (i := 3) scValue.nd rfl (.inl rfl) (pe_op op_mod (pe_op op_fdiv (pv 2) pe_int) pe_int))
    (pss_cons (ps_if (pt_cmpR op_eq (pv 3) pe_int (nomark _)) (pss_one (ps_ret (pe_op op_mod (pv 2) pe_int))) pss_nil)
    (pss_cons (ps_if (pt_cmpR op_eq (pv 3) pe_int (nomark _)) (pss_one (ps_ret (pe_op op_mod (pv 2) (pe_op op_pow pe_int pe_int)))) pss_nil)
    (pss_one (ps_ret (pe_op op_sub (pe_op op_sub (pe_op op_pow pe_int pe_int) pe_int) (pe_op op_mod (pv 2) pe_int))))))), ?_⟩
  have b := mixF_b c k
  refine ⟨_, rfl, _, rfl, c, k, rfl, hk, ?_⟩
  refine ⟨_, rfl, _, _, rfl, rfl, ⟨by decide, by decide⟩, _, _, rfl, rfl, (by show (0 : Int) < 3; decide), ?_⟩
  refine ⟨_, rfl, rfl,
      _, rfl, ?_⟩
  refine ite2 (fun _
      => ?_) (fun _ => ?_)
  · exact ⟨_, rfl, _, _, rfl, rfl, (by show (0 : Int) < 5; decide), q _ ⟨(mod_b _ (by decide)).1, Int.lt_of_lt_of_le (mod_b _ (by decide)).2 (by decide)⟩⟩
  refine ⟨_, rfl, rfl,
      _, rfl, ?_⟩
  refine ite2 (fun _
      => ?_) (fun _ => ?_)
  · refine ⟨_, rfl, _, _, rfl, rfl, ⟨by decide, by decide, by decide⟩, _, _, rfl, rfl, (by show (0 : Int) < 10 ^ 9; decide), q _ ?_⟩
    exact mod_b (mixF c k) (m := 10 ^ 9) (by decide)
  · refine ⟨_, _, rfl, rfl, ⟨by decide, by decide, by decide⟩, _, _, rfl, rfl, _, rfl, _, _, rfl, rfl, (by show (0 : Int) < 3; decide), _, _, rfl, rfl, q _ ?_⟩
    have z := mod_b (mixF c k) (m := 3) (by decide)
    show 0 ≤ 10 ^ 9 - 1 - mixF c k % 3 ∧ 10 ^ 9 - 1 - mixF c k % 3 < 1000000000
    omega
end
end K21
namespace K21
open PySem PySem.Spec PyProof.Rows L2 TL
abbrev sWord : Stmt := top 47
def spWord : Sp := fun vs H Q _ => ∃ c k : Int, vs = [.int c, .int k] ∧ (0 ≤ k ∧ k ≤ 60) ∧ ∀ H', Same H H' → Q (.str (wordF c k)) H'
theorem log_small {i : Int} (h0 : 0 ≤ i) (h1 : i < 4096) : i.natAbs.log2 < 1920 := by
  by_cases h : i.natAbs = 0
  · rw [h]; decide
  · exact Nat.lt_trans ((Nat.log2_lt h).mpr (show i.natAbs < 2 ^ 12 by omega)) (by decide)
theorem letter_at {i : Int} (h : 0 ≤ i ∧ i < 26) : atI lettersS.cps.toList i = some (97 + i.toNat) := by
  obtain ⟨n, rfl⟩ := Int.eq_ofNat_of_zero_le h.1
  exact atI_nat (letters_at n (by omega))
theorem line_small {n : Nat} (h : n ≤ 1000000) : n ≤ sizeLine := Nat.le_trans h (by rw [sizeLine_eq]; decide)
theorem sum_ones {l : List Str} (h : ∀ z ∈ l, z.length = 1) : (l.map (·.length)).sum = l.length := by
  induction l with
  | nil => rfl
  | cons a r ih =>
    rw [List.map_cons, List.sum_cons, ih (fun z hz => h z (List.mem_cons_of_mem _ hz)), h a List.mem_cons_self, List.length_cons]
    omega
theorem upd_same_heap {H H' : Hp} {D : Addr} {o : HO} (n : H D = none) (h : Same H H') : Same H (upd H' D o) := fun b u e => by
  rw [upd_ne (ne_of_none e n)]
  exact h b u e
theorem same_new {H : Hp} {D : Addr} {o : HO} (n : H D = none) : Same H (upd H D o) := upd_same_heap n (Same.refl H)
section
variable {P : Program} {w : World} {K : PySem.W.Frag}
    {mg : Str → Option Value} {base : Heap}
theorem scWord : FnScope ["_law_cell_here", "_law_k", "_law_letters", "_law_many", "_law_base", "_law_at", "_law_j"] ["_law_cell_here", "_law_k"] (defScope sWord) := ⟨rfl, rfl, rfl, by decide +kernel, rfl, by decide +kernel, by decide +kernel⟩
theorem ok_word (G : GF K mg "_law_word" sWord) (M : Cal P w K mg base CX0 1 "_law_mix" ["_law_cell_here", "_law_k"] spMix) (hrange : mg "range" = none) (hstr : mg "str" = none) :
    Cal P w K mg base CX0 2 "_law_word" ["_law_cell_here", "_law_k"] spWord := by
  refine G.cal scWord (fun _ _ _ _ _ _ us hl => match us, hl with | [_, _], _ => rfl) (fun vs H Q E h => by obtain ⟨_, _, rfl, _⟩ := h; rfl) (fun f cdv A outer s H vs Q E hr h => ?_)
  obtain ⟨c, k, rfl, hk, q⟩ := h
  refine ⟨_, pss_cons (ps_set (i := 2) scWord.nd rfl (.inr rfl) pe_str)
    (pss_cons (ps_if (pt_cmpR op_eq (pe_op op_mod (pe_callG M hr (by rfl) pass0 (pa_cons (pv 0) (pa_cons pe_int pa_nil))) pe_int) pe_int (nomark _))
      (pss_one (ps_ret (pe_op op_add_str (pe_ix ix_str (pv 2) (pe_op op_mod (pe_callG M hr (by rfl) pass0 (pa_cons (pv 0) (pa_cons pe_int pa_nil))) pe_int) (fun _ _ => rfl))
        (pe_callTy call_str_int (by rfl) hstr (by decide +kernel) (pa_cons (pe_op op_add (pe_op op_mod (pe_callG M hr (by rfl) pass0 (pa_cons (pv 0) (pa_cons pe_int pa_nil))) pe_int) (pe_op op_mul pe_int (pv 1))) pa_nil))))) pss_nil)
    (pss_cons (ps_set (i := 3) scWord.nd rfl (.inl rfl) (pe_op op_mod (pe_callG M hr (by rfl) pass0 (pa_cons (pv 0) (pa_cons pe_int pa_nil))) pe_int))
    (pss_cons (ps_set (i := 4) scWord.nd rfl (.inl rfl) (pe_join pe_str (pe_lc (own := [("_law_j", 6)]) (g := gName 6) (tt := tYes) rfl scWord.nd (pi_range1 (by rfl) hrange (pa_cons (pv 3) pa_nil))
        (blkOk_by (own := [("_law_j", 6)]) (N := ["_law_cell_here", "_law_k", "_law_letters", "_law_many", "_law_base", "_law_at", "_law_j"]) (sc := defScope sWord) (by decide +kernel))
        (fun _ _ _ _ _ => pg_name (i := 6) scWord.nd rfl (Or.inl rfl)) (fun _ _ _ _ _ => pts_nil)
        (fun _ _ _ _ _ => pe_ix ix_str (pv 2) (pe_op op_mod (pe_callG M hr (by rfl) pass0 (pa_cons (pv 0) (pa_cons (pe_op op_add pe_int (pv 6)) pa_nil))) pe_int) (fun _ _ => rfl)))))
    (pss_cons (ps_set (i := 5) scWord.nd rfl (.inl rfl) (pe_op op_mod (pe_callG M hr (by rfl) pass0 (pa_cons (pv 0) (pa_cons pe_int pa_nil))) (pe_op op_add (pv 3) pe_int)))
    (pss_one (ps_ret (pe_op op_add_str (pe_op op_add_str (pe_slice sl_str (pv 4) po_none (po_some (pv 5)))
      (pe_ix ix_str (pv 2) (pe_op op_mod (pe_op op_add (pe_callG M hr (by rfl) pass0 (pa_cons (pv 0) (pa_cons pe_int pa_nil))) (pv 1)) pe_int) (fun _ _ => rfl)))
      (pe_slice sl_str (pv 4) (po_some (pv 5)) po_none)))))))), ?_⟩
  have m26 : (0 : Int) < 26 := by decide
  have ll : (Str.ofString "abcdefghijklmnopqrstuvwxyz").length ≤ sizeLine := line_small (by rw [show (Str.ofString "abcdefghijklmnopqrstuvwxyz").length = 26 from len_letters]; decide)
  refine ⟨_, rfl, c, 52, rfl, by decide, _, _, rfl, rfl, (by show (0 : Int) < 3; decide), rfl, _, rfl, ?_⟩
  refine ite2 (fun e => ?_) (fun e => ?_)
  · have e' : mixF c 52 % 3 = 0 := by
      have z := of_decide_eq_true e
      exact V.int.inj z
    have b3 := mod_b (mixF c 54) (m := 1000) (by decide)
    refine ⟨_, rfl, _, rfl, c, 53, rfl, by decide, _, _, rfl, rfl, m26, _, _, _, rfl, rfl, ll, letter_at (mod_b _ m26), ?_⟩
    refine ⟨_, rfl, c, 54, rfl, by decide, _, _, rfl, rfl, (by show (0 : Int) < 1000; decide), _, rfl, _, _, rfl, rfl, .inl ⟨by decide, by decide⟩, _, _, rfl, rfl, _, rfl, log_small (by omega) (by omega), ?_⟩
    have hw : wordF c k = letS (mixF c 53 % 26) ++ Str.ofString (toString (mixF c 54 % 1000 + 37 * k)) := by unfold wordF; rw [if_pos e']
    have q' := q H (Same.refl H)
    rw [hw] at q'
    refine ⟨_, _, rfl, rfl, ?_, q'⟩
    obtain ⟨n, hn⟩ := Int.eq_ofNat_of_zero_le (show 0 ≤ mixF c 54 % 1000 + 37 * k by omega)
    rw [hn]
    have hl := numL_len (n := n) (k := 4) (by decide) (by omega)
    refine line_small ?_
    show 1 + (Str.ofString (toString ((n : Nat) : Int))).length ≤ 1000000
    rw [len_tl, tl_num]
    omega
  · have e' : ¬ mixF c 52 % 3 = 0 := fun z => e (decide_eq_true (congrArg V.int z))
    have hm := manyF_b c
    refine ⟨_, rfl, c, 50, rfl, by decide, _, _, rfl, rfl, (by show (0 : Int) < 7; decide), ?_⟩
    refine ⟨⟨_, rfl⟩, _, rfl, manyF c, rfl, by omega, by omega, fun D hD => ?_⟩
    refine lc_range (lo := 0) (n := (manyF c).toNat) (fun i H' => Same H H' ∧ H' D = some (.lst (((baseL c).take i).map V.str))) ⟨same_new hD, ?_⟩ ?_ ?_
    · rw [upd_same]; rfl
    · rintro i H' hi ⟨s1, hd⟩
      have hbl : (baseL c).length = (manyF c).toNat := by unfold baseL; rw [List.length_map, List.length_range]
      refine ⟨rfl, ?_⟩
      refine ⟨_, rfl, _, rfl, _, rfl, _, _, rfl, rfl, c, 60 + (0 + (i : Int)), rfl, by omega, _, _, rfl, rfl, m26, _, _, _, rfl, rfl, ll, letter_at (mod_b _ m26), _, hd, ?_, upd_same_heap hD s1, ?_⟩
      · refine small1000 ?_
        rw [List.length_map, List.length_take]; omega
      · rw [upd_same]
        have ei : (baseL c)[i]? = some (letS (mixF c (60 + (i : Int)) % 26)) := by
          unfold baseL
          rw [List.getElem?_map, List.getElem?_range hi]
          rfl
        rw [List.take_succ, ei, List.map_append]
        rw [Int.zero_add]
        rfl
    · rintro H' ⟨s1, hd⟩
      have hbl : (baseL c).length = (manyF c).toNat := by unfold baseL; rw [List.length_map, List.length_range]
      rw [← hbl, List.take_length] at hd
      have hone : ∀ z ∈ baseL c, z.length = 1 := by
        intro z hz
        unfold baseL at hz
        obtain ⟨j, _, rfl⟩ := List.mem_map.mp hz
        rfl
      refine ⟨_, D, baseL c, rfl, rfl, .inl (SqL.of hd), ?_, ?_⟩
      · rw [sum_ones hone, hbl, show (Str.ofString "").length = 0 by decide +kernel]; omega
      show _
      have hb := at_base c
      have hlen := len_base c
      refine ⟨_, rfl, c, 51, rfl, by decide, _, rfl, _, _, rfl, rfl, _, _, rfl, rfl, (by show (0 : Int) < manyF c + 1; omega), ?_⟩
      have hbs : (baseF c).length ≤ sizeLine := line_small (by rw [hlen]; omega)
      have hw : wordF c k = L2.cutS (baseF c) none (some (atF c)) ++ letS ((mixF c 55 + k) % 26) ++ L2.cutS (baseF c) (some (atF c)) none := by unfold wordF; rw [if_neg e']
      have q' := q H' s1
      rw [hw] at q'
      have c1 := cutS_length (baseF c) none (some (atF c))
      have c2 := cutS_length (baseF c) (some (atF c)) none
      refine ⟨_, rfl, ⟨_, rfl, _, rfl, _, rfl, hbs, ?_⟩⟩
      refine ⟨_, rfl, _, rfl, c, 55, rfl, by decide, _, rfl, _, _, rfl, rfl, _, _, rfl, rfl, m26, _, _, _, rfl, rfl, ll, letter_at (mod_b _ m26), _, _, rfl, rfl, ?_, ?_⟩
      · refine line_small ?_
        show (L2.cutS (baseF c) none (some (atF c))).length + 1 ≤ 1000000
        omega
      · refine ⟨_, rfl, ⟨_, rfl, _, rfl, _, rfl, hbs, _, _, rfl, rfl, ?_, q'⟩⟩
        refine line_small ?_
        show (L2.cutS (baseF c) none (some (atF c)) ++ letS ((mixF c 55 + k) % 26)).length + (L2.cutS (baseF c) (some (atF c)) none).length ≤ 1000000
        have z : (L2.cutS (baseF c) none (some (atF c)) ++ letS ((mixF c 55 + k) % 26)).length = (L2.cutS (baseF c) none (some (atF c))).length + 1 := by
          rw [len_tl, tl_append, List.length_append, len_tl]; rfl
        rw [z]
        omega
end
end K21
/-! how the law's data stand in the heap -/
namespace K21
open PySem PySem.Spec PyProof.Rows L2 TL
def But (H : Hp) (S : List Addr) : Hp := fun a => if a ∈ S then none else H a
theorem But.some_ {H : Hp} {S : List Addr} {a : Addr} {o : HO} (h : But H S a = some o) : a ∉ S ∧ H a = some o := by
  unfold But at h
  by_cases q : a ∈ S
  · rw [if_pos q] at h; cases h
  · rw [if_neg q] at h; exact ⟨q, h⟩
theorem But.of {H : Hp} {S : List Addr} {a : Addr} {o : HO} (n : a ∉ S) (h : H a = some o) : But H S a = some o := by
  unfold But; rw [if_neg n]; exact h
theorem But.upd {H : Hp} {S : List Addr} {a : Addr} {o : HO} (n : a ∈ S) : But (upd H a o) S = But H S := by
  funext b
  unfold But
  by_cases q : b ∈ S
  · rw [if_pos q, if_pos q]
  · rw [if_neg q, if_neg q, upd_ne (fun e => q (by rw [e]; exact n))]
theorem Same.but {H H' : Hp} (h : Same H H') (S : List Addr) : Same (But H S) (But H' S) := fun b o e => But.of (But.some_ e).1 (h b o (But.some_ e).2)
theorem same_of_but {H : Hp} (S : List Addr) : Same (But H S) H := fun b o e => (But.some_ e).2
/-- all but S is kept -/
def Kp (S : List Addr) (H H' : Hp) : Prop := ∀ b o, b ∉ S → H b = some o → H' b = some o
theorem Kp.refl {S : List Addr} (H : Hp) : Kp S H H := fun _ _ _ h => h
theorem Kp.trans {S : List Addr} {H H1 H2 : Hp} (a : Kp S H H1) (b : Kp S H1 H2) : Kp S H H2 := fun c o n h => b c o n (a c o n h)
theorem Kp.of {S : List Addr} {H H' : Hp} (a : Same H H') : Kp S H H' := fun c o _ h => a c o h
theorem Kp.mono {S T : List Addr} {H H' : Hp} (a : Kp S H H') (h : ∀ x, x ∈ S → x ∈ T) : Kp T H H' := fun c o n e => a c o (fun q => n (h c q)) e
theorem Kp.upd {S : List Addr} {H : Hp} {a : Addr} {o : HO} (h : a ∈ S) : Kp S H (upd H a o) := fun b u n e => by
  rw [upd_ne (fun z => n (by rw [z]; exact h))]; exact e
def AllAt {α : Type} (R : V → α → Prop) (vs : List V) (ls : List α) : Prop := vs.length = ls.length ∧ ∀ (i : Nat) (v : V) (l : α), vs[i]? = some v → ls[i]? = some l → R v l
theorem AllAt.nil {α : Type} {R : V → α → Prop} : AllAt R [] [] := ⟨rfl, fun i v l h => by simp at h⟩
theorem AllAt.imp {α : Type} {R R' : V → α → Prop} {vs : List V} {ls : List α} (h : AllAt R vs ls) (k : ∀ v l, R v l → R' v l) : AllAt R' vs ls := ⟨h.1, fun i v l a b => k v l (h.2 i v l a b)⟩
theorem AllAt.snoc {α : Type} {R : V → α → Prop} {vs : List V} {ls : List α} {v : V} {l : α} (h : AllAt R vs ls) (r : R v l) : AllAt R (vs ++ [v]) (ls ++ [l]) := by
  refine ⟨by rw [List.length_append, List.length_append, h.1]; rfl, fun i x y a b => ?_⟩
  by_cases hi : i < vs.length
  · rw [List.getElem?_append_left hi] at a
    rw [List.getElem?_append_left (by rw [← h.1]; exact hi)] at b
    exact h.2 i x y a b
  · rw [List.getElem?_append_right (by omega)] at a
    rw [List.getElem?_append_right (by rw [← h.1]; omega)] at b
    have hz : i - vs.length = 0 := by
      cases q : i - vs.length with
      | zero => rfl
      | succ k => rw [q] at a; simp at a
    rw [hz] at a
    rw [← h.1, hz] at b
    have e1 : v = x := by simpa using a
    have e2 : l = y := by simpa using b
    rw [← e1, ← e2]; exact r
theorem AllAt.cons {α : Type} {R : V → α → Prop} {vs : List V} {ls : List α} {v : V} {l : α} (r : R v l) (h : AllAt R vs ls) : AllAt R (v :: vs) (l :: ls) := by
  refine ⟨by rw [List.length_cons, List.length_cons, h.1], fun i x y a b => ?_⟩
  cases i with
  | zero =>
    have e1 : v = x := by simpa using a
    have e2 : l = y := by simpa using b
    rw [← e1, ← e2]; exact r
  | succ k => exact h.2 k x y (by simpa using a) (by simpa using b)
theorem AllAt.get {α : Type} {R : V → α → Prop} {vs : List V} {ls : List α} (h : AllAt R vs ls) {i : Nat} {v : V} (e : vs[i]? = some v) : ∃ l, ls[i]? = some l ∧ R v l := by
  have hi : i < vs.length := (List.getElem?_eq_some_iff.mp e).1
  have hj : i < ls.length := by rw [← h.1]; exact hi
  exact ⟨ls[i], List.getElem?_eq_getElem hj, h.2 i v _ e (List.getElem?_eq_getElem hj)⟩
theorem AllAt.take {α : Type} {R : V → α → Prop} {vs : List V} {ls : List α} (h : AllAt R vs ls) (n : Nat) : AllAt R (vs.take n) (ls.take n) := by
  refine ⟨by rw [List.length_take, List.length_take, h.1], fun i x y a b => ?_⟩
  rw [List.getElem?_take] at a b
  by_cases c : i < n
  · rw [if_pos c] at a b; exact h.2 i x y a b
  · rw [if_neg c] at a; cases a
theorem AllAt.drop {α : Type} {R : V → α → Prop} {vs : List V} {ls : List α} (h : AllAt R vs ls) (n : Nat) : AllAt R (vs.drop n) (ls.drop n) := by
  refine ⟨by rw [List.length_drop, List.length_drop, h.1], fun i x y a b => ?_⟩
  rw [List.getElem?_drop] at a b
  exact h.2 _ x y a b
theorem AllAt.append {α : Type} {R : V → α → Prop} {vs us : List V} {ls ms : List α} (h : AllAt R vs ls) (k : AllAt R us ms) : AllAt R (vs ++ us) (ls ++ ms) := by
  refine ⟨by rw [List.length_append, List.length_append, h.1, k.1], fun i x y a b => ?_⟩
  by_cases hi : i < vs.length
  · rw [List.getElem?_append_left hi] at a
    rw [List.getElem?_append_left (by rw [← h.1]; exact hi)] at b
    exact h.2 i x y a b
  · rw [List.getElem?_append_right (by omega)] at a
    rw [List.getElem?_append_right (by rw [← h.1]; omega), ← h.1] at b
    exact k.2 _ x y a b
/-- a lane's tuple, a part's tuple -/
def LnAt (H : Hp) (v : V) (l : Ln) : Prop := ∃ t f : Addr, v = .ref t ∧ H t = some (.tup [.str l.name, .int l.room, .ref f]) ∧ H f = some (.lst (l.first.map V.int))
def PtAt (H : Hp) (v : V) (p : Pt) : Prop := ∃ t n i o : Addr, v = .ref t ∧ H t = some (.tup [.str p.kd.word, .str p.name, .ref n, .ref i, .ref o]) ∧ H n = some (.lst (p.nums.map V.int)) ∧ H i = some (.lst (p.ins.map V.str)) ∧ H o = some (.lst (p.outs.map V.str))
theorem LnAt.same {H H' : Hp} {v : V} {l : Ln} (h : LnAt H v l) (s : Same H H') : LnAt H' v l := by
  obtain ⟨t, f, e, h1, h2⟩ := h
  exact ⟨t, f, e, s _ _ h1, s _ _ h2⟩
theorem PtAt.same {H H' : Hp} {v : V} {p : Pt} (h : PtAt H v p) (s : Same H H') : PtAt H' v p := by
  obtain ⟨t, n, i, o, e, h1, h2, h3, h4⟩ := h
  exact ⟨t, n, i, o, e, s _ _ h1, s _ _ h2, s _ _ h3, s _ _ h4⟩
/-- the law's state; X: addresses that no laid datum leans on -/
structure StAt (H : Hp) (X : List Addr) (p A B C : Addr) (g : GS) : Prop where
  st : H p = some (.lst [.ref A, .ref B, .ref C, .int g.one, .int g.other])
  la : ∃ vs, H A = some (.lst vs) ∧ AllAt (LnAt (But H (p :: A :: B :: C :: X))) vs g.lanes
  pa : ∃ vs, H B = some (.lst vs) ∧ AllAt (PtAt (But H (p :: A :: B :: C :: X))) vs g.parts
  op : H C = some (.lst (g.opn.map V.str))
  nd : A ≠ B ∧ A ≠ C ∧ B ≠ C ∧ p ≠ A ∧ p ≠ B ∧ p ≠ C
  xs : ∀ x ∈ X, (∃ o, H x = some o) ∧ x ≠ p ∧ x ≠ A ∧ x ≠ B ∧ x ≠ C
theorem StAt.same {H H' : Hp} {X : List Addr} {p A B C : Addr} {g : GS} (h : StAt H X p A B C g) (s : Same H H') : StAt H' X p A B C g := by
  obtain ⟨vs, h1, h2⟩ := h.la
  obtain ⟨us, k1, k2⟩ := h.pa
  exact ⟨s _ _ h.st, ⟨vs, s _ _ h1, h2.imp fun v l r => r.same (Same.but s _)⟩, ⟨us, s _ _ k1, k2.imp fun v l r => r.same (Same.but s _)⟩, s _ _ h.op, h.nd, fun x hx => ⟨(h.xs x hx).1.elim fun o e => ⟨o, s _ _ e⟩, (h.xs x hx).2⟩⟩
theorem StAt.out {H : Hp} {X : List Addr} {p A B C : Addr} {g : GS} (h : StAt H X p A B C g) {a : Addr} (n : H a = none) : a ∉ p :: A :: B :: C :: X := by
  obtain ⟨vs, h1, _⟩ := h.la
  obtain ⟨us, k1, _⟩ := h.pa
  intro q
  rcases List.mem_cons.mp q with rfl | q
  · rw [h.st] at n; cases n
  rcases List.mem_cons.mp q with rfl | q
  · rw [h1] at n; cases n
  rcases List.mem_cons.mp q with rfl | q
  · rw [k1] at n; cases n
  rcases List.mem_cons.mp q with rfl | q
  · rw [h.op] at n; cases n
  obtain ⟨⟨o, e⟩, _⟩ := h.xs a q
  rw [e] at n; cases n
/-- a lane is laid -/
theorem StAt.lane {H : Hp} {X : List Addr} {p A B C : Addr} {g : GS} (h : StAt H X p A B C g) {vs : List V} {v : V} {l : Ln} (e : H A = some (.lst vs)) (r : LnAt (But H (p :: A :: B :: C :: X)) v l) :
    StAt (upd H A (.lst (vs ++ [v]))) X p A B C { g with lanes := g.lanes ++ [l] } := by
  obtain ⟨us, h1, h2⟩ := h.la
  obtain ⟨ws, k1, k2⟩ := h.pa
  have ev : us = vs := by rw [h1] at e; injection e with e; injection e
  subst ev
  obtain ⟨n1, n2, n3, n4, n5, n6⟩ := h.nd
  have eb : But (upd H A (.lst (us ++ [v]))) (p :: A :: B :: C :: X) = But H (p :: A :: B :: C :: X) := But.upd (by simp)
  refine ⟨by rw [upd_ne n4]; exact h.st, ⟨_, upd_same, ?_⟩, ⟨ws, by rw [upd_ne n1.symm]; exact k1, ?_⟩, by rw [upd_ne n2.symm]; exact h.op, h.nd, fun x hx => ⟨(h.xs x hx).1.elim fun o e => ⟨o, by rw [upd_ne (h.xs x hx).2.2.1]; exact e⟩, (h.xs x hx).2⟩⟩
  · rw [eb]; exact h2.snoc r
  · rw [eb]; exact k2
/-- a part is laid -/
theorem StAt.part {H : Hp} {X : List Addr} {p A B C : Addr} {g : GS} (h : StAt H X p A B C g) {vs : List V} {v : V} {q : Pt} (e : H B = some (.lst vs)) (r : PtAt (But H (p :: A :: B :: C :: X)) v q) :
    StAt (upd H B (.lst (vs ++ [v]))) X p A B C { g with parts := g.parts ++ [q] } := by
  obtain ⟨us, h1, h2⟩ := h.la
  obtain ⟨ws, k1, k2⟩ := h.pa
  have ev : ws = vs := by rw [k1] at e; injection e with e; injection e
  subst ev
  obtain ⟨n1, n2, n3, n4, n5, n6⟩ := h.nd
  have eb : But (upd H B (.lst (ws ++ [v]))) (p :: A :: B :: C :: X) = But H (p :: A :: B :: C :: X) := But.upd (by simp)
  refine ⟨by rw [upd_ne n5]; exact h.st, ⟨us, by rw [upd_ne n1]; exact h1, ?_⟩, ⟨_, upd_same, ?_⟩, by rw [upd_ne n3.symm]; exact h.op, h.nd, fun x hx => ⟨(h.xs x hx).1.elim fun o e => ⟨o, by rw [upd_ne (h.xs x hx).2.2.2.1]; exact e⟩, (h.xs x hx).2⟩⟩
  · rw [eb]; exact h2
  · rw [eb]; exact k2.snoc r
/-- the open lanes are others -/
theorem StAt.opn {H : Hp} {X : List Addr} {p A B C : Addr} {g : GS} (h : StAt H X p A B C g) (os : List Str) : StAt (upd H C (.lst (os.map V.str))) X p A B C { g with opn := os } := by
  obtain ⟨us, h1, h2⟩ := h.la
  obtain ⟨ws, k1, k2⟩ := h.pa
  obtain ⟨n1, n2, n3, n4, n5, n6⟩ := h.nd
  have eb : But (upd H C (.lst (os.map V.str))) (p :: A :: B :: C :: X) = But H (p :: A :: B :: C :: X) := But.upd (by simp)
  refine ⟨by rw [upd_ne n6]; exact h.st, ⟨us, by rw [upd_ne n2]; exact h1, ?_⟩, ⟨ws, by rw [upd_ne n3]; exact k1, ?_⟩, upd_same, h.nd, fun x hx => ⟨(h.xs x hx).1.elim fun o e => ⟨o, by rw [upd_ne (h.xs x hx).2.2.2.2]; exact e⟩, (h.xs x hx).2⟩⟩
  · rw [eb]; exact h2
  · rw [eb]; exact k2
theorem But.le {H : Hp} {S T : List Addr} (h : ∀ x, x ∈ T → x ∈ S) : Same (But H S) (But H T) := fun b o e => But.of (fun q => (But.some_ e).1 (h b q)) (But.some_ e).2
/-- a new object that is to be changed -/
theorem StAt.more {H : Hp} {X : List Addr} {p A B C : Addr} {g : GS} (h : StAt H X p A B C g) {D : Addr} (n : H D = none) (o : HO) : StAt (upd H D o) (D :: X) p A B C g := by
  have k := h.same (same_new (o := o) n)
  have out := h.out n
  obtain ⟨vs, h1, h2⟩ := h.la
  obtain ⟨us, k1, k2⟩ := h.pa
  have key : Same (But H (p :: A :: B :: C :: X)) (But (upd H D o) (p :: A :: B :: C :: D :: X)) := fun b u e => by
    obtain ⟨nb, hb⟩ := But.some_ e
    have bD : b ≠ D := ne_of_none hb n
    refine But.of (fun q => nb ?_) (by rw [upd_ne bD]; exact hb)
    simp only [List.mem_cons] at q ⊢
    rcases q with q | q | q | q | q | q
    · exact .inl q
    · exact .inr (.inl q)
    · exact .inr (.inr (.inl q))
    · exact .inr (.inr
          (.inr (.inl q)))
    · exact absurd q bD
    · exact .inr (.inr (.inr (.inr q)))
  refine ⟨k.st, ⟨vs, same_new n _ _ h1, h2.imp fun v l r => r.same key⟩, ⟨us, same_new n _ _ k1, k2.imp fun v l r => r.same key⟩, k.op, k.nd, fun x hx => ?_⟩
  rcases List.mem_cons.mp
      hx with rfl | hx
  · simp only [List.mem_cons, not_or] at out
    exact ⟨⟨o, upd_same⟩, out.1, out.2.1, out.2.2.1, out.2.2.2.1⟩
  · exact k.xs x hx
theorem StAt.less {H : Hp} {X Y : List Addr} {p A B C : Addr} {g : GS} (h : StAt H X p A B C g) (hs : ∀ x, x ∈ Y → x ∈ X) : StAt H Y p A B C g := by
  obtain ⟨vs, h1, h2⟩ := h.la
  obtain ⟨us, k1, k2⟩ := h.pa
  have key : Same (But H (p :: A :: B :: C :: X)) (But H (p :: A :: B :: C :: Y)) := But.le fun x q => by
    simp only [List.mem_cons] at q ⊢
    rcases q with q | q | q | q | q
    · exact .inl q
    · exact .inr (.inl q)
    · exact .inr (.inr (.inl q))
    · exact .inr (.inr
          (.inr (.inl q)))
    · exact .inr (.inr (.inr (.inr (hs x q))))
  exact ⟨h.st, ⟨vs, h1, h2.imp fun v l r => r.same key⟩, ⟨us, k1, k2.imp fun v l r => r.same key⟩, h.op, h.nd, fun x hx => h.xs x (hs x hx)⟩
/-- an object of X is changed -/
theorem StAt.updX {H : Hp} {X : List Addr} {p A B C : Addr} {g : GS} (h : StAt H X p A B C g) {x : Addr} (hx : x ∈ X) (o : HO) : StAt (upd H x o) X p A B C g := by
  obtain ⟨vs, h1, h2⟩ := h.la
  obtain ⟨us, k1, k2⟩ := h.pa
  obtain ⟨_, m1, m2, m3, m4⟩ := h.xs x hx
  have eb : But (upd H x o) (p :: A :: B :: C :: X) = But H (p :: A :: B :: C :: X) := But.upd (by simp [hx])
  refine ⟨by rw [upd_ne m1.symm]; exact h.st, ⟨vs, by rw [upd_ne m2.symm]; exact h1, by rw [eb]; exact h2⟩, ⟨us, by rw [upd_ne m3.symm]; exact k1, by rw [eb]; exact k2⟩, by rw [upd_ne m4.symm]; exact h.op, h.nd, fun y hy => ⟨?_, (h.xs y hy).2⟩⟩
  by_cases e : y = x
  · exact ⟨o, by rw [e, upd_same]⟩
  · obtain ⟨u, z⟩ := (h.xs y hy).1
    exact ⟨u, by rw [upd_ne e]; exact z⟩
theorem StAt.lens {H : Hp} {X : List Addr} {p A B C : Addr} {g : GS} (h : StAt H X p A B C g) : ∃ vs, H A = some (.lst vs) ∧ vs.length = g.lanes.length := by
  obtain ⟨us, h1, h2⟩ := h.la
  exact ⟨us, h1, h2.1⟩
theorem StAt.lensP {H : Hp} {X : List Addr} {p A B C : Addr} {g : GS} (h : StAt H X p A B C g) : ∃ vs, H B = some (.lst vs) ∧ vs.length = g.parts.length := by
  obtain ⟨us, h1, h2⟩ := h.pa
  exact ⟨us, h1, h2.1⟩
theorem at0 {α : Type} {a b c d e : α} : atI [a, b, c, d, e] 0 = some a := atI_nat (j := 0) rfl
theorem at1 {α : Type} {a b c d e : α} : atI [a, b, c, d, e] 1 = some b := atI_nat (j := 1) rfl
theorem at2 {α : Type} {a b c d e : α} : atI [a, b, c, d, e] 2 = some c := atI_nat (j := 2) rfl
theorem at3 {α : Type} {a b c d e : α} : atI [a, b, c, d, e] 3 = some d := atI_nat (j := 3) rfl
theorem at4 {α : Type} {a b c d e : α} : atI [a, b, c, d, e] 4 = some e := atI_nat (j := 4) rfl
end K21
namespace K21
open PySem PySem.Spec PyProof.Rows L2 TL
abbrev sLane : Stmt := top 48
def spLane : Sp := fun vs H Q _ => ∃ (Z : List Addr) (p A B C : Addr) (g : GS) (c : Int) (b : Bool), vs = [.ref p, .int c, .bl b] ∧ StAt H Z p A B C g ∧ g.lanes.length ≤ 60 ∧
  ∀ (H' : Hp) (l : Ln), l.name = wordF g.one (g.lanes.length : Int) → LnOk l → Kp [A] H H' → StAt H' Z p A B C { g with lanes := g.lanes ++ [l] } → Q (.str l.name) H'
theorem ix5 {i : Int} (h : 0 ≤ i ∧ i < 5) : ∃ n : Int, (0 ≤ n ∧ n ≤ 3) ∧ atI [V.int 0, V.int 0, V.int 0, V.int 1, V.int 2] i = some (.int n) := by
  obtain ⟨n, rfl⟩ := Int.eq_ofNat_of_zero_le h.1
  have hn : n < 5 := by omega
  match n, hn with
  | 0, _ => exact ⟨0, by decide, atI_nat (j := 0) rfl⟩
  | 1, _ => exact ⟨0, by decide, atI_nat (j := 1) rfl⟩
  | 2, _ => exact ⟨0, by decide, atI_nat (j := 2) rfl⟩
  | 3, _ => exact ⟨1, by decide, atI_nat (j := 3) rfl⟩
  | 4, _ => exact ⟨2, by decide, atI_nat (j := 4) rfl⟩
theorem ix6 {i : Int} (h : 0 ≤ i ∧ i < 6) : ∃ n : Int, (0 ≤ n ∧ n ≤ 7) ∧ atI [V.int 0, V.int 0, V.int 1, V.int 1, V.int 2, V.int 7] i = some (.int n) := by
  obtain ⟨n, rfl⟩ := Int.eq_ofNat_of_zero_le h.1
  have hn : n < 6 := by omega
  match n, hn with
  | 0, _ => exact ⟨0, by decide, atI_nat (j := 0) rfl⟩
  | 1, _ => exact ⟨0, by decide, atI_nat (j := 1) rfl⟩
  | 2, _ => exact ⟨1, by decide, atI_nat (j := 2) rfl⟩
  | 3, _ => exact ⟨1, by decide, atI_nat (j := 3) rfl⟩
  | 4, _ => exact ⟨2, by decide, atI_nat (j := 4) rfl⟩
  | 5, _ => exact ⟨7, by decide, atI_nat (j := 5) rfl⟩
section
variable {P : Program} {w : World} {K : PySem.W.Frag}
    {mg : Str → Option Value} {base : Heap}
theorem scLane : FnScope ["_law_state", "_law_cell_here", "_law_back", "_law_many", "_law_first", "_law_room", "_law_name", "_law_k"] ["_law_state", "_law_cell_here", "_law_back"] (defScope sLane) := ⟨rfl, rfl, rfl, by decide +kernel, rfl, by decide +kernel, by decide +kernel⟩
theorem ok_lane (G : GF K mg "_law_lane" sLane) (M : Cal P w K mg base CX0 1 "_law_mix" ["_law_cell_here", "_law_k"] spMix) (MV : Cal P w K mg base CX0 2 "_law_value" ["_law_cell_here", "_law_k"] spValue)
    (MW : Cal P w K mg base CX0 2 "_law_word" ["_law_cell_here", "_law_k"] spWord) (hrange : mg "range" = none) (hmax : mg "max" = none) (hlen : mg "len" = none) :
    Cal P w K mg base CX0 3 "_law_lane" ["_law_state", "_law_cell_here", "_law_back"] spLane := by
  refine G.cal scLane (fun _ _ _ _ _ _ us hl => match us, hl with | [_, _, _], _ => rfl) (fun vs H Q E h => by obtain ⟨_, _, _, _, _, _, _, _, rfl, _⟩ := h; rfl) (fun f cdv A0 outer s H vs Q E hr h => ?_)
  obtain ⟨Z, p, A, B, C, g, c, b, rfl, S, hL, q⟩ := h
  have hr1 : Room 1 _ :=
      hr.mono (by decide)
  refine ⟨_, pss_cons (ps_set (i := 3) scLane.nd rfl (.inl rfl) (pe_ix ix_list (pe_lst (pa_cons pe_int (pa_cons pe_int (pa_cons pe_int (pa_cons pe_int (pa_cons pe_int pa_nil)))))) (pe_op op_mod (pe_callG M hr1 (by rfl) pass0 (pa_cons (pv 1) (pa_cons pe_int pa_nil))) pe_int) (fun _ _ => rfl)))
    (C8.pss_cut (ps_if (pt_val (pv 2)) (pss_one (ps_set (i := 3) scLane.nd rfl (.inl rfl) (pe_op op_mod (pe_callG M hr1 (by rfl) pass0 (pa_cons (pv 1) (pa_cons pe_int pa_nil))) pe_int))) pss_nil)
    (pss_cons (ps_setLc (i := 4) (own := [("_law_k", 7)]) (g := gName 7) (tt := tYes) rfl scLane.nd rfl rfl (sw_true rfl rfl rfl (by decide +kernel)) (pi_range1 (by rfl) hrange (pa_cons (pv 3) pa_nil))
        (blkOk_by (own := [("_law_k", 7)]) (N := ["_law_state", "_law_cell_here", "_law_back", "_law_many", "_law_first", "_law_room", "_law_name", "_law_k"]) (sc := defScope sLane) (by decide +kernel))
        (fun _ _ _ _ _ => pg_name (i := 7) scLane.nd rfl (Or.inl rfl)) (fun _ _ _ _ _ => pts_nil)
        (fun _ _ _ _ _ => pe_callG MV hr (by rfl) pass0 (pa_cons (pv 1) (pa_cons (pe_op op_add pe_int (pv 7)) pa_nil))))
    (pss_cons (ps_set (i := 5) scLane.nd rfl (.inl rfl) (pe_op op_add (pe_callB (call_max2 rfl) (by rfl) hmax (by decide +kernel) (pa_cons pe_int (pa_cons (pv 3) pa_nil)))
        (pe_ix ix_list (pe_lst (pa_cons pe_int (pa_cons pe_int (pa_cons pe_int (pa_cons pe_int (pa_cons pe_int (pa_cons pe_int pa_nil))))))) (pe_op op_mod (pe_callG M hr1 (by rfl) pass0 (pa_cons (pv 1) (pa_cons pe_int pa_nil))) pe_int) (fun _ _ => rfl))))
    (pss_cons (ps_set (i := 6) scLane.nd rfl (.inl rfl) (pe_callG MW hr (by rfl) pass0 (pa_cons (pe_ix ix_list (pv 0) pe_int (fun _ _ => rfl)) (pa_cons (pe_callB call_len_seq (by rfl) hlen PySem.boot_len (pa_cons (pe_ix ix_list (pv 0) pe_int (fun _ _ => rfl)) pa_nil)) pa_nil))))
    (pss_cons (ps_expr (pe_bm PySem.F.plainAttrs_list PySem.F.slot_list_append PySem.F.type_list_append mt_append (pe_ix ix_list (pv 0) pe_int (fun _ _ => rfl)) (pa_cons (pe_tup (pa_cons (pv 6) (pa_cons (pv 5) (pa_cons (pv 4) pa_nil)))) pa_nil)))
    (pss_one (ps_ret (pv 6)))))))), ?_⟩
  -- many
  refine ⟨by show 5 ≤ sizeLine; decide, fun l1 hl1 => ?_⟩
  obtain ⟨n0, hn0, e0⟩ := ix5 (mod_b (mixF c 1) (m := 5) (by decide))
  refine ⟨_, rfl, c, 1, rfl, by decide, _, _, rfl, rfl, (by show (0 : Int) < 5; decide), l1, _, _, _, rfl, rfl, SqL.of upd_same, e0, ?_⟩
  refine ⟨fun σ H' => ∃ m : Int, (0 ≤ m ∧ m ≤ 3) ∧ Same H H' ∧ σ = [some (.ref p), some (.int c), some (.bl b), some (.int m), none, none, none, none], ?_, ?_⟩
  · refine ⟨_, rfl, b, rfl, ?_⟩
    refine ite2 (fun _
        => ?_) (fun _ => ?_)
    · refine ⟨_, rfl, c, 1, rfl, by decide, _, _, rfl, rfl, (by show (0 : Int) < 4; decide), mixF c 1 % 4, ?_, same_new hl1, rfl⟩
      have z := mod_b (mixF c 1) (m := 4) (by decide)
      omega
    · exact ⟨n0, hn0, same_new hl1, rfl⟩
  rintro σ H1 ⟨m, hm, s1, rfl⟩
  -- first
  refine ⟨_, rfl, m, rfl, by omega, by omega, fun D hD => ?_⟩
  refine lc_range (lo := 0) (n := m.toNat) (fun i H' => Same H1 H' ∧ ∃ fs : List Int, fs.length = i ∧ (∀ v ∈ fs, isVal v) ∧ H' D = some (.lst (fs.map V.int))) ⟨same_new hD, [], rfl, by simp, upd_same⟩ ?_ ?_
  · rintro i H' hi ⟨s2, fs, hf, hv, hd⟩
    refine ⟨rfl, ?_⟩
    refine ⟨_, rfl, _, rfl, _, _, rfl, rfl, c, 10 + (0 + (i : Int)), rfl, by omega, fun v iv => ?_⟩
    refine ⟨_, hd, small1000 (by rw [List.length_map]; omega), upd_same_heap hD s2, fs ++ [v], by rw [List.length_append, hf]; rfl, ?_, ?_⟩
    · intro x hx
      rcases List.mem_append.mp
          hx with hx | hx
      · exact hv x hx
      · rw [List.mem_singleton.mp hx]; exact iv
    · rw [upd_same, List.map_append]; rfl
  rintro H2 ⟨s2, fs, hf, hv, hd⟩
  have s02 : Same H H2 := s1.trans s2
  -- room
  refine ⟨_, rfl, 1, m, rfl, by show 6 ≤ sizeLine; decide, fun l2 hl2 => ?_⟩
  obtain ⟨n1, hn1, e1⟩ := ix6 (mod_b (mixF c 2) (m := 6) (by decide))
  refine ⟨_, rfl, c, 2, rfl, by decide, _, _, rfl, rfl, (by show (0 : Int) < 6; decide), l2, _, _, _, rfl, rfl, SqL.of upd_same, e1, _, _, rfl, rfl, ?_⟩
  have s3 : Same H2 (upd H2 l2 (.lst [V.int 0, V.int 0, V.int 1, V.int 1, V.int 2, V.int 7])) := same_new hl2
  have S3 := (S.same s02).same s3
  obtain ⟨vsA, hA, lA⟩ := S3.lens
  -- name
  refine ⟨_, rfl, p, _, 3, _, rfl, rfl, SqL.of S3.st, at3, _, rfl, p, _, 0, _, rfl, rfl, SqL.of S3.st, at0, A, vsA, rfl, .inl (SqL.of hA), g.one, (vsA.length : Int), rfl, by omega, fun H4 s4 => ?_⟩
  rw [lA]
  have S4 := S3.same s4
  have hA4 := s4 _ _ hA
  -- append
  refine ⟨_, rfl, p, _, 0, _, rfl, rfl, SqL.of S4.st, at0, .inl ⟨rfl, _, SqL.of hA4⟩, _, rfl, _, rfl, _, rfl, (by show 3 ≤ sizeLine; decide), fun t ht => ?_⟩
  have S5 := S4.same (same_new (o := .tup [V.str (wordF g.one (g.lanes.length : Int)), V.int ((if m > 1 then m else 1) + n1), V.ref D]) ht)
  have hA5 : (upd H4 t (.tup [V.str (wordF g.one (g.lanes.length : Int)), V.int ((if m > 1 then m else 1) + n1), V.ref D])) A = some (.lst vsA) := same_new ht _ _ hA4
  refine ⟨A, vsA, .ref t, rfl, rfl, hA5, small1000 (by omega), _, rfl, ?_⟩
  have hroom : 1 ≤ (if m > 1 then m else 1) ∧ (if m > 1 then m else 1) ≤ 3 ∧ m ≤ (if m > 1 then m else 1) := by
    by_cases z : m > 1
    · rw [if_pos z]; omega
    · rw [if_neg z]; omega
  refine q _ ⟨wordF g.one (g.lanes.length : Int), (if m > 1 then m else 1) + n1, fs⟩ rfl ⟨?_, ?_, ?_, hv⟩ ?_ ?_
  · show 1 ≤ (if m > 1 then m else 1) + n1
    omega
  · show (if m > 1 then m else 1) + n1 ≤ 199
    omega
  · show (fs.length : Int) ≤ (if m > 1 then m else 1) + n1
    omega
  · exact (Kp.of ((s02.trans s3).trans (s4.trans (same_new ht)))).trans (Kp.upd (by simp))
  · refine S5.lane hA5 ⟨t, D, rfl, But.of (S4.out ht) upd_same, But.of (S.out ?_) ?_⟩
    · exact s1.free hD
    · exact same_new ht _ _ (s4 _ _ (s3 _ _ hd))
end
end K21
namespace K21
open PySem PySem.Spec PyProof.Rows L2 TL
abbrev sPart : Stmt := top 49
abbrev sPick : Stmt := top 50
/-- a part is laid: the new lanes ns -/
def GS.put (g : GS) (q : Pt) (ns : List Ln) : GS := { g with lanes := g.lanes ++ ns, parts := g.parts ++ [q], opn := g.opn ++ nms ns }
def spPart : Sp := fun vs H Q _ => ∃ (Z : List Addr) (p A B C n i : Addr) (g : GS) (c many : Int) (kd : Kd) (nums : List Int) (ins : List Str), vs = [.ref p, .int c, .str kd.word, .ref n, .ref i, .int many] ∧ StAt H Z p A B C g ∧
  H n = some (.lst (nums.map V.int)) ∧ H i = some (.lst (ins.map V.str)) ∧ n ∉ p :: A :: B :: C :: Z ∧ i ∉ p :: A :: B :: C :: Z ∧ 0 ≤ many ∧ (nums.length, ins.length, many.toNat) = kd.wants ∧ (∀ v ∈ nums, isVal v) ∧
  g.lanes.length ≤ 40 ∧ g.parts.length ≤ 40 ∧ g.opn.length ≤ 40 ∧
  ∀ (H' : Hp) (ns : List Ln) (q : Pt), ns.length = many.toNat → Fresh g.one g.lanes.length ns → q.kd = kd → q.name = wordF g.other (g.parts.length : Int) → q.ins = ins → q.outs = nms ns → PtOk q → Kp [A, B, C] H H' → StAt H' Z p A B C (g.put q ns) → Q .non H'
def spPick : Sp := fun vs H Q _ => ∃ (Z : List Addr) (p A B C : Addr) (g : GS) (c : Int), vs = [.ref p, .int c] ∧ StAt H Z p A B C g ∧ 1 ≤ g.opn.length ∧ g.opn.length ≤ 40 ∧
  ∀ (H' : Hp) (j : Nat) (x : Str), g.opn[j]? = some x → Kp [C] H H' → StAt H' Z p A B C { g with opn := g.opn.eraseIdx j } → Q (.str x) H'
theorem wants_small (k : Kd) : k.wants.1 ≤ 2 ∧ k.wants.2.1 ≤ 3 ∧ k.wants.2.2 ≤ 2 := by cases k <;> decide
section
variable {P : Program} {w : World} {K : PySem.W.Frag}
    {mg : Str → Option Value} {base : Heap}
theorem scPart : FnScope ["_law_state", "_law_cell_here", "_law_kind", "_law_numbers", "_law_ins", "_law_many", "_law_outs", "_law_k"] ["_law_state", "_law_cell_here", "_law_kind", "_law_numbers", "_law_ins", "_law_many"] (defScope sPart) := ⟨rfl, rfl, rfl, by decide +kernel, rfl, by decide +kernel, by decide +kernel⟩
theorem ok_part (G : GF K mg "_law_part" sPart) (M : Cal P w K mg base CX0 1 "_law_mix" ["_law_cell_here", "_law_k"] spMix) (ML : Cal P w K mg base CX0 3 "_law_lane" ["_law_state", "_law_cell_here", "_law_back"] spLane)
    (MW : Cal P w K mg base CX0 2 "_law_word" ["_law_cell_here", "_law_k"] spWord) (hrange : mg "range" = none) (hlen : mg "len" = none) :
    Cal P w K mg base CX0 4 "_law_part" ["_law_state", "_law_cell_here", "_law_kind", "_law_numbers", "_law_ins", "_law_many"] spPart := by
  refine G.cal scPart (fun _ _ _ _ _ _ us hl => match us, hl with | [_, _, _, _, _, _], _ => rfl) (fun vs H Q E h => by obtain ⟨_, _, _, _, _, _, _, _, _, _, _, _, _, rfl, _⟩ := h; rfl) (fun f cdv A0 outer s H vs Q E hr h => ?_)
  obtain ⟨Z, p, A, B, C, n, i, g, c, many, kd, nums, ins, rfl, S, hn, hi, on, oi, h0, hw, hv, hL, hP, hO, q⟩ := h
  have hr1 : Room 1 _ :=
      hr.mono (by decide)
  have hr2 : Room 2 _ :=
      hr.mono (by decide)
  refine ⟨_, pss_cons (ps_setLc (i := 6) (own := [("_law_k", 7)]) (g := gName 7) (tt := tYes) rfl scPart.nd rfl rfl (sw_true rfl rfl rfl (by decide +kernel)) (pi_range1 (by rfl) hrange (pa_cons (pv 5) pa_nil))
        (blkOk_by (own := [("_law_k", 7)]) (N := ["_law_state", "_law_cell_here", "_law_kind", "_law_numbers", "_law_ins", "_law_many", "_law_outs", "_law_k"]) (sc := defScope sPart) (by decide +kernel))
        (fun _ _ _ _ _ => pg_name (i := 7) scPart.nd rfl (Or.inl rfl)) (fun _ _ _ _ _ => pts_nil)
        (fun _ _ _ _ _ => pe_callG ML hr (by rfl) pass0 (pa_cons (pv 0) (pa_cons (pe_callG M hr1 (by rfl) pass0 (pa_cons (pv 1) (pa_cons (pe_op op_add pe_int (pv 7)) pa_nil))) (pa_cons pe_bl pa_nil)))))
    (pss_cons (ps_expr (pe_bm PySem.F.plainAttrs_list PySem.F.slot_list_append PySem.F.type_list_append mt_append (pe_ix ix_list (pv 0) pe_int (fun _ _ => rfl)) (pa_cons (pe_tup (pa_cons (pv 2)
        (pa_cons (pe_callG MW hr2 (by rfl) pass0 (pa_cons (pe_ix ix_list (pv 0) pe_int (fun _ _ => rfl)) (pa_cons (pe_callB call_len_seq (by rfl) hlen PySem.boot_len (pa_cons (pe_ix ix_list (pv 0) pe_int (fun _ _ => rfl)) pa_nil)) pa_nil)))
        (pa_cons (pv 3) (pa_cons (pv 4) (pa_cons (pv 6) pa_nil)))))) pa_nil)))
    (pss_one (ps_expr (pe_bm PySem.F.plainAttrs_list PySem.F.slot_list_extend PySem.F.type_list_extend mt_extend (pe_ix ix_list (pv 0) pe_int (fun _ _ => rfl)) (pa_cons (pv 6) pa_nil))))), ?_⟩
  have hsm := wants_small kd
  rw [← hw] at hsm
  obtain ⟨w1, w2, w3⟩ := hsm
  have w3' : many.toNat ≤ 2 := w3
  refine ⟨_, rfl, many, rfl, by omega, by omega, fun D hD => ?_⟩
  refine lc_range (lo := 0) (n := many.toNat) (fun j H' => ∃ ns : List Ln, ns.length = j ∧ Fresh g.one g.lanes.length ns ∧ Kp [A] H H' ∧ StAt H' (D :: Z) p A B C { g with lanes := g.lanes ++ ns } ∧ H' D = some (.lst ((nms ns).map V.str))) ⟨[], rfl, Fresh.nil, Kp.of (same_new hD), ?_, upd_same⟩ ?_ ?_
  · have z := S.more hD (.lst [])
    rw [List.append_nil]
    exact z
  · rintro j H' hj ⟨ns, hl, hf, kp, S1, hd⟩
    refine ⟨rfl, ?_⟩
    refine ⟨_, rfl, _, rfl, _, rfl, _, _, rfl, rfl, c, 20 + (0 + (j : Int)), rfl, by omega, D :: Z, p, A, B, C, _, _, false, rfl, S1, ?_, fun H2 l e ok kp2 S2 => ?_⟩
    · show (g.lanes ++ ns).length ≤ 60
      rw [List.length_append]; omega
    have oD := S.out hD
    have hD2 : H2 D = some (.lst ((nms ns).map V.str)) := kp2 _ _ (by simp only [List.mem_cons, not_or] at oD; simp; exact oD.2.1) hd
    refine ⟨_, hD2, small1000 (by rw [List.length_map, List.length_map]; omega), ns ++ [l], by rw [List.length_append, hl]; rfl, ?_, ?_, ?_, ?_⟩
    · refine hf.snoc ?_ ok
      rw [e]
      show wordF g.one ((g.lanes ++ ns).length : Int) = _
      rw [List.length_append]
    · exact fun b o nb hb => by
        have z := (kp.trans kp2) b o nb hb
        rw [upd_ne (ne_of_none hb hD)]; exact z
    · have z := S2.updX (x := D) (by simp) (.lst ((nms ns).map V.str ++ [V.str l.name]))
      rw [← List.append_assoc]
      exact z
    · rw [upd_same]; simp only [nms, List.map_append, List.map_cons, List.map_nil]
  rintro H1 ⟨ns, hl, hf, kp, S1, hd⟩
  have hn1 : H1 n = some (.lst (nums.map V.int)) := kp _ _ (by simp only [List.mem_cons, not_or] at on; simp; exact on.2.1) hn
  have hi1 : H1 i = some (.lst (ins.map V.str)) := kp _ _ (by simp only [List.mem_cons, not_or] at oi; simp; exact oi.2.1) hi
  have S2 := S1.less (Y := Z) (fun x hx => List.mem_cons_of_mem _ hx)
  obtain ⟨vsB, hB, lB⟩ := S2.lensP
  -- append
  refine ⟨_, rfl, p, _, 1, _, rfl, rfl, SqL.of S2.st, at1, .inl ⟨rfl, _, SqL.of hB⟩, _, rfl, _, rfl, p, _, 4, _, rfl, rfl, SqL.of S2.st, at4, _, rfl, p, _, 1, _, rfl, rfl, SqL.of S2.st, at1, B, vsB, rfl, .inl (SqL.of hB), g.other, (vsB.length : Int), rfl, ?_, fun H2 s2 => ?_⟩
  · have lB' : vsB.length = g.parts.length := lB
    omega
  have lB' : vsB.length = g.parts.length := lB
  rw [lB']
  have S3 := S2.same s2
  refine ⟨_, rfl, _, rfl, _, rfl, (by show 5 ≤ sizeLine; decide), fun t ht => ?_⟩
  refine ⟨B, vsB, .ref t, rfl, rfl, same_new ht _ _ (s2 _ _ hB), small1000 (by omega), ?_⟩
  have S4 := S3.same (same_new (o := .tup [V.str kd.word, V.str (wordF g.other (g.parts.length : Int)), V.ref n, V.ref i, V.ref D]) ht)
  have oD := S.out hD
  have S5 := S4.part (q := ⟨kd, wordF g.other (g.parts.length : Int), nums, ins, nms ns⟩) (v := .ref t) (same_new ht _ _ (s2 _ _ hB)) ⟨t, n, i, D, rfl, But.of (S3.out ht) upd_same, But.of on (same_new ht _ _ (s2 _ _ hn1)), But.of oi (same_new ht _ _ (s2 _ _ hi1)), But.of oD (same_new ht _ _ (s2 _ _ hd))⟩
  have hBD : D ≠ B := fun e => oD (by simp [e])
  have hD5 : (upd (upd H2 t (.tup [V.str kd.word, V.str (wordF g.other (g.parts.length : Int)), V.ref n, V.ref i, V.ref D])) B (.lst (vsB ++ [.ref t]))) D = some (.lst ((nms ns).map V.str)) := by
    rw [upd_ne hBD]; exact same_new ht _ _ (s2 _ _ hd)
  refine ⟨_, rfl, p, _, 2, _, rfl, rfl, SqL.of S5.st, at2, .inl ⟨rfl, _, SqL.of S5.op⟩, _, rfl, C, D, _, _, rfl, rfl, S5.op, hD5, ?_, ?_⟩
  · refine line_small ?_
    show (g.opn.map V.str).length + ((nms ns).map V.str).length ≤ 1000000
    simp only [List.length_map]
    omega
  have S6 := S5.opn (g.opn ++ nms ns)
  rw [List.map_append] at S6
  refine q _ ns ⟨kd, wordF g.other (g.parts.length : Int), nums, ins, nms ns⟩ hl hf rfl rfl rfl rfl ⟨?_, hv⟩ ?_ S6
  · show (nums.length, ins.length, (nms ns).length) = kd.wants
    rw [List.length_map, hl]; exact hw
  · intro b o nb hb
    simp only [List.mem_cons, List.not_mem_nil, or_false, not_or] at nb
    rw [upd_ne nb.2.2, upd_ne nb.2.1, upd_ne (ne_of_none (s2 _ _ (kp b o (by simp; exact nb.1) hb)) ht)]
    exact s2 _ _ (kp b o (by simp; exact nb.1) hb)
theorem scPick : FnScope ["_law_state", "_law_number"] ["_law_state", "_law_number"] (defScope sPick) := ⟨rfl, rfl, rfl, by decide +kernel, rfl, by decide +kernel, by decide +kernel⟩
theorem ok_pick (G : GF K mg "_law_pick" sPick) (hlen : mg "len" = none) : Cal P w K mg base CX0 1 "_law_pick" ["_law_state", "_law_number"] spPick := by
  refine G.cal scPick (fun _ _ _ _ _ _ us hl => match us, hl with | [_, _], _ => rfl) (fun vs H Q E h => by obtain ⟨_, _, _, _, _, _, _, rfl, _⟩ := h; rfl) (fun f cdv A0 outer s H vs Q E hr h => ?_)
  obtain ⟨Z, p, A, B, C, g, c, rfl, S, h1, h2, q⟩ := h
  refine ⟨_, pss_one (ps_ret (pe_bm PySem.F.plainAttrs_list PySem.F.slot_list_pop PySem.F.type_list_pop mt_popAt (pe_ix ix_list (pv 0) pe_int (fun _ _ => rfl))
    (pa_cons (pe_op op_mod (pv 1) (pe_callB call_len_seq (by rfl) hlen PySem.boot_len (pa_cons (pe_ix ix_list (pv 0) pe_int (fun _ _ => rfl)) pa_nil))) pa_nil))), ?_⟩
  have hl : (g.opn.map V.str).length = g.opn.length := List.length_map ..
  have hm := mod_b c (m := (g.opn.length : Int)) (by omega)
  obtain ⟨j, hj⟩ := Int.eq_ofNat_of_zero_le hm.1
  have hjl : j < g.opn.length := by omega
  refine ⟨_, rfl, p, _, 2, _, rfl, rfl, SqL.of S.st, at2, .inl ⟨rfl, _, SqL.of S.op⟩, _, rfl, _, rfl, p, _, 2, _, rfl, rfl, SqL.of S.st, at2, C, _, rfl, .inl (SqL.of S.op), _, _, rfl, rfl, ?_, C, _, c % (g.opn.length : Int), j, .str g.opn[j], rfl, ?_, S.op, ?_, ?_, ?_, ?_, ?_⟩
  · show (0 : Int) < ((g.opn.map V.str).length : Int)
    rw [hl]; omega
  · show [V.int (c % ((g.opn.map V.str).length : Int))] = _
    rw [hl]
  · omega
  · omega
  · rw [hl, hj]
    have z := ixN_seq (n := g.opn.length) (i := (j : Int)) (j := j) (by unfold ixN; rw [if_pos (by omega), if_pos (by omega)]; simp)
    exact z.1
  · rw [List.getElem?_map, List.getElem?_eq_getElem hjl]; rfl
  · have z := S.opn (g.opn.eraseIdx j)
    have e : (g.opn.map V.str).eraseIdx j = (g.opn.eraseIdx j).map V.str := by
      rw [List.eraseIdx_eq_take_drop_succ, List.eraseIdx_eq_take_drop_succ, List.map_append, List.map_take, List.map_drop]
    rw [e]
    exact q _ j _ (List.getElem?_eq_getElem hjl) (Kp.upd (by simp)) z
end
end K21
namespace K21
open PySem PySem.Spec PyProof.Rows L2 TL
abbrev sTwo : Stmt := top 51
abbrev sLoop : Stmt := top 52
/-- part's promise with two new lists -/
theorem part_new {H : Hp} {Z : List Addr} {p A B C n i : Addr} {g : GS} {c many : Int} {kd : Kd} {nums : List Int} {ins backs held : List Str} {L P : Nat} {Qb : Hp → Prop} {E : XK} {xn xi : List V} (S : StAt H Z p A B C g) (I : GInv g backs held L P)
    (hn : H n = none) (hi : (upd H n (.lst xn)) i = none) (en : xn = nums.map V.int) (ei : xi = ins.map V.str) (h0 : 0 ≤ many) (hw : (nums.length, ins.length, many.toNat) = kd.wants) (hv : ∀ v ∈ nums, isVal v) (hL : L ≤ 40) (hP : P ≤ 40) (hO : g.opn.length ≤ 40)
    (k : ∀ (H' : Hp) (ns : List Ln) (q : Pt), ns.length = many.toNat → Fresh g.one g.lanes.length ns → q.name = wordF g.other (g.parts.length : Int) → q.ins = ins → q.outs = nms ns → PtOk q → Kp [A, B, C] H H' → StAt H' Z p A B C (g.put q ns) → Qb H') :
    spPart [.ref p, .int c, .str kd.word, .ref n, .ref i, .int many] (upd (upd H n (.lst xn)) i (.lst xi)) (fun _ H' => Qb H') E := by
  subst en ei
  have S1 := S.same (same_new (o := .lst (nums.map V.int)) hn)
  have S2 := S1.same (same_new (o := .lst (ins.map V.str)) hi)
  have ni : n ≠ i := fun e => by rw [← e, upd_same] at hi; cases hi
  refine ⟨Z, p, A, B, C, n, i, g, c, many, kd, nums, ins, rfl, S2, by rw [upd_ne ni, upd_same], upd_same, S.out hn, S1.out hi, h0, hw, hv, Nat.le_trans I.hl hL, Nat.le_trans I.hp hP, hO, fun H' ns q h1 h2 _ h4 h5 h6 h7 kp S3 => k H' ns q h1 h2 h4 h5 h6 h7 ?_ S3⟩
  exact (Kp.of ((same_new hn).trans (same_new hi))).trans kp
/-- the same, the invariant behind it -/
theorem part_inv {H : Hp} {Z : List Addr} {p A B C n i : Addr} {g : GS} {c many : Int} {kd : Kd} {nums : List Int} {ins backs held : List Str} {L P : Nat} {Qb : Hp → Prop} {E : XK} {xn xi : List V} (S : StAt H Z p A B C g) (I : GInv g backs held L P)
    (hn : H n = none) (hi : (upd H n (.lst xn)) i = none) (en : xn = nums.map V.int) (ei : xi = ins.map V.str) (h0 : 1 ≤ many) (hw : (nums.length, ins.length, many.toNat) = kd.wants) (hv : ∀ v ∈ nums, isVal v) (hL : L ≤ 40) (hP : P ≤ 40) (hO : g.opn.length ≤ 40) (hh : ins.Perm held)
    (k : ∀ (H' : Hp) (g' : GS), Kp [A, B, C] H H' → StAt H' Z p A B C g' → GInv g' backs [] (L + many.toNat) (P + 1) → g'.one = g.one → g'.other = g.other → g'.opn.length = g.opn.length + many.toNat → Qb H') :
    spPart [.ref p, .int c, .str kd.word, .ref n, .ref i, .int many] (upd (upd H n (.lst xn)) i (.lst xi)) (fun _ H' => Qb H') E := by
  refine part_new S I hn hi en ei (by omega) hw hv hL hP hO fun H' ns q h1 h2 h3 h4 h5 h6 kp S3 => k H' _ kp S3 ?_ rfl rfl ?_
  · rw [← h1]
    exact I.plain h2 h3 h6 (by rw [h4]; exact hh) h5 (fun e => by rw [e] at h1; simp at h1; omega)
  · show (g.opn ++ nms ns).length = _
    rw [List.length_append, List.length_map, h1]
def GNext (H : Hp) (Z : List Addr) (p A B C : Addr) (g : GS) (backs : List Str) (L P lo hi : Nat) (Q : VK) : Prop := ∀ (H' : Hp) (g' : GS), Kp [A, B, C] H H' → StAt H' Z p A B C g' → GInv g' backs [] L P → g'.one = g.one → g'.other = g.other → lo ≤ g'.opn.length → g'.opn.length ≤ hi → Q .non H'
def spTwo : Sp := fun vs H Q _ => ∃ (Z : List Addr) (p A B C : Addr) (g : GS) (c : Int) (one : Str) (backs : List Str) (L P : Nat), vs = [.ref p, .int c, .str one, .bl true] ∧ StAt H Z p A B C g ∧ GInv g backs [one] L P ∧
  1 ≤ g.opn.length ∧ g.opn.length ≤ 10 ∧ L ≤ 30 ∧ P ≤ 30 ∧ GNext H Z p A B C g backs (L + 2) (P + 1) 1 (g.opn.length + 1) Q
def spLoop : Sp := fun vs H Q _ => ∃ (Z : List Addr) (p A B C : Addr) (g : GS) (c : Int) (one : Str) (backs : List Str) (L P : Nat), vs = [.ref p, .int c, .str one] ∧ StAt H Z p A B C g ∧ GInv g backs [one] L P ∧
  g.opn.length ≤ 10 ∧ L ≤ 30 ∧ P ≤ 30 ∧ GNext H Z p A B C g backs (L + 2) (P + 1) 1 (g.opn.length + 1) Q
theorem kp3 {A B C : Addr} {H H' : Hp} (h : Kp [C] H H') : Kp [A, B, C] H H' := h.mono fun x hx => by simp only [List.mem_cons, List.not_mem_nil, or_false] at hx ⊢; exact .inr (.inr hx)
theorem kp3A {A B C : Addr} {H H' : Hp} (h : Kp [A] H H') : Kp [A, B, C] H H' := h.mono fun x hx => by simp only [List.mem_cons, List.not_mem_nil, or_false] at hx ⊢; exact .inl hx
theorem len_erase {l : List Str} {j : Nat} {x : Str} (h : l[j]? = some x) : (l.eraseIdx j).length = l.length - 1 := List.length_eraseIdx_of_lt (List.getElem?_eq_some_iff.mp h).1
section
variable {P : Program} {w : World} {K : PySem.W.Frag}
    {mg : Str → Option Value} {base : Heap}
abbrev psPart : List Str := ["_law_state", "_law_cell_here", "_law_kind", "_law_numbers", "_law_ins", "_law_many"]
theorem scTwo : FnScope ["_law_state", "_law_cell_here", "_law_one", "_law_odd", "_law_other", "_law_way", "_law_third"] ["_law_state", "_law_cell_here", "_law_one", "_law_odd"] (defScope sTwo) := ⟨rfl, rfl, rfl, by decide +kernel, rfl, by decide +kernel, by decide +kernel⟩
theorem ok_two (G : GF K mg "_law_two" sTwo) (M : Cal P w K mg base CX0 1 "_law_mix" ["_law_cell_here", "_law_k"] spMix) (MP : Cal P w K mg base CX0 4 "_law_part" psPart spPart) (MK : Cal P w K mg base CX0 1 "_law_pick" ["_law_state", "_law_number"] spPick) (hlen : mg "len" = none) :
    Cal P w K mg base CX0 5 "_law_two" ["_law_state", "_law_cell_here", "_law_one", "_law_odd"] spTwo := by
  refine G.cal scTwo (fun _ _ _ _ _ _ us hl => match us, hl with | [_, _, _, _], _ => rfl) (fun vs H Q E h => by obtain ⟨_, _, _, _, _, _, _, _, _, _, _, rfl, _⟩ := h; rfl) (fun f cdv A0 outer s H vs Q E hr h => ?_)
  obtain ⟨Z, p, A, B, C, g, c, one, backs, L, P', rfl, S, I, h1, h2, hL, hP, q⟩ := h
  have hr1 : Room 1 _ :=
      hr.mono (by decide)
  refine ⟨_, pss_cons (ps_set (i := 4) scTwo.nd rfl (.inl rfl) (pe_callG MK hr1 (by rfl) pass0 (pa_cons (pv 0) (pa_cons (pe_callG M hr1 (by rfl) pass0 (pa_cons (pv 1) (pa_cons pe_int pa_nil))) pa_nil))))
    (pss_cons (ps_set (i := 5) scTwo.nd rfl (.inl rfl) (pe_op op_mod (pe_callG M hr1 (by rfl) pass0 (pa_cons (pv 1) (pa_cons pe_int pa_nil))) pe_int))
    (pss_one (ps_if (PW.pt (pw_and (pt_val (pv 3)) (pw_and (pt_cmpR op_lt (pv 5) pe_int (nomark _)) (pw_and1 (pt_cmpR op_gt (pe_callB call_len_seq (by rfl) hlen PySem.boot_len (pa_cons (pe_ix ix_list (pv 0) pe_int (fun _ _ => rfl)) pa_nil)) pe_int (nomark _))))))
      (pss_cons (ps_set (i := 6) scTwo.nd rfl (.inl rfl) (pe_callG MK hr1 (by rfl) pass0 (pa_cons (pv 0) (pa_cons (pe_callG M hr1 (by rfl) pass0 (pa_cons (pv 1) (pa_cons pe_int pa_nil))) pa_nil))))
        (pss_one (ps_expr (pe_callG MP hr (by rfl) pass0 (pa_cons (pv 0) (pa_cons (pv 1) (pa_cons pe_str (pa_cons (pe_lst pa_nil) (pa_cons (pe_lst (pa_cons (pv 2) (pa_cons (pv 4) (pa_cons (pv 6) pa_nil)))) (pa_cons pe_int pa_nil))))))))))
      (pss_one (ps_if (PW.pt (pw_and (pt_val (pv 3)) (pw_and1 (pt_cmpR op_lt (pv 5) pe_int (nomark _)))))
        (pss_one (ps_expr (pe_callG MP hr (by rfl) pass0 (pa_cons (pv 0) (pa_cons (pv 1) (pa_cons pe_str (pa_cons (pe_lst pa_nil) (pa_cons (pe_lst (pa_cons (pv 2) (pa_cons (pv 4) pa_nil))) (pa_cons pe_int pa_nil)))))))))
        (pss_one (ps_if (pt_cmpR op_eq (pe_op op_mod (pv 5) pe_int) pe_int (nomark _))
          (pss_one (ps_expr (pe_callG MP hr (by rfl) pass0 (pa_cons (pv 0) (pa_cons (pv 1) (pa_cons pe_str (pa_cons (pe_lst pa_nil) (pa_cons (pe_lst (pa_cons (pv 2) (pa_cons (pv 4) pa_nil))) (pa_cons pe_int pa_nil)))))))))
          (pss_one (ps_expr (pe_callG MP hr (by rfl) pass0 (pa_cons (pv 0) (pa_cons (pv 1) (pa_cons (pe_ix ix_list (pe_lst (pa_cons pe_str (pa_cons pe_str pa_nil))) (pe_op op_mod (pv 5) pe_int) (fun _ _ => rfl)) (pa_cons (pe_lst pa_nil) (pa_cons (pe_lst (pa_cons (pv 2) (pa_cons (pv 4) pa_nil))) (pa_cons pe_int pa_nil)))))))))))))))), ?_⟩
  refine ⟨_, rfl, _, rfl, c, 5, rfl, by decide, Z, p, A, B, C, g, _, rfl, S, h1, by omega, fun H1 j other hj kp1 S1 => ?_⟩
  have I1 := I.pick hj
  have l1 := len_erase hj
  refine ⟨_, rfl, c, 6, rfl, by decide, _, _, rfl, rfl, (by show (0 : Int) < 6; decide), ?_⟩
  have b6 := mod_b (mixF c 6) (m := 6) (by decide)
  -- the four ways
  have fin : ∀ (H2 : Hp) (g' : GS) (x : Nat), x ≤ 2 → Kp [A, B, C] H1 H2 → StAt H2 Z p A B C g' → GInv g' backs [] (L + x) (P' + 1) → g'.one = g.one → g'.other = g.other → 1 ≤ g'.opn.length → g'.opn.length ≤ g.opn.length + 1 → Q .non H2 := fun H2 g' x hx kp S2 I2 e1 e2 e3 e4 =>
    q H2 g' ((kp3 kp1).trans kp) S2 (I2.mono (by omega) (by omega)) e1 e2 e3 e4
  refine ⟨_, rfl, true, rfl, _, rfl, _, _, rfl, rfl, _, rfl, ?_⟩
  have two : ∀ (kd : Kd) (many : Int) (n i : Addr) (E : XK) (xi : List V), H1 n = none → (upd H1 n (.lst [])) i = none → xi = [V.str one, V.str other] → (0, 2, many.toNat) = kd.wants → 1 ≤ many → many.toNat ≤ 2 → spPart [.ref p, .int c, .str kd.word, .ref n, .ref i, .int many] (upd (upd H1 n (.lst [])) i (.lst xi)) (fun _ H' => Q .non H') E := by
    intro kd many n i E xi hn hi ei hw hm hm2
    refine part_inv (ins := [one, other]) (nums := []) S1 I1 hn hi rfl ei hm hw (by simp) (by omega) (by omega) (by show (g.opn.eraseIdx j).length ≤ 40; omega) (List.Perm.swap _ _ _) fun H2 g' kp S2 I2 e1 e2 e3 => ?_
    refine fin H2 g' many.toNat hm2 kp S2 I2 e1 e2 ?_ ?_
    · have e3' : g'.opn.length = (g.opn.eraseIdx j).length + many.toNat := e3
      omega
    · have e3' : g'.opn.length = (g.opn.eraseIdx j).length + many.toNat := e3
      omega
  have lo1 : (g.opn.eraseIdx j).length = g.opn.length - 1 := l1
  refine ite2 (fun c1 => ?a) (fun c1 => ?b)
  case' a =>
    refine ⟨_, rfl, p, _, 2, _, rfl, rfl, SqL.of S1.st, at2, C, _, rfl, .inl (SqL.of S1.op), _, _, rfl, rfl, _, rfl, ?_⟩
    refine ite2 (fun c2 => ?a1) (fun c2 => ?a2)
  case a1 =>
    have c2' : 0 < (g.opn.eraseIdx j).length := by
      have z := of_decide_eq_true c2
      have e : (((g.opn.eraseIdx j).map V.str).length : Int) = ((g.opn.eraseIdx j).length : Int) := by rw [List.length_map]
      have z' : (0 : Int) < (((g.opn.eraseIdx j).map V.str).length : Int) := z
      omega
    refine ⟨_, rfl, _, rfl, c, 7, rfl, by decide, Z, p, A, B, C, _, _, rfl, S1, c2', by show (g.opn.eraseIdx j).length ≤ 40; omega, fun H2 j2 third hj2 kp2 S2 => ?_⟩
    have I2 := I1.pick hj2
    have l2 := len_erase hj2
    have lo2 : ((g.opn.eraseIdx j).eraseIdx j2).length = (g.opn.eraseIdx j).length - 1 := l2
    refine ⟨_, rfl, _, rfl, (by show 0 ≤ sizeLine; decide), fun n hn => ⟨_, rfl, _, rfl, _, rfl, (by show 3 ≤ sizeLine; decide), fun i hi => ?_⟩⟩
    refine part_inv (E := E0) (kd := .choose) (ins := [one, other, third]) (nums := []) S2 I2 hn hi rfl rfl (by decide) rfl (by simp) (by omega) (by omega) (by show ((g.opn.eraseIdx j).eraseIdx j2).length ≤ 40; omega) ?_ fun H3 g' kp S3 I3 e1 e2 e3 => ?_
    · exact (List.reverse_perm [third, other, one])
    · have e3' : g'.opn.length = ((g.opn.eraseIdx j).eraseIdx j2).length + 1 := e3
      exact fin H3 g' 1 (by decide) ((kp3 kp2).trans kp) S3 I3 e1 e2 (by omega) (by omega)
  all_goals
    refine ⟨_, rfl, true, rfl, _, rfl, _, _, rfl, rfl, _, rfl, ?_⟩
    refine ite2 (fun c3 => ?_) (fun c3 => ?_)
    · refine ⟨_, rfl, _, rfl, (by show 0 ≤ sizeLine; decide), fun n hn => ⟨_, rfl, _, rfl, (by show 2 ≤ sizeLine; decide), fun i hi => ?_⟩⟩
      exact two .split 2 n i E0 _ hn hi rfl rfl (by decide) (by decide)
    refine ⟨_, rfl, _, _, rfl, rfl, (by show (0 : Int) < 3; decide), rfl, _, rfl, ?_⟩
    refine ite2 (fun c4 => ?_) (fun c4 => ?_)
    · refine ⟨_, rfl, _, rfl, (by show 0 ≤ sizeLine; decide), fun n hn => ⟨_, rfl, _, rfl, (by show 2 ≤ sizeLine; decide), fun i hi => ?_⟩⟩
      exact two .order 2 n i E0 _ hn hi rfl rfl (by decide) (by decide)
    refine ⟨_, rfl, _, rfl, (by show 2 ≤ sizeLine; decide), fun l hl => ?_⟩
    have b2 := mod_b (mixF c 6 % 6) (m := 2) (by decide)
    have S1' := S1.same (same_new (o := .lst [V.str "add", V.str "less"]) hl)
    have two' : ∀ (kd : Kd) (n i : Addr) (E : XK) (xi : List V), (upd H1 l (.lst [V.str "add", V.str "less"])) n = none → (upd (upd H1 l (.lst [V.str "add", V.str "less"])) n (.lst [])) i = none → xi = [V.str one, V.str other] → (0, 2, 1) = kd.wants → spPart [.ref p, .int c, .str kd.word, .ref n, .ref i, .int 1] (upd (upd (upd H1 l (.lst [V.str "add", V.str "less"])) n (.lst [])) i (.lst xi)) (fun _ H' => Q .non H') E := by
      intro kd n i E xi hn hi ei hw
      refine part_inv (ins := [one, other]) (nums := []) S1' I1 hn hi rfl ei (by decide) hw (by simp) (by omega) (by omega) (by show (g.opn.eraseIdx j).length ≤ 40; omega) (List.Perm.swap _ _ _) fun H2 g' kp S2 I2 e1 e2 e3 => ?_
      have e3' : g'.opn.length = (g.opn.eraseIdx j).length + 1 := e3
      exact fin H2 g' 1 (by decide) ((Kp.of (same_new hl)).trans kp) S2 I2 e1 e2 (by omega) (by omega)
    by_cases c5 : mixF c 6 % 6 % 2 = 0
    · refine ⟨_, rfl, _, _, rfl, rfl, (by show (0 : Int) < 2; decide), l, _, _, .str "add", rfl, rfl, SqL.of upd_same, at_of (j := 0) c5 rfl, (by show 0 ≤ sizeLine; decide), fun n hn => ⟨_, rfl, _, rfl, (by show 2 ≤ sizeLine; decide), fun i hi => ?_⟩⟩
      exact two' .add n i E0 _ hn hi rfl rfl
    · refine ⟨_, rfl, _, _, rfl, rfl, (by show (0 : Int) < 2; decide), l, _, _, .str "less", rfl, rfl, SqL.of upd_same, at_of (j := 1) (show mixF c 6 % 6 % 2 = 1 by omega) rfl, (by show 0 ≤ sizeLine; decide), fun n hn => ⟨_, rfl, _, rfl, (by show 2 ≤ sizeLine; decide), fun i hi => ?_⟩⟩
      exact two' .less n i E0 _ hn hi rfl rfl
theorem scLoop : FnScope ["_law_state", "_law_cell_here", "_law_one", "_law_own", "_law_fresh"] ["_law_state", "_law_cell_here", "_law_one"] (defScope sLoop) := ⟨rfl, rfl, rfl, by decide +kernel, rfl, by decide +kernel, by decide +kernel⟩
theorem fresh2 {one : Int} {n : Nat} {a b : Ln} (ha : a.name = wordF one (n : Int)) (oa : LnOk a) (hb : b.name = wordF one ((n + 1 : Nat) : Int)) (ob : LnOk b) : Fresh one n [a, b] := by
  have h1 : Fresh one n [a] := by
    have z := (Fresh.nil (one := one) (n := n)).snoc (l := a) (by rw [ha]; rfl) oa
    exact z
  have h2 := h1.snoc (l := b) (by rw [hb]; rfl) ob
  exact h2
theorem ok_loop (G : GF K mg "_law_loop" sLoop) (M : Cal P w K mg base CX0 1 "_law_mix" ["_law_cell_here", "_law_k"] spMix) (ML : Cal P w K mg base CX0 3 "_law_lane" ["_law_state", "_law_cell_here", "_law_back"] spLane)
    (MW : Cal P w K mg base CX0 2 "_law_word" ["_law_cell_here", "_law_k"] spWord) (hlen : mg "len" = none) :
    Cal P w K mg base CX0 4 "_law_loop" ["_law_state", "_law_cell_here", "_law_one"] spLoop := by
  refine G.cal scLoop (fun _ _ _ _ _ _ us hl => match us, hl with | [_, _, _], _ => rfl) (fun vs H Q E h => by obtain ⟨_, _, _, _, _, _, _, _, _, _, _, rfl, _⟩ := h; rfl) (fun f cdv A0 outer s H vs Q E hr h => ?_)
  obtain ⟨Z, p, A, B, C, g, c, one, backs, L, P', rfl, S, I, h2, hL, hP, q⟩ := h
  have hr1 : Room 1 _ :=
      hr.mono (by decide)
  have hr2 : Room 2 _ :=
      hr.mono (by decide)
  refine ⟨_, pss_cons (ps_set (i := 3) scLoop.nd rfl (.inl rfl) (pe_callG ML hr (by rfl) pass0 (pa_cons (pv 0) (pa_cons (pe_callG M hr1 (by rfl) pass0 (pa_cons (pv 1) (pa_cons pe_int pa_nil))) (pa_cons pe_bl pa_nil)))))
    (pss_cons (ps_set (i := 4) scLoop.nd rfl (.inl rfl) (pe_callG ML hr (by rfl) pass0 (pa_cons (pv 0) (pa_cons (pe_callG M hr1 (by rfl) pass0 (pa_cons (pv 1) (pa_cons pe_int pa_nil))) (pa_cons pe_bl pa_nil)))))
    (pss_cons (ps_expr (pe_bm PySem.F.plainAttrs_list PySem.F.slot_list_append PySem.F.type_list_append mt_append (pe_ix ix_list (pv 0) pe_int (fun _ _ => rfl)) (pa_cons (pe_tup (pa_cons pe_str
        (pa_cons (pe_callG MW hr2 (by rfl) pass0 (pa_cons (pe_ix ix_list (pv 0) pe_int (fun _ _ => rfl)) (pa_cons (pe_callB call_len_seq (by rfl) hlen PySem.boot_len (pa_cons (pe_ix ix_list (pv 0) pe_int (fun _ _ => rfl)) pa_nil)) pa_nil)))
        (pa_cons (pe_lst pa_nil) (pa_cons (pe_lst (pa_cons (pv 2) (pa_cons (pv 3) pa_nil))) (pa_cons (pe_lst (pa_cons (pv 3) (pa_cons (pv 4) pa_nil))) pa_nil)))))) pa_nil)))
    (pss_one (ps_expr (pe_bm PySem.F.plainAttrs_list PySem.F.slot_list_append PySem.F.type_list_append mt_append (pe_ix ix_list (pv 0) pe_int (fun _ _ => rfl)) (pa_cons (pv 4) pa_nil)))))), ?_⟩
  have hl := I.hl
  have hp := I.hp
  refine ⟨_, rfl, _, rfl, c, 20, rfl, by decide, Z, p, A, B, C, g, _, true, rfl, S, by omega, fun H1 own en eo kp1 S1 => ?_⟩
  refine ⟨_, rfl, _, rfl, c, 21, rfl, by decide, Z, p, A, B, C, _, _, false, rfl, S1, by show (g.lanes ++ [own]).length ≤ 60; rw [List.length_append]; simp; omega, fun H2 fresh fn fo kp2 S2 => ?_⟩
  have fn' : fresh.name = wordF g.one ((g.lanes.length + 1 : Nat) : Int) := by
    rw [fn]
    show wordF g.one ((g.lanes ++ [own]).length : Int) = _
    rw [List.length_append]; rfl
  obtain ⟨vsB, hB, lB⟩ := S2.lensP
  have lB' : vsB.length = g.parts.length := lB
  refine ⟨_, rfl, p, _, 1, _, rfl, rfl, SqL.of S2.st, at1, .inl ⟨rfl, _, SqL.of hB⟩, _, rfl, p, _, 4, _, rfl, rfl, SqL.of S2.st, at4, _, rfl, p, _, 1, _, rfl, rfl, SqL.of S2.st, at1, B, vsB, rfl, .inl (SqL.of hB), g.other, (vsB.length : Int), rfl, by omega, fun H3 s3 => ?_⟩
  rw [lB']
  have S3 := S2.same s3
  refine ⟨by show 0 ≤ sizeLine; decide, fun n hn => ⟨_, rfl, _, rfl, (by show 2 ≤ sizeLine; decide), fun i hi => ⟨_, rfl, _, rfl, (by show 2 ≤ sizeLine; decide), fun o ho => ⟨by show 5 ≤ sizeLine; decide, fun t ht => ?_⟩⟩⟩⟩
  have sn := same_new (o := .lst []) hn
  have si := same_new (o := .lst [V.str one, V.str own.name]) hi
  have so := same_new (o := .lst [V.str own.name, V.str fresh.name]) ho
  have st := same_new (o := .tup [V.str "order", V.str (wordF g.other (g.parts.length : Int)), .ref n, .ref i, .ref o]) ht
  have sall := s3.trans (sn.trans (si.trans (so.trans st)))
  have Sn := S3.same sn
  have Si := Sn.same si
  have So := Si.same so
  have St := So.same st
  refine ⟨B, vsB, .ref t, rfl, rfl, sall _ _ hB, small1000 (by omega), ?_⟩
  have Sp := St.part (q := ⟨.order, wordF g.other (g.parts.length : Int), [], [one, own.name], [own.name, fresh.name]⟩) (v := .ref t) (sall _ _ hB)
    ⟨t, n, i, o, rfl, But.of (So.out ht) upd_same, But.of (S3.out hn) (st _ _ (so _ _ (si _ _ upd_same))), But.of (Sn.out hi) (st _ _ (so _ _ upd_same)), But.of (Si.out ho) (st _ _ upd_same)⟩
  refine ⟨_, rfl, p, _, 2, _, rfl, rfl, SqL.of Sp.st, at2, .inl ⟨rfl, _, SqL.of Sp.op⟩, _, rfl, C, _, _, rfl, rfl, Sp.op, small1000 (by show (g.opn.map V.str).length ≤ 1000; rw [List.length_map]; omega), ?_⟩
  have Sq := Sp.opn (g.opn ++ [fresh.name])
  rw [List.map_append] at Sq
  refine q _ { g with lanes := g.lanes ++ [own, fresh], parts := g.parts ++ [⟨.order, wordF g.other (g.parts.length : Int), [], [one, own.name], [own.name, fresh.name]⟩], opn := g.opn ++ [fresh.name] } ?_ ?_ ?_ rfl rfl ?_ ?_
  · intro b u nb hb
    simp only [List.mem_cons, List.not_mem_nil, or_false, not_or] at nb
    rw [upd_ne nb.2.2, upd_ne nb.2.1]
    exact sall _ _ (kp2 _ _ (by simp; exact nb.1) (kp1 _ _ (by simp; exact nb.1) hb))
  · have e : g.lanes ++ [own, fresh] = (g.lanes ++ [own]) ++ [fresh] := by rw [List.append_assoc]; rfl
    rw [e]
    exact Sq
  · exact I.loop (fresh2 en eo fn' fo) rfl ⟨rfl, by simp⟩ rfl rfl
  · show 1 ≤ (g.opn ++ [fresh.name]).length
    rw [List.length_append]; simp
  · show (g.opn ++ [fresh.name]).length ≤ g.opn.length + 1
    rw [List.length_append]; simp
end
end K21
namespace K21
open PySem PySem.Spec PyProof.Rows L2 TL
abbrev sStep : Stmt := top 53
/-- an if whose ways are shown once: M tells what the test leaves -/
def tIfC (c : TT) (t u : TS) : TS := fun D σ H => ∃ M : Bool → Hp → Prop, c σ H M ∧ (∀ H', M true H' → t D σ H') ∧ (∀ H', M false H' → u D σ H')
theorem ps_ifC {X : Cx} {c : Expr} {a b : List Stmt} {tc : TT} {t u : TS} {pos : Pos} (hc : PT X c tc) (ha : PSs X a t) (hb : PSs X b u) : PS X (.If c a b pos) (tIfC tc t u) := by
  refine ⟨fun pins s σ
      H D I h => ?_⟩
  obtain ⟨M, h1, h2, h3⟩ := h
  refine wpAny_If (thn (hc.run pins s σ H _ I h1) fun d s1 ⟨H1, I1, q1⟩ => ?_)
  cases d with
  | true => exact ha.run pins s1 σ H1 D I1 (h2 H1 q1)
  | false => exact hb.run pins s1 σ H1 D I1 (h3 H1 q1)
/-- the last open lane is taken -/
theorem GInv.pop {g : GS} {backs held : List Str} {L P : Nat} (I : GInv g backs held L P) {os : List Str} {x : Str} (h : g.opn = os ++ [x]) : GInv { g with opn := os } backs (x :: held) L P := by
  refine ⟨I.ln, I.pn, I.hl, I.hp, ?_, I.po, I.con.perm fun y hy => ?_⟩
  · refine List.Perm.trans ?_ I.pi
    rw [h, pc]
    intro y
    simp only [List.count_append, List.count_cons, List.count_nil]
    omega
  · rw [h] at hy
    show y ∈ os ++ x :: held
    simp only [List.mem_append, List.mem_cons, List.not_mem_nil, or_false] at hy ⊢
    rcases hy with (hy | hy) | hy
    · exact .inl hy
    · exact .inr (.inl hy)
    · exact .inr (.inr hy)
def spStep : Sp := fun vs H Q _ => ∃ (Z : List Addr) (p A B C : Addr) (g : GS) (c : Int) (backs : List Str) (L P : Nat), vs = [.ref p, .int c, .bl true] ∧ StAt H Z p A B C g ∧ GInv g backs [] L P ∧
  1 ≤ g.opn.length ∧ g.opn.length ≤ 4 ∧ L ≤ 28 ∧ P ≤ 28 ∧ GNext H Z p A B C g backs (L + 2) (P + 2) 1 4 Q
theorem put_nil (g : GS) (q : Pt) {ns : List Ln} (h : ns.length = 0) : g.put q ns = { g with parts := g.parts ++ [q] } := by
  cases ns with
  | nil => unfold GS.put nms; simp
  | cons a r => simp at h
/-- a take, its list made beside a new one -/
theorem take_at {H : Hp} {Z : List Addr} {p A B C n i : Addr} {g : GS} {c : Int} {x : Str} {backs : List Str} {L P : Nat} {Qb : Hp → Prop} {E : XK} (S : StAt H Z p A B C g) (I : GInv g backs [x] L P) (hn : H n = some (.lst [])) (hi : H i = some (.lst [V.str x]))
    (on : n ∉ p :: A :: B :: C :: Z) (oi : i ∉ p :: A :: B :: C :: Z) (hL : L ≤ 40) (hP : P ≤ 40) (hO : g.opn.length ≤ 40)
    (k : ∀ (H' : Hp) (q : Pt), q.name = wordF g.other (g.parts.length : Int) → q.ins = [x] → q.outs = [] → PtOk q → Kp [A, B, C] H H' → StAt H' Z p A B C { g with parts := g.parts ++ [q] } → Qb H') :
    spPart [.ref p, .int c, .str Kd.take.word, .ref n, .ref i, .int 0] H (fun _ H' => Qb H') E := by
  refine ⟨Z, p, A, B, C, n, i, g, c, 0, .take, [], [x], rfl, S, hn, hi, on, oi, by decide, rfl, by simp, Nat.le_trans I.hl hL, Nat.le_trans I.hp hP, hO, fun H' ns q h1 h2 _ h4 h5 h6 h7 kp S3 => ?_⟩
  rw [put_nil g q h1] at S3
  have h0 : ns = [] := List.length_eq_zero_iff.mp h1
  exact k H' q h4 h5 (by rw [h6, h0]; rfl) h7 kp S3
section
variable {P : Program} {w : World} {K : PySem.W.Frag}
    {mg : Str → Option Value} {base : Heap}
theorem scStep : FnScope ["_law_state", "_law_cell_here", "_law_odd", "_law_way", "_law_one"] ["_law_state", "_law_cell_here", "_law_odd"] (defScope sStep) := ⟨rfl, rfl, rfl, by decide +kernel, rfl, by decide +kernel, by decide +kernel⟩
theorem ok_step (G : GF K mg "_law_step" sStep) (M : Cal P w K mg base CX0 1 "_law_mix" ["_law_cell_here", "_law_k"] spMix) (MV : Cal P w K mg base CX0 2 "_law_value" ["_law_cell_here", "_law_k"] spValue) (MP : Cal P w K mg base CX0 4 "_law_part" psPart spPart)
    (MK : Cal P w K mg base CX0 1 "_law_pick" ["_law_state", "_law_number"] spPick) (MT : Cal P w K mg base CX0 5 "_law_two" ["_law_state", "_law_cell_here", "_law_one", "_law_odd"] spTwo) (ML : Cal P w K mg base CX0 4 "_law_loop" ["_law_state", "_law_cell_here", "_law_one"] spLoop) (hlen : mg "len" = none) :
    Cal P w K mg base CX0 6 "_law_step" ["_law_state", "_law_cell_here", "_law_odd"] spStep := by
  refine G.cal scStep (fun _ _ _ _ _ _ us hl => match us, hl with | [_, _, _], _ => rfl) (fun vs H Q E h => by obtain ⟨_, _, _, _, _, _, _, _, _, _, rfl, _⟩ := h; rfl) (fun f cdv A0 outer s H vs Q E hr h => ?_)
  obtain ⟨Z, p, A, B, C, g, c, backs, L, P', rfl, S, I, h1, h2, hL, hP, q⟩ := h
  have hr1 : Room 1 _ :=
      hr.mono (by decide)
  have hr2 : Room 2 _ :=
      hr.mono (by decide)
  have hr4 : Room 4 _ := hr.mono (by decide)
  refine ⟨_, pss_cons (ps_set (i := 3) scStep.nd rfl (.inl rfl) (pe_op op_mod (pe_callG M hr1 (by rfl) pass0 (pa_cons (pv 1) (pa_cons pe_int pa_nil))) pe_int))
    (pss_cons (ps_set (i := 4) scStep.nd rfl (.inl rfl) (pe_callG MK hr1 (by rfl) pass0 (pa_cons (pv 0) (pa_cons (pe_callG M hr1 (by rfl) pass0 (pa_cons (pv 1) (pa_cons pe_int pa_nil))) pa_nil))))
    (pss_one (ps_ifC (PW.pt (pw_and (pt_cmpR op_lt (pv 3) pe_int (nomark _)) (pw_and1 (pt_cmpR op_lt (pe_callB call_len_seq (by rfl) hlen PySem.boot_len (pa_cons (pe_ix ix_list (pv 0) pe_int (fun _ _ => rfl)) pa_nil)) pe_int (nomark _)))))
      (pss_one (ps_expr (pe_callG MP hr4 (by rfl) pass0 (pa_cons (pv 0) (pa_cons (pv 1) (pa_cons pe_str (pa_cons (pe_lst pa_nil) (pa_cons (pe_lst (pa_cons (pv 4) pa_nil)) (pa_cons pe_int pa_nil)))))))))
      (pss_one (ps_if (pt_cmpR op_eq (pv 3) pe_int (nomark _))
        (pss_cons (ps_expr (pe_callG MP hr4 (by rfl) pass0 (pa_cons (pv 0) (pa_cons (pv 1) (pa_cons pe_str (pa_cons (pe_lst pa_nil) (pa_cons (pe_lst (pa_cons (pv 4) pa_nil)) (pa_cons pe_int pa_nil))))))))
          (pss_one (ps_expr (pe_callG MP hr4 (by rfl) pass0 (pa_cons (pv 0) (pa_cons (pv 1) (pa_cons pe_str (pa_cons (pe_lst pa_nil) (pa_cons (pe_lst (pa_cons (pe_bm0 PySem.F.plainAttrs_list PySem.F.slot_list_pop PySem.F.type_list_pop mt_pop (pe_ix ix_list (pv 0) pe_int (fun _ _ => rfl))) pa_nil)) (pa_cons pe_int pa_nil))))))))))
        (pss_one (ps_ifC (PW.pt (pw_and (pt_cmpR op_lt (pv 3) pe_int (nomark _)) (pw_and1 (pt_cmpR op_gt (pe_callB call_len_seq (by rfl) hlen PySem.boot_len (pa_cons (pe_ix ix_list (pv 0) pe_int (fun _ _ => rfl)) pa_nil)) pe_int (nomark _)))))
          (pss_one (ps_expr (pe_callG MT hr (by rfl) pass0 (pa_cons (pv 0) (pa_cons (pv 1) (pa_cons (pv 4) (pa_cons (pv 2) pa_nil)))))))
          (pss_one (ps_if (pt_cmpR op_lt (pv 3) pe_int (nomark _))
            (pss_one (ps_expr (pe_callG MP hr4 (by rfl) pass0 (pa_cons (pv 0) (pa_cons (pv 1) (pa_cons pe_str (pa_cons (pe_lst (pa_cons (pe_callG MV hr2 (by rfl) pass0 (pa_cons (pv 1) (pa_cons pe_int pa_nil))) (pa_cons (pe_callG MV hr2 (by rfl) pass0 (pa_cons (pv 1) (pa_cons pe_int pa_nil))) pa_nil))) (pa_cons (pe_lst (pa_cons (pv 4) pa_nil)) (pa_cons pe_int pa_nil)))))))))
            (pss_one (ps_if (pt_cmpR op_eq (pv 3) pe_int (nomark _))
              (pss_one (ps_expr (pe_callG MP hr4 (by rfl) pass0 (pa_cons (pv 0) (pa_cons (pv 1) (pa_cons pe_str (pa_cons (pe_lst (pa_cons (pe_callG MV hr2 (by rfl) pass0 (pa_cons (pv 1) (pa_cons pe_int pa_nil))) pa_nil)) (pa_cons (pe_lst (pa_cons (pv 4) pa_nil)) (pa_cons pe_int pa_nil)))))))))
              (pss_one (ps_if (pt_cmpR op_eq (pe_op op_mod (pe_callG M hr1 (by rfl) pass0 (pa_cons (pv 1) (pa_cons pe_int pa_nil))) pe_int) pe_int (nomark _))
                (pss_one (ps_expr (pe_callG ML hr4 (by rfl) pass0 (pa_cons (pv 0) (pa_cons (pv 1) (pa_cons (pv 4) pa_nil))))))
                (pss_one (ps_expr (pe_callG MP hr4 (by rfl) pass0 (pa_cons (pv 0) (pa_cons (pv 1) (pa_cons pe_str (pa_cons (pe_lst pa_nil) (pa_cons (pe_lst (pa_cons (pv 4) pa_nil)) (pa_cons pe_int pa_nil)))))))))))))))))))))), ?_⟩
  refine ⟨_, rfl, c, 3, rfl, by decide, _, _, rfl, rfl, (by show (0 : Int) < 9; decide), ?_⟩
  refine ⟨_, rfl, _, rfl, c, 4, rfl, by decide, Z, p, A, B, C, g, _, rfl, S, h1, by omega, fun H1 j one hj kp1 S1 => ?_⟩
  have I1 := I.pick hj
  have lo1 : (g.opn.eraseIdx j).length = g.opn.length - 1 := len_erase hj
  have eL : (((g.opn.eraseIdx j).map V.str).length : Int) = ((g.opn.eraseIdx j).length : Int) := by rw [List.length_map]
  have s0 : 0 ≤ sizeLine := by decide
  have fin : ∀ (H2 : Hp) (g' : GS) (x y : Nat), x ≤ 2 → y ≤ 2 → Kp [A, B, C] H1 H2 → StAt H2 Z p A B C g' → GInv g' backs [] (L + x) (P' + y) → g'.one = g.one → g'.other = g.other → 1 ≤ g'.opn.length → g'.opn.length ≤ 4 → Q .non H2 := fun H2 g' x y hx hy kp S2 I2 e1 e2 e3 e4 =>
    q H2 g' ((kp3 kp1).trans kp) S2 (I2.mono (by omega) (by omega)) e1 e2 e3 e4
  -- a part of one lane in
  have onePart : ∀ (kd : Kd) (nums : List Int) (many : Int) (n i : Addr) (E : XK) (xn xi : List V), H1 n = none → (upd H1 n (.lst xn)) i = none → xn = nums.map V.int → xi = [V.str one] → (nums.length, 1, many.toNat) = kd.wants → (∀ v ∈ nums, isVal v) → 1 ≤ many → many.toNat ≤ 2 → (g.opn.eraseIdx j).length + many.toNat ≤ 4 →
      spPart [.ref p, .int c, .str kd.word, .ref n, .ref i, .int many] (upd (upd H1 n (.lst xn)) i (.lst xi)) (fun _ H' => Q .non H') E := by
    intro kd nums many n i E xn xi hn hi en ei hw hv hm hm2 hle
    refine part_inv (ins := [one]) (nums := nums) S1 I1 hn hi en ei hm hw hv (by omega) (by omega) (by show (g.opn.eraseIdx j).length ≤ 40; omega) (List.Perm.refl _) fun H2 g' kp S2 I2 e1 e2 e3 => ?_
    have e3' : g'.opn.length = (g.opn.eraseIdx j).length + many.toNat := e3
    exact fin H2 g' many.toNat 1 hm2 (by decide) kp S2 I2 e1 e2 (by omega) (by omega)
  refine ⟨fun b H' => H' = H1 ∧ (b = true → (g.opn.eraseIdx j).length < 3), ?_, ?_, ?_⟩
  · refine ⟨_, rfl, _, _, rfl, rfl, _, rfl, ?_⟩
    refine ite2 (fun _ => ?_) (fun _ => ⟨rfl, fun z => by cases z⟩)
    refine ⟨_, rfl, p, _, 2, _, rfl, rfl, SqL.of S1.st, at2, C, _, rfl, .inl (SqL.of S1.op), _, _, rfl, rfl, _, rfl, rfl, fun z => ?_⟩
    have z' : (((g.opn.eraseIdx j).map V.str).length : Int) < 3 := of_decide_eq_true z
    omega
  · rintro H' ⟨rfl, hlt⟩
    have hlt := hlt rfl
    refine ⟨_, rfl, _, rfl, s0, fun n hn => ⟨_, rfl, (by show 1 ≤ sizeLine; decide), fun i hi => ?_⟩⟩
    exact onePart .copy [] 2 n i E0 _ _ hn hi rfl rfl rfl (by simp) (by decide) (by decide) (by show (g.opn.eraseIdx j).length + 2 ≤ 4; omega)
  rintro H' ⟨rfl, -⟩
  refine ⟨_, rfl, rfl,
      _, rfl, ?_⟩
  refine ite2 (fun _
      => ?_) (fun _ => ?_)
  · -- a copy, a take
    refine ⟨_, rfl, _, rfl, s0, fun n hn => ⟨_, rfl, (by show 1 ≤ sizeLine; decide), fun i hi => ?_⟩⟩
    refine part_new (E := E0) (c := c) (kd := .copy) (ins := [one]) (nums := []) S1 I1 hn hi rfl rfl (many := 2) (by decide) rfl (by simp) (by omega) (by omega) (by show (g.opn.eraseIdx j).length ≤ 40; omega) fun H2 ns q1 n1 n2 n3 n4 n5 n6 kp S2 => ?_
    have n1' : ns.length = 2 := n1
    match ns, n1' with
    | [a, b], _ =>
      have I2 := I1.plain n2 n3 n6 (by rw [n4]) n5 (by simp)
      have I3 := I2.pop (os := g.opn.eraseIdx j ++ [a.name]) (x := b.name) (by show g.opn.eraseIdx j ++ [a.name, b.name] = _; rw [List.append_assoc]; rfl)
      refine ⟨_, rfl, _, rfl, s0, fun n' hn' => ?_⟩
      have S2' := S2.same (same_new (o := .lst []) hn')
      have eo : (g.opn.eraseIdx j ++ [a.name, b.name]).map V.str = ((g.opn.eraseIdx j ++ [a.name]).map V.str) ++ [V.str b.name] := by simp
      have hop : (upd H2 n' (.lst [])) C = some (.lst (((g.opn.eraseIdx j ++ [a.name]).map V.str) ++ [V.str b.name])) := by
        rw [← eo]; exact S2'.op
      refine ⟨_, rfl, p, _, 2, _, rfl, rfl, SqL.of S2'.st, at2, .inl ⟨rfl, _, SqL.of hop⟩, C, _, .str b.name, rfl, rfl, hop, by simp, (by show 1 ≤ sizeLine; decide), fun i' hi' => ?_⟩
      rw [List.dropLast_concat] at hi' ⊢
      have S3 := S2'.opn (g.opn.eraseIdx j ++ [a.name])
      have on' := S2.out hn'
      have nC : n' ≠ C := fun e => on' (by simp [e])
      have S4 := S3.same (same_new (o := .lst [V.str b.name]) hi')
      have hn4 : (upd (upd (upd H2 n' (.lst [])) C (.lst ((g.opn.eraseIdx j ++ [a.name]).map V.str))) i' (.lst [V.str b.name])) n' = some (.lst []) := same_new hi' _ _ (by rw [upd_ne nC, upd_same])
      refine take_at (E := E0) S4 I3 hn4 upd_same on' (S3.out hi') (by omega) (by omega) (by show (g.opn.eraseIdx j ++ [a.name]).length ≤ 40; rw [List.length_append]; simp; omega) fun H5 q2 m1 m2 m3 m4 kp5 S5 => ?_
      have I5 := I3.sink (o1 := a.name) m1 m4 m2 m3 (by show a.name ∈ g.opn.eraseIdx j ++ [a.name]; simp) ⟨q1, by show q1 ∈ g.parts ++ [q1]; simp, by unfold Pt.lanes; rw [n5]; simp, by unfold Pt.lanes; rw [n5]; simp⟩
      refine fin H5 _ 2 2 (by decide) (by decide) ?_ S5 I5 rfl rfl ?_ ?_
      · intro x o nx hx
        have nx' := nx
        simp only [List.mem_cons, List.not_mem_nil, or_false, not_or] at nx'
        refine kp5 x o nx ?_
        have e1 := kp x o nx hx
        rw [upd_ne (ne_of_none (o := o) (by rw [upd_ne nx'.2.2, upd_ne (ne_of_none e1 hn')]; exact e1) hi'), upd_ne nx'.2.2, upd_ne (ne_of_none e1 hn')]
        exact e1
      · show 1 ≤ (g.opn.eraseIdx j ++ [a.name]).length
        rw [List.length_append]; simp
      · show (g.opn.eraseIdx j ++ [a.name]).length ≤ 4
        rw [List.length_append]; simp; omega
  refine ⟨fun b H2 => H2 = H' ∧ (b = true → 1 ≤ (g.opn.eraseIdx j).length), ?_, ?_, ?_⟩
  · refine ⟨_, rfl, _, _, rfl, rfl, _, rfl, ?_⟩
    refine ite2 (fun _ => ?_) (fun _ => ⟨rfl, fun z => by cases z⟩)
    refine ⟨_, rfl, p, _, 2, _, rfl, rfl, SqL.of S1.st, at2, C, _, rfl, .inl (SqL.of S1.op), _, _, rfl, rfl, _, rfl, rfl, fun z => ?_⟩
    have z' : 0 < (((g.opn.eraseIdx j).map V.str).length : Int) := of_decide_eq_true z
    omega
  · rintro H2 ⟨rfl, hge⟩
    have hge := hge rfl
    refine ⟨_, rfl, _, rfl, _, rfl, _, rfl, Z, p, A, B, C, _, c, one, backs, L, P', rfl, S1, I1, hge, by show (g.opn.eraseIdx j).length ≤ 10; omega, by omega, by omega, fun H3 g' kp S3 I3 e1 e2 e3 e4 => ?_⟩
    have e4' : g'.opn.length ≤ (g.opn.eraseIdx j).length + 1 := e4
    exact fin H3 g' 2 1 (by decide) (by decide) kp S3 I3 e1 e2 e3 (by omega)
  rintro H2 ⟨rfl, -⟩
  refine ⟨_, rfl, _, _, rfl,
      rfl, _, rfl, ?_⟩
  refine ite2 (fun _
      => ?_) (fun _ => ?_)
  · -- turn
    refine ⟨_, rfl, _, rfl, _, rfl, c, 8, rfl, by decide, fun v hv => ⟨_, rfl, c, 9, rfl, by decide, fun u hu => ⟨by show 2 ≤ sizeLine; decide, fun n hn => ⟨_, rfl, (by show 1 ≤ sizeLine; decide), fun i hi => ?_⟩⟩⟩⟩
    exact onePart .turn [v, u] 1 n i E0 _ _ hn hi rfl rfl rfl (by intro x hx; simp only [List.mem_cons, List.not_mem_nil, or_false] at hx; rcases hx with rfl | rfl <;> assumption) (by decide) (by decide) (by show (g.opn.eraseIdx j).length + 1 ≤ 4; omega)
  refine ⟨_, rfl, rfl,
      _, rfl, ?_⟩
  refine ite2 (fun _
      => ?_) (fun _ => ?_)
  · -- heap
    refine ⟨_, rfl, _, rfl, _, rfl, c, 8, rfl, by decide, fun v hv => ⟨by show 1 ≤ sizeLine; decide, fun n hn => ⟨_, rfl, (by show 1 ≤ sizeLine; decide), fun i hi => ?_⟩⟩⟩
    exact onePart .heap [v] 1 n i E0 _ _ hn hi rfl rfl rfl (by intro x hx; simp only [List.mem_cons, List.not_mem_nil, or_false] at hx; rcases hx with rfl; assumption) (by decide) (by decide) (by show (g.opn.eraseIdx j).length + 1 ≤ 4; omega)
  refine ⟨_, rfl, c, 6, rfl, by decide, _, _, rfl, rfl, (by show (0 : Int) < 2; decide), rfl, _, rfl, ?_⟩
  refine ite2 (fun _
      => ?_) (fun _ => ?_)
  · -- loop
    refine ⟨_, rfl, _, rfl, _, rfl, Z, p, A, B, C, _, c, one, backs, L, P', rfl, S1, I1, by show (g.opn.eraseIdx j).length ≤ 10; omega, by omega, by omega, fun H3 g' kp S3 I3 e1 e2 e3 e4 => ?_⟩
    have e4' : g'.opn.length ≤ (g.opn.eraseIdx j).length + 1 := e4
    exact fin H3 g' 2 1 (by decide) (by decide) kp S3 I3 e1 e2 e3 (by omega)
  · -- pass
    refine ⟨_, rfl, _, rfl, s0, fun n hn => ⟨_, rfl, (by show 1 ≤ sizeLine; decide), fun i hi => ?_⟩⟩
    exact onePart .pass [] 1 n i E0 _ _ hn hi rfl rfl rfl (by simp) (by decide) (by decide) (by show (g.opn.eraseIdx j).length + 1 ≤ 4; omega)
end
end K21
namespace K21
open PySem PySem.Spec PyProof.Rows L2 TL
abbrev sClosed : Stmt := top 54
def spClosed : Sp := fun vs H Q _ => ∃ (Z : List Addr) (p A B C bk : Addr) (g : GS) (c : Int) (backs : List Str) (L P : Nat), vs = [.ref p, .int c, .ref bk] ∧ StAt H Z p A B C g ∧ GInv g backs [] L P ∧ H bk = some (.lst (backs.map V.str)) ∧ bk ∉ p :: A :: B :: C :: Z ∧
  1 ≤ g.opn.length ∧ g.opn.length ≤ 4 ∧ backs.length ≤ 2 ∧ L ≤ 15 ∧ P ≤ 10 ∧
  ∀ (H' : Hp) (g' : GS), Kp [A, B, C] H H' → StAt H' Z p A B C g' → (∀ n, NetOk g'.lanes (g'.parts.drop n ++ g'.parts.take n) g.one g.other) → Q .non H'
theorem seq0 {n : Nat} (h : 0 < n) : seqIndex? 0 n = some 0 := (ixN_seq (n := n) (i := 0) (j := 0) (by unfold ixN; rw [if_pos (by omega), if_pos (by omega)]; rfl)).1
section
variable {P : Program} {w : World} {K : PySem.W.Frag}
    {mg : Str → Option Value} {base : Heap}
abbrev nClosed : List Str := ["_law_state", "_law_cell_here", "_law_back", "_law_one", "_law_other", "_law_kind", "_law_lane_here", "_law_fresh"]
theorem scClosed : FnScope nClosed ["_law_state", "_law_cell_here", "_law_back"] (defScope sClosed) := ⟨rfl, rfl, rfl, by decide +kernel, rfl, by decide +kernel, by decide +kernel⟩
theorem ok_closed (G : GF K mg "_law_closed" sClosed) (M : Cal P w K mg base CX0 1 "_law_mix" ["_law_cell_here", "_law_k"] spMix) (MP : Cal P w K mg base CX0 4 "_law_part" psPart spPart)
    (ML : Cal P w K mg base CX0 3 "_law_lane" ["_law_state", "_law_cell_here", "_law_back"] spLane) (MW : Cal P w K mg base CX0 2 "_law_word" ["_law_cell_here", "_law_k"] spWord) (hlen : mg "len" = none) :
    Cal P w K mg base CX0 5 "_law_closed" ["_law_state", "_law_cell_here", "_law_back"] spClosed := by
  refine G.cal scClosed (fun _ _ _ _ _ _ us hl => match us, hl with | [_, _, _], _ => rfl) (fun vs H Q E h => by obtain ⟨_, _, _, _, _, _, _, _, _, _, _, rfl, _⟩ := h; rfl) (fun f cdv A0 outer s H vs Q E hr h => ?_)
  obtain ⟨Z, p, A, B, C, bk, g, c, backs, L, P', rfl, S, I, hbk, obk, h1, h2, hb, hL, hP, q⟩ := h
  have hr1 : Room 1 _ :=
      hr.mono (by decide)
  have hr2 : Room 2 _ :=
      hr.mono (by decide)
  have hr3 : Room 3 _ := hr.mono (by decide)
  refine ⟨_, (pss_cons (ps_while PassesOwn.never (pt_cmpR op_gt (pe_callB call_len_seq (by rfl) hlen PySem.boot_len (pa_cons (pe_ix ix_list (pv 0) pe_int (fun _ _ => rfl)) pa_nil)) pe_int (nomark _)) (pss_cons (ps_set (i := 3) scClosed.nd rfl (.inl rfl) (pe_bm PySem.F.plainAttrs_list PySem.F.slot_list_pop PySem.F.type_list_pop mt_popAt (pe_ix ix_list (pv 0) pe_int (fun _ _ => rfl)) (pa_cons pe_int pa_nil)))
    (pss_cons (ps_set (i := 4) scClosed.nd rfl (.inl rfl) (pe_bm PySem.F.plainAttrs_list PySem.F.slot_list_pop PySem.F.type_list_pop mt_popAt (pe_ix ix_list (pv 0) pe_int (fun _ _ => rfl)) (pa_cons pe_int pa_nil)))
    (pss_cons (ps_set (i := 5) scClosed.nd rfl (.inl rfl) (pe_ix ix_list (pe_lst (pa_cons pe_str (pa_cons pe_str (pa_cons pe_str pa_nil)))) (pe_op op_mod (pe_callG M (hr.mono (by decide)) (by rfl) pass0 (pa_cons (pv 1) (pa_cons (pe_callB call_len_seq (by rfl) hlen PySem.boot_len (pa_cons (pe_ix ix_list (pv 0) pe_int (fun _ _ => rfl)) pa_nil)) pa_nil))) pe_int) (fun _ _ => rfl)))
    (pss_one (ps_expr (pe_callG MP (hr.mono (by decide)) (by rfl) pass0 (pa_cons (pv 0) (pa_cons (pe_callG M (hr.mono (by decide)) (by rfl) pass0 (pa_cons (pv 1) (pa_cons (pe_op op_add pe_int (pe_callB call_len_seq (by rfl) hlen PySem.boot_len (pa_cons (pe_ix ix_list (pv 0) pe_int (fun _ _ => rfl)) pa_nil))) pa_nil))) (pa_cons (pv 5) (pa_cons (pe_lst pa_nil) (pa_cons (pe_lst (pa_cons (pv 3) (pa_cons (pv 4) pa_nil))) (pa_cons pe_int pa_nil)))))))))))))
    (pss_cons (ps_for PassesOwn.never rfl (pi_list (pv 2)) (pg_name (i := 6) scClosed.nd rfl (.inl rfl)) (pss_cons (ps_set (i := 3) scClosed.nd rfl (.inl rfl) (pe_bm0 PySem.F.plainAttrs_list PySem.F.slot_list_pop PySem.F.type_list_pop mt_pop (pe_ix ix_list (pv 0) pe_int (fun _ _ => rfl))))
    (pss_cons (ps_set (i := 7) scClosed.nd rfl (.inl rfl) (pe_callG ML (hr.mono (by decide)) (by rfl) pass0 (pa_cons (pv 0) (pa_cons (pe_callG M (hr.mono (by decide)) (by rfl) pass0 (pa_cons (pv 1) (pa_cons (pe_op op_add pe_int (pe_callB call_len_seq (by rfl) hlen PySem.boot_len (pa_cons (pe_ix ix_list (pv 0) pe_int (fun _ _ => rfl)) pa_nil))) pa_nil))) (pa_cons pe_bl pa_nil)))))
    (pss_cons (ps_expr (pe_bm PySem.F.plainAttrs_list PySem.F.slot_list_append PySem.F.type_list_append mt_append (pe_ix ix_list (pv 0) pe_int (fun _ _ => rfl)) (pa_cons (pe_tup (pa_cons pe_str (pa_cons (pe_callG MW (hr.mono (by decide)) (by rfl) pass0 (pa_cons (pe_ix ix_list (pv 0) pe_int (fun _ _ => rfl)) (pa_cons (pe_callB call_len_seq (by rfl) hlen PySem.boot_len (pa_cons (pe_ix ix_list (pv 0) pe_int (fun _ _ => rfl)) pa_nil)) pa_nil))) (pa_cons (pe_lst pa_nil) (pa_cons (pe_lst (pa_cons (pv 3) pa_nil)) (pa_cons (pe_lst (pa_cons (pv 6) (pa_cons (pv 7) pa_nil))) pa_nil)))))) pa_nil)))
    (pss_one (ps_expr (pe_bm PySem.F.plainAttrs_list PySem.F.slot_list_append PySem.F.type_list_append mt_append (pe_ix ix_list (pv 0) pe_int (fun _ _ => rfl)) (pa_cons (pv 7) pa_nil))))))))
    (pss_one (ps_expr (pe_callG MP (hr.mono (by decide)) (by rfl) pass0 (pa_cons (pv 0) (pa_cons (pv 1) (pa_cons pe_str (pa_cons (pe_lst pa_nil) (pa_cons (pe_lst (pa_cons (pe_bm0 PySem.F.plainAttrs_list PySem.F.slot_list_pop PySem.F.type_list_pop mt_pop (pe_ix ix_list (pv 0) pe_int (fun _ _ => rfl))) pa_nil)) (pa_cons pe_int pa_nil))))))))))), ?_⟩
  have s0 : 0 ≤ sizeLine := by decide
  -- while
  refine ⟨fun m σ H' => ∃ (g' : GS) (d : Nat) (v3 v4 v5 : Option V), m = g'.opn.length ∧ σ = [some (.ref p), some (.int c), some (.ref bk), v3, v4, v5, none, none] ∧ Kp [A, B, C] H H' ∧ StAt H' Z p A B C g' ∧ GInv g' backs [] (L + d) (P' + d) ∧ g'.opn.length + d = g.opn.length ∧ 1 ≤ g'.opn.length ∧ g'.one = g.one ∧ g'.other = g.other,
    ⟨_, g, 0, none, none, none, rfl, rfl, Kp.refl H, S, I, rfl, h1, rfl, rfl⟩, ?_⟩
  rintro m σ H1 ⟨g1, d, v3, v4, v5, rfl, rfl, kp1, S1, I1, hd, hge, e1, e2⟩
  refine ⟨_, rfl, p, _, 2, _, rfl, rfl, SqL.of S1.st, at2, C, _, rfl, .inl (SqL.of S1.op), _, _, rfl, rfl, _, rfl, ?_⟩
  have hlen1 : (g1.opn.map V.str).length = g1.opn.length := List.length_map ..
  refine ite2 (fun cc => ?_) (fun cc => ?_)
  · -- a turn
    have cc' : (1 : Int) < ((g1.opn.map V.str).length : Int) := of_decide_eq_true cc
    obtain ⟨x, y, r, ho⟩ : ∃ x y r, g1.opn = x :: y :: r := by
      have cl : 1 < g1.opn.length := by omega
      match hq : g1.opn with
      | [] => rw [hq] at cl; simp at cl
      | [a] => rw [hq] at cl; simp at cl
      | a :: b :: r => exact ⟨a, b, r, rfl⟩
    refine ⟨fun σ' H' => ∃ m', m' < g1.opn.length ∧ ∃ (g' : GS) (d : Nat) (v3 v4 v5 : Option V), m' = g'.opn.length ∧ σ' = [some (.ref p), some (.int c), some (.ref bk), v3, v4, v5, none, none] ∧ Kp [A, B, C] H H' ∧ StAt H' Z p A B C g' ∧ GInv g' backs [] (L + d) (P' + d) ∧ g'.opn.length + d = g.opn.length ∧ 1 ≤ g'.opn.length ∧ g'.one = g.one ∧ g'.other = g.other,
      fun _ _ h => h, ?_⟩
    have hop1 : H1 C = some (.lst ((x :: y :: r).map V.str)) := by rw [← ho]; exact S1.op
    have I2 := I1.pick (i := 0) (x := x) (by rw [ho]; rfl)
    have I3 := I2.pick (i := 0) (x := y) (by show (g1.opn.eraseIdx 0)[0]? = some y; rw [ho]; rfl)
    have S2 := S1.opn (y :: r)
    have S3 := S2.opn r
    refine ⟨_, rfl, p, _, 2, _, rfl, rfl, SqL.of S1.st, at2, .inl ⟨rfl, _, SqL.of hop1⟩, C, _, 0, 0, .str x, rfl, rfl, hop1, by decide, by decide, seq0 (by simp), rfl, ?_⟩
    refine ⟨_, rfl, p, _, 2, _, rfl, rfl, SqL.of S2.st, at2, .inl ⟨rfl, _, SqL.of S2.op⟩, C, _, 0, 0, .str y, rfl, rfl, S2.op, by decide, by decide, seq0 (by simp), rfl, ?_⟩
    have S3' : StAt (upd (upd H1 C (.lst ((y :: r).map V.str))) C (.lst (((y :: r).map V.str).eraseIdx 0))) Z p A B C { g1 with opn := (g1.opn.eraseIdx 0).eraseIdx 0 } := by
      rw [ho]; exact S3
    have kp3' : Kp [A, B, C] H1 (upd (upd H1 C (.lst ((y :: r).map V.str))) C (.lst (((y :: r).map V.str).eraseIdx 0))) := (Kp.upd (by simp)).trans (Kp.upd (by simp))
    refine ⟨by show 3 ≤ sizeLine; decide, fun l hl => ?_⟩
    have S4 := S3'.same (same_new (o := .lst [V.str "add", V.str "less", V.str "add"]) hl)
    have kp4 := kp3'.trans (Kp.of (same_new (o := .lst [V.str "add", V.str "less", V.str "add"]) hl))
    have hle : g1.opn.length ≤ 4 := by omega
    have hlr : r.length + 2 = g1.opn.length := by rw [ho]; rfl
    have lo4 : (((g1.opn.eraseIdx 0).eraseIdx 0).map V.str).length = r.length := by rw [ho]; simp
    obtain ⟨vsB, hB, lB⟩ := S4.lensP
    have lB' : vsB.length = g1.parts.length := lB
    have hp1 := I1.hp
    have main : ∀ (kd : Kd) (c' : Int) (n i : Addr), (0, 2, 1) = kd.wants → (upd (upd (upd H1 C (.lst ((y :: r).map V.str))) C (.lst (((y :: r).map V.str).eraseIdx 0))) l (.lst [V.str "add", V.str "less", V.str "add"])) n = none → (upd (upd (upd (upd H1 C (.lst ((y :: r).map V.str))) C (.lst (((y :: r).map V.str).eraseIdx 0))) l (.lst [V.str "add", V.str "less", V.str "add"])) n (.lst [])) i = none →
        spPart [.ref p, .int c', .str kd.word, .ref n, .ref i, .int 1] (upd (upd (upd (upd (upd H1 C (.lst ((y :: r).map V.str))) C (.lst (((y :: r).map V.str).eraseIdx 0))) l (.lst [V.str "add", V.str "less", V.str "add"])) n (.lst [])) i (.lst [V.str x, V.str y])) (fun _ H' => ∃ m', m' < g1.opn.length ∧ ∃ (g' : GS) (d : Nat) (v3' v4' v5' : Option V), m' = g'.opn.length ∧ ([some (.ref p), some (.int c), some (.ref bk), some (.str x), some (.str y), some (.str kd.word), none, none] : L2.St) = [some (.ref p), some (.int c), some (.ref bk), v3', v4', v5', none, none] ∧ Kp [A, B, C] H H' ∧ StAt H' Z p A B C g' ∧ GInv g' backs [] (L + d) (P' + d) ∧ g'.opn.length + d = g.opn.length ∧ 1 ≤ g'.opn.length ∧ g'.one = g.one ∧ g'.other = g.other) E0 := by
      intro kd c' n i hw hn hi
      refine part_inv (many := 1) (ins := [x, y]) (nums := []) S4 I3 hn hi rfl rfl (by decide) hw (by simp) (by omega) (by omega) ?_ (List.Perm.swap _ _ _) fun H5 g' kp S5 I5 f1 f2 f3 => ?_
      · show ((g1.opn.eraseIdx 0).eraseIdx 0).length ≤ 40
        rw [ho]; simp; omega
      · have f3' : g'.opn.length = ((g1.opn.eraseIdx 0).eraseIdx 0).length + 1 := f3
        rw [ho] at f3'
        have f3'' : g'.opn.length = r.length + 1 := f3'
        refine ⟨_, ?_, g', d + 1, _, _, _, rfl, rfl, kp1.trans (kp4.trans kp), S5, I5.mono (by show L + d + 1 ≤ _; omega) (by omega), by omega, by omega, f1.trans e1, f2.trans e2⟩
        omega
    have hm3 := mod_b (mixF c (r.length : Int)) (m := 3) (by decide)
    obtain ⟨kd, hk1, hk2⟩ : ∃ kd : Kd, atI [V.str "add", V.str "less", V.str "add"] (mixF c (r.length : Int) % 3) = some (.str kd.word) ∧ (0, 2, 1) = kd.wants := by
      have z : mixF c (r.length : Int) % 3 = ((0 : Nat) : Int) ∨ mixF c (r.length : Int) % 3 = ((1 : Nat) : Int) ∨ mixF c (r.length : Int) % 3 = ((2 : Nat) : Int) := by omega
      rcases z with z | z | z
      · exact ⟨.add, at_of z rfl, rfl⟩
      · exact ⟨.less, at_of z rfl, rfl⟩
      · exact ⟨.add, at_of z rfl, rfl⟩
    refine ⟨_, rfl, _, rfl, p, _, 2, _, rfl, rfl, SqL.of S4.st, at2, C, _, rfl, .inl (SqL.of S4.op), c, (r.length : Int), ?_, by omega, ?_⟩
    · rw [lo4]; rfl
    refine ⟨_, _, rfl, rfl, (by show (0 : Int) < 3; decide), l, _, _, .str kd.word, rfl, rfl, SqL.of upd_same, hk1, ?_⟩
    refine ⟨_, rfl, _, rfl, _, rfl, p, _, 1, _, rfl, rfl, SqL.of S4.st, at1, B, vsB, rfl, .inl (SqL.of hB), _, _, rfl, rfl, c, 30 + (vsB.length : Int), rfl, by omega, ?_⟩
    refine ⟨_, rfl, s0, fun n hn => ⟨_, rfl, _, rfl, (by show 2 ≤ sizeLine; decide), fun i hi => ?_⟩⟩
    exact main kd _ n i hk2 hn hi
  -- behind the while: one open lane
  have hone : g1.opn.length = 1 := by
    have z : ¬ (1 : Int) < ((g1.opn.map V.str).length : Int) := fun z => cc (decide_eq_true z)
    omega
  have hbk1 : H1 bk = some (.lst (backs.map V.str)) := kp1 _ _ (fun z => obk (by simp only [List.mem_cons, List.not_mem_nil, or_false] at z ⊢; rcases z with z | z | z; exact .inr (.inl z); exact .inr (.inr (.inl z)); exact .inr (.inr (.inr (.inl z))))) hbk
  refine ⟨_, rfl, bk, rfl, ⟨_, SqL.of hbk1⟩, for_list (K := K) (a := bk) (xs := backs.map V.str) (fun i σ H' => ∃ (g' : GS) (v3 v4 v5 v6 v7 : Option V), σ = [some (.ref p), some (.int c), some (.ref bk), v3, v4, v5, v6, v7] ∧ Kp [A, B, C] H1 H' ∧ StAt H' Z p A B C g' ∧ GInv g' (backs.drop i) [] (L + 3 + i) (P' + 3 + i) ∧ g'.opn.length = 1 ∧ g'.one = g.one ∧ g'.other = g.other)
    ⟨g1, v3, v4, v5, none, none, rfl, Kp.refl _, S1, I1.mono (by omega) (by omega), hone, e1, e2⟩ ?_ ?_ ?_⟩
  · rintro i σ H' hi ⟨g', _, _, _, _, _, _, kp, _⟩
    exact SqL.of (kp _ _ (fun z => obk (by simp only [List.mem_cons, List.not_mem_nil, or_false] at z ⊢; rcases z with z | z | z; exact .inr (.inl z); exact .inr (.inr (.inl z)); exact .inr (.inr (.inr (.inl z))))) hbk1)
  · rintro i vb σ H2 hi ⟨g2, w3, w4, w5, w6, w7, rfl, kp2, S2, I2, ho2, f1, f2⟩
    have hil : i < backs.length := by
      have z := (List.getElem?_eq_some_iff.mp hi).1
      rw [List.length_map] at z; exact z
    rw [List.getElem?_map, List.getElem?_eq_getElem hil] at hi
    obtain rfl : V.str backs[i] = vb := by simpa using hi
    obtain ⟨x, hx⟩ : ∃ x, g2.opn = [x] := List.length_eq_one_iff.mp ho2
    have hop : H2 C = some (.lst [V.str x]) := by
      have z := S2.op
      rw [hx] at z; exact z
    have I3 := I2.pop (os := []) (x := x) hx
    rw [List.drop_eq_getElem_cons hil] at I3
    have S3 := S2.opn []
    have hl2 := I2.hl
    have hp2 := I2.hp
    obtain ⟨vsB, hB, lB⟩ := S3.lensP
    have lB' : vsB.length = g2.parts.length := lB
    refine ⟨_, rfl, p, _, 2, _, rfl, rfl, SqL.of S2.st, at2, .inl ⟨rfl, _, SqL.of hop⟩, C, _, .str x, rfl, rfl, hop, rfl, ?_⟩
    refine ⟨_, rfl, _, rfl, _, rfl, p, _, 1, _, rfl, rfl, SqL.of S3.st, at1, B, vsB, rfl, .inl (SqL.of hB), _, _, rfl, rfl, c, 70 + (vsB.length : Int), rfl, by omega, Z, p, A, B, C, _, _, false, rfl, S3, by show g2.lanes.length ≤ 60; omega, fun H4 fresh fn fo kp4 S4 => ?_⟩
    obtain ⟨vsC, hC, lC⟩ := S4.lensP
    have lC' : vsC.length = g2.parts.length := lC
    refine ⟨_, rfl, p, _, 1, _, rfl, rfl, SqL.of S4.st, at1, .inl ⟨rfl, _, SqL.of hC⟩, _, rfl, p, _, 4, _, rfl, rfl, SqL.of S4.st, at4, _, rfl, p, _, 1, _, rfl, rfl, SqL.of S4.st, at1, B, vsC, rfl, .inl (SqL.of hC), g2.other, (vsC.length : Int), rfl, by omega, fun H5 s5 => ?_⟩
    rw [lC']
    have S5 := S4.same s5
    refine ⟨s0, fun n hn => ⟨_, rfl, (by show 1 ≤ sizeLine; decide), fun ia hia => ⟨_, rfl, _, rfl, (by show 2 ≤ sizeLine; decide), fun o ho => ⟨by show 5 ≤ sizeLine; decide, fun t ht => ?_⟩⟩⟩⟩
    have sn := same_new (o := .lst []) hn
    have si := same_new (o := .lst [V.str x]) hia
    have so := same_new (o := .lst [V.str backs[i], V.str fresh.name]) ho
    have st := same_new (o := .tup [V.str "copy", V.str (wordF g2.other (g2.parts.length : Int)), .ref n, .ref ia, .ref o]) ht
    have sall := s5.trans (sn.trans (si.trans (so.trans st)))
    have Sn := S5.same sn
    have Si := Sn.same si
    have So := Si.same so
    have St := So.same st
    refine ⟨B, vsC, .ref t, rfl, rfl, sall _ _ hC, small1000 (by omega), ?_⟩
    have Sp := St.part (q := ⟨.copy, wordF g2.other (g2.parts.length : Int), [], [x], [backs[i], fresh.name]⟩) (v := .ref t) (sall _ _ hC)
      ⟨t, n, ia, o, rfl, But.of (So.out ht) upd_same, But.of (S5.out hn) (st _ _ (so _ _ (si _ _ upd_same))), But.of (Sn.out hia) (st _ _ (so _ _ upd_same)), But.of (Si.out ho) (st _ _ upd_same)⟩
    refine ⟨_, rfl, p, _, 2, _, rfl, rfl, SqL.of Sp.st, at2, .inl ⟨rfl, _, SqL.of Sp.op⟩, _, rfl, C, _, _, rfl, rfl, Sp.op, (by show 0 < sizeLine; decide), ?_⟩
    have Sq := Sp.opn ([fresh.name])
    refine ⟨{ g2 with lanes := g2.lanes ++ [fresh], parts := g2.parts ++ [⟨.copy, wordF g2.other (g2.parts.length : Int), [], [x], [backs[i], fresh.name]⟩], opn := [] ++ [fresh.name] }, _, _, _, _, _, rfl, kp2.trans ?_, Sq, ?_, rfl, f1, f2⟩
    · intro b u nb hb'
      have nb' := nb
      simp only [List.mem_cons, List.not_mem_nil, or_false, not_or] at nb'
      rw [upd_ne nb'.2.2, upd_ne nb'.2.1]
      exact sall _ _ (kp4 _ _ (by simp; exact nb'.1) (by rw [upd_ne nb'.2.2]; exact hb'))
    · have fr : Fresh g2.one g2.lanes.length [fresh] := (Fresh.nil (one := g2.one) (n := g2.lanes.length)).snoc (l := fresh) (by rw [fn]; rfl) fo
      exact (I3.back (q := ⟨.copy, wordF g2.other (g2.parts.length : Int), [], [x], [backs[i], fresh.name]⟩) fr rfl ⟨rfl, by simp⟩ rfl rfl).mono (by omega) (by omega)
  · rintro σ H2 ⟨g2, w3, w4, w5, w6, w7, rfl, kp2, S2, I2, ho2, f1, f2⟩
    rw [List.length_map] at I2
    rw [List.drop_length] at I2
    obtain ⟨x, hx⟩ : ∃ x, g2.opn = [x] := List.length_eq_one_iff.mp ho2
    have hop : H2 C = some (.lst [V.str x]) := by
      have z := S2.op
      rw [hx] at z; exact z
    have I3 := I2.pop (os := []) (x := x) hx
    refine ⟨_, rfl, _, rfl, s0, fun n hn => ?_⟩
    have S2' := S2.same (same_new (o := .lst []) hn)
    have on := S2.out hn
    have nC : n ≠ C := fun e => on (by simp [e])
    have hop' : (upd H2 n (.lst [])) C = some (.lst [V.str x]) := same_new hn _ _ hop
    refine ⟨_, rfl, p, _, 2, _, rfl, rfl, SqL.of S2'.st, at2, .inl ⟨rfl, _, SqL.of hop'⟩, C, _, .str x, rfl, rfl, hop', rfl, (by show 1 ≤ sizeLine; decide), fun i hi => ?_⟩
    have S3 := S2'.opn []
    have S4 := S3.same (same_new (o := .lst [V.str x]) hi)
    have hn4 : (upd (upd (upd H2 n (.lst [])) C (.lst ([V.str x].dropLast))) i (.lst [V.str x])) n = some (.lst []) := same_new hi _ _ (by rw [upd_ne nC, upd_same])
    refine take_at (E := E0) S4 I3 hn4 upd_same on (S3.out hi) (by omega) (by omega) (by show 0 ≤ 40; decide) fun H5 q2 m1 m2 m3 m4 kp5 S5 => ?_
    refine q H5 _ ?_ S5 fun k => ?_
    · refine kp1.trans (kp2.trans fun b u nb hb' => ?_)
      have nb' := nb
      simp only [List.mem_cons, List.not_mem_nil, or_false, not_or] at nb'
      refine kp5 b u nb ?_
      rw [upd_ne (ne_of_none (o := u) (by rw [upd_ne nb'.2.2, upd_ne (ne_of_none hb' hn)]; exact hb') hi), upd_ne nb'.2.2, upd_ne (ne_of_none hb' hn)]
      exact hb'
    · have z := I3.fin (q := q2) rfl m1 m4 m2 m3 (by omega) (by omega) k
      rw [← f1, ← f2]
      exact z
end
end K21
namespace K21
open PySem PySem.Spec PyProof.Rows L2 TL
abbrev sNet : Stmt := top 55
def LanesAt (H : Hp) (a : Addr) (ls : List Ln) : Prop := ∃ vs, H a = some (.lst vs) ∧ AllAt (LnAt H) vs ls
def PartsAt (H : Hp) (a : Addr) (ps : List Pt) : Prop := ∃ vs, H a = some (.lst vs) ∧ AllAt (PtAt H) vs ps
theorem LanesAt.same {H H' : Hp} {a : Addr} {ls : List Ln} (h : LanesAt H a ls) (s : Same H H') : LanesAt H' a ls := by
  obtain ⟨vs, h1, h2⟩ := h
  exact ⟨vs, s _ _ h1, h2.imp fun v l r => r.same s⟩
theorem PartsAt.same {H H' : Hp} {a : Addr} {ps : List Pt} (h : PartsAt H a ps) (s : Same H H') : PartsAt H' a ps := by
  obtain ⟨vs, h1, h2⟩ := h
  exact ⟨vs, s _ _ h1, h2.imp fun v l r => r.same s⟩
def spNet (K : PySem.W.Frag) : Sp := fun vs H Q _ => ∃ (a : Addr) (ns : List Int) (steps : Int), vs = [.ref a, .int 1, .int steps, .bl true] ∧ SqL K H a (ns.map V.int) ∧ (0 ≤ steps ∧ steps ≤ 4) ∧
  ∀ (H' : Hp) (t A B : Addr) (lanes : List Ln) (parts : List Pt), Same H H' → LanesAt H' A lanes → PartsAt H' B parts → NetOk lanes parts (cellF ns 1) (cellF ns 2) → H' t = some (.tup [.ref A, .ref B]) → Q (.ref t) H'
theorem cut_from {vs : List V} {i : Int} (h0 : 0 ≤ i) (h1 : i ≤ vs.length) : cutV vs (some i) none = vs.drop i.toNat := by
  obtain ⟨n, rfl⟩ :=
      Int.eq_ofNat_of_zero_le h0
  unfold cutV
  rw [HT.sIx_none, HT.sIx_nat, Nat.min_eq_left (by omega), Int.toNat_natCast]
  exact List.take_of_length_le
      (by rw [List.length_drop]; omega)
theorem cut_to {vs : List V} {i : Int} (h0 : 0 ≤ i) (h1 : i ≤ vs.length) : cutV vs none (some i) = vs.take i.toNat := by
  obtain ⟨n, rfl⟩ :=
      Int.eq_ofNat_of_zero_le h0
  unfold cutV
  rw [HT.sIx_none, HT.sIx_nat, Nat.min_eq_left (by omega), Int.toNat_natCast]
  simp
theorem same_kp {H H1 H2 : Hp} {S : List Addr} (s : Same H H1) (k : Kp S H1 H2) (n : ∀ x ∈ S, H x = none) : Same H H2 := fun b o e => k b o (fun q => by rw [n b q] at e; cases e) (s b o e)
section
variable {P : Program} {w : World} {K : PySem.W.Frag}
    {mg : Str → Option Value} {base : Heap}
abbrev nNet : List Str := ["_law_script", "_law_start", "_law_steps", "_law_odd", "_law_one", "_law_other", "_law_state", "_law_k", "_law_back", "_law_at"]
theorem scNet : FnScope nNet ["_law_script", "_law_start", "_law_steps", "_law_odd"] (defScope sNet) := ⟨rfl, rfl, rfl, by decide +kernel, rfl, by decide +kernel, by decide +kernel⟩
theorem ok_net (G : GF K mg "_law_net" sNet) (MC : Cal P w K mg base CX0 1 "_law_cell" ["_law_script", "_law_k"] (spCell K)) (M : Cal P w K mg base CX0 1 "_law_mix" ["_law_cell_here", "_law_k"] spMix) (MP : Cal P w K mg base CX0 4 "_law_part" psPart spPart)
    (ML : Cal P w K mg base CX0 3 "_law_lane" ["_law_state", "_law_cell_here", "_law_back"] spLane) (MS : Cal P w K mg base CX0 6 "_law_step" ["_law_state", "_law_cell_here", "_law_odd"] spStep)
    (MD : Cal P w K mg base CX0 5 "_law_closed" ["_law_state", "_law_cell_here", "_law_back"] spClosed) (hrange : mg "range" = none) (hlen : mg "len" = none) :
    Cal P w K mg base CX0 7 "_law_net" ["_law_script", "_law_start", "_law_steps", "_law_odd"] (spNet K) := by
  refine G.cal scNet (fun _ _ _ _ _ _ us hl => match us, hl with | [_, _, _, _], _ => rfl) (fun vs H Q E h => by obtain ⟨_, _, _, rfl, _⟩ := h; rfl) (fun f cdv A0 outer s H vs Q E hr h => ?_)
  obtain ⟨a, ns, steps, rfl, hS, hst, q⟩ := h
  refine ⟨_, (pss_cons (ps_set (i := 4) scNet.nd rfl (.inl rfl) (pe_callG MC (hr.mono (by decide)) (by rfl) pass0 (pa_cons (pv 0) (pa_cons (pv 1) pa_nil))))
    (pss_cons (ps_set (i := 5) scNet.nd rfl (.inr rfl) (pe_callG MC (hr.mono (by decide)) (by rfl) pass0 (pa_cons (pv 0) (pa_cons (pe_op op_add (pv 1) pe_int) pa_nil))))
    (pss_cons (ps_set (i := 6) scNet.nd rfl (.inr rfl) (pe_lst (pa_cons (pe_lst pa_nil) (pa_cons (pe_lst pa_nil) (pa_cons (pe_lst pa_nil) (pa_cons (pv 4) (pa_cons (pv 5) pa_nil)))))))
    (pss_cons (ps_for PassesOwn.never rfl (pi_range1 (by rfl) hrange (pa_cons (pe_op op_add pe_int (pe_op op_mod (pe_callG M (hr.mono (by decide)) (by rfl) pass0 (pa_cons (pv 4) (pa_cons pe_int pa_nil))) pe_int)) pa_nil)) (pg_name (i := 7) scNet.nd rfl (.inl rfl)) (pss_one (ps_expr (pe_callG MP (hr.mono (by decide)) (by rfl) pass0 (pa_cons (pv 6) (pa_cons (pe_callG M (hr.mono (by decide)) (by rfl) pass0 (pa_cons (pv 5) (pa_cons (pv 7) pa_nil))) (pa_cons pe_str (pa_cons (pe_lst pa_nil) (pa_cons (pe_lst pa_nil) (pa_cons pe_int pa_nil))))))))))
    (pss_cons (ps_setLc (i := 8) (own := [("_law_k", 7)]) (g := (gName 7)) (tt := tYes) rfl scNet.nd rfl rfl (sw_true rfl rfl rfl (by decide +kernel)) (pi_range1 (by rfl) hrange (pa_cons (pe_op op_mod (pe_callG M (hr.mono (by decide)) (by rfl) pass0 (pa_cons (pv 4) (pa_cons pe_int pa_nil))) pe_int) pa_nil)) (blkOk_by (own := [("_law_k", 7)]) (N := nNet) (sc := defScope sNet) (by decide +kernel)) (fun _ _ _ _ _ => (pg_name (i := 7) scNet.nd rfl (.inl rfl))) (fun _ _ _ _ _ => pts_nil) (fun _ _ _ _ _ => (pe_callG ML (hr.mono (by decide)) (by rfl) pass0 (pa_cons (pv 6) (pa_cons (pe_callG M (hr.mono (by decide)) (by rfl) pass0 (pa_cons (pv 5) (pa_cons (pe_op op_add pe_int (pv 7)) pa_nil))) (pa_cons pe_bl pa_nil))))))
    (pss_cons (ps_expr (pe_bm PySem.F.plainAttrs_list PySem.F.slot_list_extend PySem.F.type_list_extend mt_extend (pe_ix ix_list (pv 6) pe_int (fun _ _ => rfl)) (pa_cons (pv 8) pa_nil)))
    (pss_cons (ps_for PassesOwn.never rfl (pi_range1 (by rfl) hrange (pa_cons (pv 2) pa_nil)) (pg_name (i := 7) scNet.nd rfl (.inl rfl)) (pss_one (ps_expr (pe_callG MS (hr.mono (by decide)) (by rfl) pass0 (pa_cons (pv 6) (pa_cons (pe_callG MC (hr.mono (by decide)) (by rfl) pass0 (pa_cons (pv 0) (pa_cons (pe_op op_add (pe_op op_add (pv 1) pe_int) (pv 7)) pa_nil))) (pa_cons (pv 3) pa_nil)))))))
    (pss_cons (ps_expr (pe_callG MD (hr.mono (by decide)) (by rfl) pass0 (pa_cons (pv 6) (pa_cons (pv 5) (pa_cons (pv 8) pa_nil)))))
    (pss_cons (ps_set (i := 9) scNet.nd rfl (.inl rfl) (pe_op op_mod (pe_callG M (hr.mono (by decide)) (by rfl) pass0 (pa_cons (pv 4) (pa_cons pe_int pa_nil))) (pe_callB call_len_seq (by rfl) hlen PySem.boot_len (pa_cons (pe_ix ix_list (pv 6) pe_int (fun _ _ => rfl)) pa_nil))))
    (pss_one (ps_ret (pe_tup (pa_cons (pe_ix ix_list (pv 6) pe_int (fun _ _ => rfl)) (pa_cons (pe_op op_cat (pe_slice sl_list (pe_ix ix_list (pv 6) pe_int (fun _ _ => rfl)) (po_some (pv 9)) po_none) (pe_slice sl_list (pe_ix ix_list (pv 6) pe_int (fun _ _ => rfl)) po_none (po_some (pv 9)))) pa_nil)))))))))))))), ?_⟩
  have s0 : 0 ≤ sizeLine := by decide
  refine ⟨_, rfl, _, rfl, a, ns, 1, rfl, hS, by decide, ?_⟩
  refine ⟨_, rfl, _, rfl, _, _, rfl, rfl, a, ns, 1 + 1, rfl, hS, by decide, ?_⟩
  refine ⟨s0, fun A hA => ⟨s0, fun B hB => ⟨s0, fun C hC => ⟨_, rfl, _, rfl, by show 5 ≤ sizeLine; decide, fun p hp => ?_⟩⟩⟩⟩
  have BA : B ≠ A := fun e => by rw [e, upd_same] at hB; cases hB
  have CB : C ≠ B := fun e => by rw [e, upd_same] at hC; cases hC
  have CA : C ≠ A := fun e => by rw [e, upd_ne BA.symm, upd_same] at hC; cases hC
  have pC : p ≠ C := fun e => by rw [e, upd_same] at hp; cases hp
  have pB : p ≠ B := fun e => by rw [e, upd_ne CB.symm, upd_same] at hp; cases hp
  have pA : p ≠ A := fun e => by rw [e, upd_ne CA.symm, upd_ne BA.symm, upd_same] at hp; cases hp
  have hB' : H B = none := by rw [upd_ne BA] at hB; exact hB
  have hC' : H C = none := by rw [upd_ne CB, upd_ne CA] at hC; exact hC
  have fr : ∀ x ∈ [A, B, C], H x = none := by
    intro x hx
    simp only [List.mem_cons,
        List.not_mem_nil, or_false] at hx
    rcases hx with rfl | rfl | rfl <;> assumption
  have sm0 : Same H (upd (upd (upd (upd H A (.lst [])) B (.lst [])) C (.lst [])) p (.lst [.ref A, .ref B, .ref C, .int (cellF ns 1), .int (cellF ns 2)])) := (same_new hA).trans ((same_new hB).trans ((same_new hC).trans (same_new hp)))
  have S0 : StAt (upd (upd (upd (upd H A (.lst [])) B (.lst [])) C (.lst [])) p (.lst [.ref A, .ref B, .ref C, .int (cellF ns 1), .int (cellF ns 2)])) [] p A B C ⟨[], [], [], cellF ns 1, cellF ns 2⟩ := by
    refine ⟨upd_same, ⟨[], ?_, AllAt.nil⟩, ⟨[], ?_, AllAt.nil⟩, ?_, ⟨BA.symm, CA.symm, CB.symm, pA, pB, pC⟩, fun x hx => by simp at hx⟩
    · rw [upd_ne pA.symm, upd_ne CA.symm, upd_ne BA.symm, upd_same]
    · rw [upd_ne pB.symm, upd_ne CB.symm, upd_same]
    · rw [upd_ne pC.symm, upd_same]; rfl
  -- the give-doors
  have b2 := mod_b (mixF (cellF ns 1) 5) (m := 2) (by decide)
  refine ⟨_, rfl, cellF ns 1, 5, rfl, by decide, _, _, rfl, rfl, (by show (0 : Int) < 2; decide), _, _, rfl, rfl, _, rfl, by omega, by omega, ?_⟩
  refine for_range (lo := 0) (n := (1 + mixF (cellF ns 1) 5 % 2).toNat) (fun i σ H' => ∃ (g : GS) (v : Option V), σ = [some (.ref a), some (.int 1), some (.int steps), some (.bl true), some (.int (cellF ns 1)), some (.int (cellF ns 2)), some (.ref p), v, none, none] ∧ Same H H' ∧ StAt H' [] p A B C g ∧ GInv g [] [] i i ∧ g.opn.length = i ∧ g.one = cellF ns 1 ∧ g.other = cellF ns 2)
    ⟨_, none, rfl, sm0, S0, GInv.empty _ _, rfl, rfl, rfl⟩ ?_ ?_
  · rintro i σ H' hi ⟨g, v, rfl, sm, S, I, ho, f1, f2⟩
    refine ⟨_, rfl, _, rfl, _, rfl, cellF ns 2, 0 + (i : Int), rfl, by omega, s0, fun n hn => ⟨s0, fun ia hia => ?_⟩⟩
    refine part_inv (E := E0) (kd := .give) (many := 1) (ins := []) (nums := []) S I hn hia rfl rfl (by decide) rfl (by simp) (by omega) (by omega) (by omega) (List.Perm.refl _) fun H2 g' kp S2 I2 e1 e2 e3 => ?_
    exact ⟨g', _, rfl, same_kp sm kp fr, S2, I2, by rw [e3, ho]; rfl, e1.trans f1, e2.trans f2⟩
  rintro σ H1 ⟨g1, v, rfl, sm1, S1, I1, ho1, f1, f2⟩
  -- the lanes that lead back
  have b3 := mod_b (mixF (cellF ns 1) 6) (m := 3) (by decide)
  have hl1 := I1.hl
  refine ⟨_, rfl, cellF ns 1, 6, rfl, by decide, _, _, rfl, rfl, (by show (0 : Int) < 3; decide), _, rfl, by omega, by omega, fun D hD => ?_⟩
  have oD := S1.out hD
  have oD3 : D ∉ [A, B, C] := fun z => oD (by simp only [List.mem_cons, List.not_mem_nil, or_false] at z ⊢; rcases z with z | z | z; exact .inr (.inl z); exact .inr (.inr (.inl z)); exact .inr (.inr (.inr z)))
  refine lc_range (lo := 0) (n := (mixF (cellF ns 1) 6 % 3).toNat) (fun j H' => ∃ ls : List Ln, ls.length = j ∧ Fresh g1.one g1.lanes.length ls ∧ Same H H' ∧ StAt H' [D] p A B C { g1 with lanes := g1.lanes ++ ls } ∧ H' D = some (.lst ((nms ls).map V.str))) ⟨[], rfl, Fresh.nil, sm1.trans (same_new hD), ?_, upd_same⟩ ?_ ?_
  · have z := S1.more hD (.lst [])
    rw [List.append_nil]
    exact z
  · rintro j H' hj ⟨ls, hl, hf, sm, S, hd⟩
    refine ⟨rfl, ?_⟩
    refine ⟨_, rfl, _, rfl, _, rfl, _, _, rfl, rfl, cellF ns 2, 10 + (0 + (j : Int)), rfl, by omega, [D], p, A, B, C, _, _, true, rfl, S, ?_, fun H2 l e ok kp2 S2 => ?_⟩
    · show (g1.lanes ++ ls).length ≤ 60
      rw [List.length_append]; omega
    have hD2 : H2 D = some (.lst ((nms ls).map V.str)) := kp2 _ _ (fun z => oD3 (by simp only [List.mem_cons, List.not_mem_nil, or_false] at z ⊢; exact .inl z)) hd
    refine ⟨_, hD2, small1000 (by rw [List.length_map, List.length_map]; omega), ls ++ [l], by rw [List.length_append, hl]; rfl, ?_, ?_, ?_, ?_⟩
    · refine hf.snoc ?_ ok
      rw [e]
      show wordF g1.one ((g1.lanes ++ ls).length : Int) = _
      rw [List.length_append]
    · exact upd_same_heap (sm1.free hD) (same_kp sm (kp3A (B := B) (C := C) kp2) fr)
    · have z := S2.updX (x := D) (by simp) (.lst ((nms ls).map V.str ++ [V.str l.name]))
      rw [← List.append_assoc]
      exact z
    · rw [upd_same]; simp only [nms, List.map_append, List.map_cons, List.map_nil]
  rintro H2 ⟨ls, hl, hf, sm2, S2', hd⟩
  have S2 := S2'.less (Y := []) (fun x hx => by simp at hx)
  have I2 := I1.backs hf
  refine ⟨_, rfl, p, _, 2, _, rfl, rfl, SqL.of S2.st, at2, .inl ⟨rfl, _, SqL.of S2.op⟩, _, rfl, C, D, _, _, rfl, rfl, S2.op, hd, line_small (by show (g1.opn.map V.str).length + ((nms ls).map V.str).length ≤ 1000000; simp only [List.length_map]; omega), ?_⟩
  have S3 := S2.opn (g1.opn ++ nms ls)
  rw [List.map_append] at S3
  have hDC : D ≠ C := fun e => oD3 (by simp [e])
  have lsl : ls.length ≤ 2 := by omega
  -- the steps
  refine ⟨_, rfl, _, rfl, by omega, by omega, ?_⟩
  refine for_range (lo := 0) (n := steps.toNat) (fun i σ H' => ∃ (g : GS) (v : Option V), σ = [some (.ref a), some (.int 1), some (.int steps), some (.bl true), some (.int (cellF ns 1)), some (.int (cellF ns 2)), some (.ref p), v, some (.ref D), none] ∧ Same H H' ∧ H' D = some (.lst ((nms ls).map V.str)) ∧ StAt H' [] p A B C g ∧ GInv g (nms ls) [] (4 + 2 * i) (2 + 2 * i) ∧ 1 ≤ g.opn.length ∧ g.opn.length ≤ 4 ∧ g.one = cellF ns 1 ∧ g.other = cellF ns 2)
    ⟨_, v, rfl, same_kp sm2 (Kp.upd (S := [A, B, C]) (by simp)) fr, by rw [upd_ne hDC]; exact hd, S3, I2.mono (by omega) (by omega), ?_, ?_, f1, f2⟩ ?_ ?_
  · show 1 ≤ (g1.opn ++ nms ls).length
    rw [List.length_append]; omega
  · show (g1.opn ++ nms ls).length ≤ 4
    rw [List.length_append, List.length_map]; omega
  · rintro i σ H' hi ⟨g, v', rfl, sm, hD', S, I, o1, o2, e1, e2⟩
    refine ⟨_, rfl, _, rfl, _, rfl, _, _, rfl, rfl, _, rfl, _, _, rfl, rfl, a, ns, 1 + 2 + (0 + (i : Int)), rfl, sm.seq hS, by omega, _, rfl, [], p, A, B, C, g, _, nms ls, _, _, rfl, S, I, o1, o2, by omega, by omega, fun H4 g' kp S4 I4 d1 d2 d3 d4 => ?_⟩
    exact ⟨g', _, rfl, same_kp sm kp fr, kp _ _ oD3 hD', S4, I4.mono (by omega) (by omega), d3, d4, d1.trans e1, d2.trans e2⟩
  rintro σ H3 ⟨g3, v', rfl, sm3, hD3, S3', I3, o1, o2, e1, e2⟩
  refine ⟨_, rfl, _, rfl, _, rfl, [], p, A, B, C, D, g3, cellF ns 2, nms ls, _, _, rfl, S3', I3, hD3, by simpa using oD, o1, o2, by rw [List.length_map]; exact lsl, by omega, by omega, fun H4 g4 kp4 S4 ok4 => ?_⟩
  have sm4 := same_kp sm3 kp4 fr
  obtain ⟨vsA, hA4, rA⟩ := S4.la
  obtain ⟨vsB, hB4, rB⟩ := S4.pa
  have N0 := ok4 0
  have hpl : 1 ≤ vsB.length ∧ vsB.length ≤ 16 := by
    have z0 := N0.p0
    have z1 := N0.p1
    rw [List.length_append, List.length_drop, List.length_take] at z0 z1
    have e := rB.1
    omega
  have ba := mod_b (mixF (cellF ns 1) 7) (m := (vsB.length : Int)) (by omega)
  refine ⟨_, rfl, cellF ns 1, 7, rfl, by decide, _, rfl, p, _, 1, _, rfl, rfl, SqL.of S4.st, at1, B, vsB, rfl, .inl (SqL.of hB4), _, _, rfl, rfl, (by show (0 : Int) < (vsB.length : Int); omega), ?_⟩
  refine ⟨_, rfl, p, _, 0, _, rfl, rfl, SqL.of S4.st, at0, _, rfl, p, _, 1, _, rfl, rfl, SqL.of S4.st, at1, _, rfl, _, rfl, B, vsB, rfl, SqL.of hB4, fun r1 hr1' => ?_⟩
  have S5 := S4.same (same_new (o := .lst (cutV vsB (some (mixF (cellF ns 1) 7 % (vsB.length : Int))) none)) hr1')
  have hB5 := same_new (o := .lst (cutV vsB (some (mixF (cellF ns 1) 7 % (vsB.length : Int))) none)) hr1' _ _ hB4
  refine ⟨_, rfl, p, _, 1, _, rfl, rfl, SqL.of S5.st, at1, _, rfl, _, rfl, B, vsB, rfl, SqL.of hB5, fun r2 hr2' => ?_⟩
  have n12 : r1 ≠ r2 := fun e => by rw [← e, upd_same] at hr2'; cases hr2'
  refine ⟨r1, r2, _, _, rfl, rfl, by rw [upd_ne n12]; exact upd_same, upd_same, ?_, fun r3 hr3' => ⟨by show 2 ≤ sizeLine; decide, fun t ht => ?_⟩⟩
  · refine line_small ?_
    have z1 := cutV_length vsB (some (mixF (cellF ns 1) 7 % (vsB.length : Int))) none
    have z2 := cutV_length vsB none (some (mixF (cellF ns 1) 7 % (vsB.length : Int)))
    omega
  have s5 := (same_new (o := .lst (cutV vsB (some (mixF (cellF ns 1) 7 % (vsB.length : Int))) none)) hr1').trans ((same_new (o := .lst (cutV vsB none (some (mixF (cellF ns 1) 7 % (vsB.length : Int))))) hr2').trans ((same_new (o := .lst (cutV vsB (some (mixF (cellF ns 1) 7 % (vsB.length : Int))) none ++ cutV vsB none (some (mixF (cellF ns 1) 7 % (vsB.length : Int))))) hr3').trans (same_new (o := .tup [.ref A, .ref r3]) ht)))
  refine q _ t A r3 g4.lanes (g4.parts.drop (mixF (cellF ns 1) 7 % (vsB.length : Int)).toNat ++ g4.parts.take (mixF (cellF ns 1) 7 % (vsB.length : Int)).toNat) (sm4.trans s5) ⟨vsA, s5 _ _ hA4, rA.imp fun v l r => (r.same (same_of_but _)).same s5⟩ ⟨_, same_new ht _ _ upd_same, ?_⟩ ?_ upd_same
  · have key : ∀ Hf : Hp, AllAt (PtAt Hf) vsB g4.parts → AllAt (PtAt Hf) (cutV vsB (some (mixF (cellF ns 1) 7 % (vsB.length : Int))) none ++ cutV vsB none (some (mixF (cellF ns 1) 7 % (vsB.length : Int)))) (g4.parts.drop (mixF (cellF ns 1) 7 % (vsB.length : Int)).toNat ++ g4.parts.take (mixF (cellF ns 1) 7 % (vsB.length : Int)).toNat) := by
      intro Hf r
      rw [cut_from ba.1 (by omega), cut_to ba.1 (by omega)]
      exact (r.drop _).append (r.take _)
    exact key _ (rB.imp fun v l r => (r.same (same_of_but (p :: A :: B :: C :: []))).same s5)
  · have z := ok4 (mixF (cellF ns 1) 7 % (vsB.length : Int)).toNat
    rw [e1, e2] at z
    exact z
end
end K21
/-! the program: numbers, names, kinds of parts -/
namespace K21
open PySem PySem.Spec PyProof.Rows L2 TL
abbrev sWhole : Stmt := top 17
abbrev sVal : Stmt := top 18
abbrev sName : Stmt := top 19
abbrev sPInit : Stmt := inClass (top 21) 0
abbrev sIsKind : Stmt := top 33
/-- a list or a tuple -/
def SeqAt' (H : Hp) (a : Addr) (xs : List V) : Prop := H a = some (.lst xs) ∨ H a = some (.tup xs)
theorem SeqAt'.same {H H' : Hp} {a : Addr} {xs : List V} (h : SeqAt' H a xs) (s : Same H H') : SeqAt' H' a xs := h.imp (s _ _) (s _ _)
theorem SeqAt'.sq {K : PySem.W.Frag} {H : Hp} {a : Addr} {xs : List V} (h : SeqAt' H a xs) : SqL K H a xs ∨ SqT K H a xs := h.imp SqL.of SqT.of
def spWhole : Sp := fun vs H Q _ => ∃ i : Int, vs = [.int i] ∧ Q (.bl true) H
def spVal : Sp := fun vs H Q _ => ∃ i : Int, vs = [.int i] ∧ isVal i ∧ Q (.bl true) H
def spName : Sp := fun vs H Q _ => ∃ z : Str, vs = [.str z] ∧ NameOk z ∧ Q (.bl true) H
def spIsKind : Sp := fun vs H Q _ => ∃ kd : Kd, vs = [.str kd.word] ∧ ∀ H', Same H H' → Q (.bl true) H'
/-- the attributes of a part -/
def pflds (nm : Str) (n i o : Addr) : List (Str × V) := [("name", .str nm), ("numbers", .ref n), ("ins", .ref i), ("outs", .ref o)]
/-- a part as an object of the class at C -/
def PObj (H : Hp) (C x : Addr) (nm : Str) (nums : List Int) (ins outs : List Str) : Prop := ∃ dx n i o, H x = some (.ins C dx (pflds nm n i o)) ∧ H n = some (.tup (nums.map V.int)) ∧ H i = some (.tup (ins.map V.str)) ∧ H o = some (.tup (outs.map V.str))
theorem PObj.same {H H' : Hp} {C x : Addr} {nm : Str} {nums : List Int} {ins outs : List Str} (h : PObj H C x nm nums ins outs) (s : Same H H') : PObj H' C x nm nums ins outs := by
  obtain ⟨dx, n, i, o, h1, h2, h3, h4⟩ := h
  exact ⟨dx, n, i, o, s _ _ h1, s _ _ h2, s _ _ h3, s _ _ h4⟩
def spPInit (C : Addr) : Sp := fun vs H Q _ => ∃ (x dx n i o : Addr) (nm : Str) (nums : List Int) (ins outs : List Str), vs = [.ref x, .str nm, .ref n, .ref i, .ref o] ∧ H x = some (.ins C dx []) ∧ SeqAt' H n (nums.map V.int) ∧ SeqAt' H i (ins.map V.str) ∧ SeqAt' H o (outs.map V.str) ∧
  ∀ H', (∀ b u, H b = some u → b ≠ x → H' b = some u) → PObj H' C x nm nums ins outs → Q .non H'
theorem kNN : ¬ (("name" : Str) = "numbers") := by decide +kernel
theorem kNI : ¬ (("name" : Str) = "ins") := by decide +kernel
theorem kNO : ¬ (("name" : Str) = "outs") := by decide +kernel
theorem kMI : ¬ (("numbers" : Str) = "ins") := by decide +kernel
theorem kMO : ¬ (("numbers" : Str) = "outs") := by decide +kernel
theorem kIO : ¬ (("ins" : Str) = "outs") := by decide +kernel
theorem putF_nil (f : Str) (v : V) : putF f v [] = [(f, v)] := rfl
theorem putF_ne {f g : Str} {v u : V} {fs : List (Str × V)} (h : ¬ g = f) : putF f v ((g, u) :: fs) = (g, u) :: putF f v fs := by
  show (if g = f then _ else (g, u) :: putF f v fs) = _
  rw [if_neg h]
theorem putF_eq {f : Str} {v u : V} {fs : List (Str × V)} : putF f v ((f, u) :: fs) = (f, v) :: fs := by
  show (if f = f then (f, v) :: fs else _) = _
  rw [if_pos rfl]
theorem lookup_hit {f : Str} {v : V} {fs : List (Str × V)} : ((f, v) :: fs).lookup f = some v := by simp [List.lookup]
theorem lookup_miss {f g : Str} {v : V} {fs : List (Str × V)} (h : ¬ g = f) : ((f, v) :: fs).lookup g = fs.lookup g := by
  have e : (g == f) = false := by simpa using h
  simp [List.lookup, e]
theorem pf_name {nm : Str} {n i o : Addr} : (pflds nm n i o).lookup ("name" : Str) = some (.str nm) := lookup_hit
theorem pf_numbers {nm : Str} {n i o : Addr} : (pflds nm n i o).lookup ("numbers" : Str) = some (.ref n) := by
  unfold pflds
  rw [lookup_miss (fun e => kNN e.symm), lookup_hit]
theorem pf_ins {nm : Str} {n i o : Addr} : (pflds nm n i o).lookup ("ins" : Str) = some (.ref i) := by
  unfold pflds
  rw [lookup_miss (fun e => kNI e.symm), lookup_miss (fun e => kMI e.symm), lookup_hit]
theorem pf_outs {nm : Str} {n i o : Addr} : (pflds nm n i o).lookup ("outs" : Str) = some (.ref o) := by
  unfold pflds
  rw [lookup_miss (fun e => kNO e.symm), lookup_miss (fun e => kMO e.symm), lookup_miss (fun e => kIO e.symm), lookup_hit]
theorem pf_no {nm m : Str} {n i o : Addr} (h1 : ¬ m = "name") (h2 : ¬ m = "numbers") (h3 : ¬ m = "ins") (h4 : ¬ m = "outs") : (pflds nm n i o).lookup m = none := by
  unfold pflds
  rw [lookup_miss h1, lookup_miss h2, lookup_miss h3, lookup_miss h4]
  rfl
/-- the attributes of a part have no class value -/
structure PCls (K : PySem.W.Frag) (C : Addr) : Prop where
  cl : Cls K C
  n1 : NoAttr K C "name"
  n2 : NoAttr K C "numbers"
  n3 : NoAttr K C "ins"
  n4 : NoAttr K C "outs"
theorem all_word {kd : Kd} : inV (.str kd.word) [.str "give", .str "take"] = true ∨ (inV (.str kd.word) [.str "give", .str "take"] = false ∧ inV (.str kd.word) [.str "pass", .str "copy", .str "turn", .str "heap", .str "add", .str "less", .str "order", .str "choose", .str "split"] = true) := by
  cases kd <;> first | exact .inl (by decide +kernel) | exact .inr (by decide +kernel)
section
variable {P : Program} {w : World} {K : PySem.W.Frag}
    {mg : Str → Option Value} {base : Heap}
theorem scWhole : FnScope ["thing"] ["thing"] (defScope sWhole) := ⟨rfl, rfl, rfl, by decide +kernel, rfl, by decide +kernel, by decide +kernel⟩
theorem ok_whole (G : GF K mg "is_whole" sWhole) (hisi : mg "isinstance" = none) (hint : mg "int" = none) (hbool : mg "bool" = none) : Cal P w K mg base CX0 1 "is_whole" ["thing"] spWhole := by
  refine G.cal scWhole (fun _ _ _ _ _ _ us hl => match us, hl with | [_], _ => rfl) (fun vs H Q E h => by obtain ⟨_, rfl, _⟩ := h; rfl) (fun f cdv A0 outer s H vs Q E hr h => ?_)
  obtain ⟨i, rfl, q⟩ := h
  refine ⟨_, (pss_one (ps_ret (pe_and (pe_callB call_isi (by rfl) hisi (by decide +kernel) (pa_cons (pv 0) (pa_cons (pe_bltn (v := .ty "int") (by rfl) hint (by decide +kernel) rfl) pa_nil))) (pe_one (pe_not (pe_callB call_isi (by rfl) hisi (by decide +kernel) (pa_cons (pv 0) (pa_cons (pe_bltn (v := .ty "bool") (by rfl) hbool (by decide +kernel) rfl) pa_nil)))))))), ?_⟩
  refine ⟨_, rfl, .int i, .ty "int", _, _, true, rfl, .ty _, .base (.int i), kit_ty (by decide +kernel), true, rfl, ?_⟩
  refine ⟨_, rfl, .int i, .ty "bool", _, _, false, rfl, .ty _, .base (.int i), kit_ty (by decide +kernel), false, rfl, q⟩
theorem scVal : FnScope ["thing"] ["thing"] (defScope sVal) := ⟨rfl, rfl, rfl, by decide +kernel, rfl, by decide +kernel, by decide +kernel⟩
theorem ok_val (G : GF K mg "is_value" sVal) (MW : Cal P w K mg base CX0 1 "is_whole" ["thing"] spWhole) (gV : ∃ t, mg "VALUES" = some (.int 1000000000 t)) : Cal P w K mg base CX0 2 "is_value" ["thing"] spVal := by
  obtain ⟨tV, gV⟩ := gV
  refine G.cal scVal (fun _ _ _ _ _ _ us hl => match us, hl with | [_], _ => rfl) (fun vs H Q E h => by obtain ⟨_, rfl, _⟩ := h; rfl) (fun f cdv A0 outer s H vs Q E hr h => ?_)
  obtain ⟨i, rfl, hv, q⟩ := h
  refine ⟨_, (pss_one (ps_ret (pe_and (pe_callG MW (hr.mono (by decide)) (by rfl) pass0 (pa_cons (pv 0) pa_nil)) (pe_one (pe_chain op_le op_lt pe_int (pv 0) (pe_glob (v := .int 1000000000) (by rfl) gV ⟨_, rfl⟩)))))), ?_⟩
  refine ⟨_, rfl, i, rfl, true, rfl, ?_⟩
  refine ⟨_, rfl, _, _, rfl, rfl, true, congrArg V.bl (decide_eq_true hv.1), ?_⟩
  refine ⟨_, _, rfl, rfl, ?_⟩
  show Q (.bl (decide (i < 1000000000))) H
  rw [decide_eq_true hv.2]
  exact q
theorem scName : FnScope ["thing", "sign"] ["thing"] (defScope sName) := ⟨rfl, rfl, rfl, by decide +kernel, rfl, by decide +kernel, by decide +kernel⟩
theorem ok_name (G : GF K mg "is_name" sName) (hisi : mg "isinstance" = none) (hstr : mg "str" = none) (hlen : mg "len" = none) (gL : ∃ t, mg "LETTERS" = some (.str lettersS t)) (gF : ∃ t, mg "FIGURES" = some (.str figuresS t)) : Cal P w K mg base CX0 1 "is_name" ["thing"] spName := by
  obtain ⟨tL, gL⟩ := gL
  obtain ⟨tF, gF⟩ := gF
  refine G.cal scName (fun _ _ _ _ _ _ us hl => match us, hl with | [_], _ => rfl) (fun vs H Q E h => by obtain ⟨_, rfl, _⟩ := h; rfl) (fun f cdv A0 outer s H vs Q E hr h => ?_)
  obtain ⟨z, rfl, nk, q⟩ := h
  refine ⟨_, (pss_cons (ps_if (PW.pt (pw_or (pt_not (pt_val (pe_callB call_isi (by rfl) hisi (by decide +kernel) (pa_cons (pv 0) (pa_cons (pe_bltn (v := .ty "str") (by rfl) hstr (by decide +kernel) rfl) pa_nil))))) (pw_or1 (pt_not (pt_chain op_le op_le pe_int (pe_callB call_len_str (by rfl) hlen PySem.boot_len (pa_cons (pv 0) pa_nil)) pe_int))))) (pss_one (ps_ret pe_bl)) pss_nil)
    (pss_cons (ps_for PassesOwn.never rfl (pi_str (pv 0)) (pg_name (i := 1) scName.nd rfl (.inl rfl)) (pss_one (ps_if (PW.pt (pw_and (pt_cmpR op_notIn_sign (pv 1) (pe_glob (v := .str lettersS) (by rfl) gL ⟨_, rfl⟩) (by rfl)) (pw_and1 (pt_cmpR op_notIn_sign (pv 1) (pe_glob (v := .str figuresS) (by rfl) gF ⟨_, rfl⟩) (by rfl))))) (pss_one (ps_ret pe_bl)) pss_nil)))
    (pss_one (ps_ret (pe_cmpR op_in_sign (pe_ix ix_str (pv 0) pe_int (fun _ _ => rfl)) (pe_glob (v := .str lettersS) (by rfl) gL ⟨_, rfl⟩) (by rfl)))))), ?_⟩
  have hz : z.length ≤ sizeLine := line_small (by have := nk.hi; omega)
  refine ⟨_, rfl, .str z, .ty "str", _, _, true, rfl, .ty _, .base (.str z), kit_ty (by decide +kernel), true, rfl, ?_⟩
  have hlo := nk.lo
  have hhi := nk.hi
  refine ⟨_, rfl, z, rfl, hz, _, _, rfl, rfl, true, congrArg V.bl (decide_eq_true (show (1 : Int) ≤ (z.length : Int) by omega)), _, _, rfl, rfl, true, congrArg V.bl (decide_eq_true (show (z.length : Int) ≤ 8 by omega)), ?_⟩
  refine ⟨_, rfl, z, rfl, for_it walk_str (fun i σ H' => ∃ v, σ = [some (.str z), v] ∧ H' = H) ⟨none, rfl, rfl⟩ (fun _ _ _ _ _ => trivial) ?_ ?_⟩
  · rintro i x σ H1 H2 hi ⟨v, rfl, rfl⟩ ⟨rfl, c, hc, rfl⟩
    have hcm : c ∈ tl z := by
      obtain ⟨h1, h2⟩ := Array.getElem?_eq_some_iff.mp hc
      rw [← h2]
      exact Array.mem_toList_iff.mpr (Array.getElem_mem h1)
    refine ⟨_, rfl, c, lettersS, rfl, rfl, _, rfl, ?_⟩
    rcases nk.all c hcm with hl | hd
    · rw [decide_eq_true (mem_letters.mpr hl)]
      exact ⟨_, rfl, rfl⟩
    · refine ite2 (fun _ => ?_) (fun _ => ⟨_, rfl, rfl⟩)
      refine ⟨_, rfl, c, figuresS, rfl, rfl, _, rfl, ?_⟩
      rw [decide_eq_true (mem_figures.mpr hd)]
      exact ⟨_, rfl, rfl⟩
  · rintro σ H1 ⟨v, rfl, rfl⟩
    obtain ⟨c, hc, hl⟩ := nk.one
    refine ⟨_, rfl, z, 0, c, rfl, rfl, hz, atI_nat (j := 0) hc, c, lettersS, rfl, rfl, ?_⟩
    rw [decide_eq_true (mem_letters.mpr hl)]
    exact q
/-- tuple(x), x a list or a tuple -/
theorem call_tupleS {X : Cx} : CallR X (.type "tuple") (fun xs H Q => ∃ p ys, xs = [.ref p] ∧ SeqAt' H p ys ∧ ∀ (t : Addr) (H' : Hp), Same H H' → H' t = some (.tup ys) → Q (.ref t) H') := by
  intro pins s σ H
      xs us Q I r h
  obtain ⟨p, ys, e, h, k⟩ := h
  refine call_tuple_of pins s σ H xs us Q I r ⟨p, ys, e, ?_⟩
  rcases h with h | h
  · exact .inl ⟨SqL.of h, fun l hl => k l _ (same_new hl) upd_same⟩
  · exact .inr ⟨SqT.of h, k p H (Same.refl H) h⟩
theorem scPInit : FnScope ["self", "name", "numbers", "ins", "outs"] ["self", "name", "numbers", "ins", "outs"] (defScope sPInit) := ⟨rfl, rfl, rfl, by decide +kernel, rfl, by decide +kernel, by decide +kernel⟩
theorem ok_pinit {C : Addr} {x : Str} (G : KF K mg x C "Part.__init__" sPInit) (T : PCls K C) (htuple : mg "tuple" = none) : KCal P w K mg base CX0 C 1 x ["self", "name", "numbers", "ins", "outs"] (spPInit C) := by
  refine G.cal scPInit (fun _ _ _ _ _ _ us hl => match us, hl with | [_, _, _, _, _], _ => rfl) (fun vs H Q E h => by obtain ⟨_, _, _, _, _, _, _, _, _, rfl, _⟩ := h; rfl) (fun f cdv A0 outer s H vs Q E hr h => ?_)
  obtain ⟨a, dx, n, i, o, nm, nums, ins, outs, rfl, hx, hn, hi, ho, q⟩ := h
  refine ⟨_, (pss_cons (ps_fld (pv 0) (pv 1) rfl)
    (pss_cons (ps_fld (pv 0) (pe_callTy call_tupleS (by rfl) htuple (by decide +kernel) (pa_cons (pv 2) pa_nil)) rfl)
    (pss_cons (ps_fld (pv 0) (pe_callTy call_tupleS (by rfl) htuple (by decide +kernel) (pa_cons (pv 3) pa_nil)) rfl)
    (pss_one (ps_fld (pv 0) (pe_callTy call_tupleS (by rfl) htuple (by decide +kernel) (pa_cons (pv 4) pa_nil)) rfl))))), ?_⟩
  have nl : ∀ {b : Addr} {xs : List V}, SeqAt' H b xs → b ≠ a := fun h e => by rcases h with h | h <;> (rw [e, hx] at h; cases h)
  refine ⟨_, rfl, _, rfl, a, C, dx, _, rfl, hx, T.cl, T.n1, (by show 0 < 1000; decide), ?_⟩
  have hn1 : SeqAt' (upd H a (.ins C dx (putF "name" (.str nm) []))) n (nums.map V.int) := by unfold SeqAt'; rw [upd_ne (nl hn)]; exact hn
  refine ⟨_, rfl, n, _, rfl, hn1, fun tn H1 s1 h1 => ⟨_, rfl, a, C, dx, _, rfl, s1 _ _ upd_same, T.cl, T.n2, (by show 1 < 1000; decide), ?_⟩⟩
  have na1 : tn ≠ a := fun e => by rw [e, s1 _ _ upd_same] at h1; cases h1
  have kp1 : ∀ b u, H b = some u → b ≠ a → (upd H1 a (.ins C dx (putF "numbers" (.ref tn) (putF "name" (.str nm) [])))) b = some u := fun b u e ne => by
    rw [upd_ne ne]; exact s1 _ _ (by rw [upd_ne ne]; exact e)
  have sq1 : ∀ {b : Addr} {xs : List V}, SeqAt' H b xs → SeqAt' (upd H1 a (.ins C dx (putF "numbers" (.ref tn) (putF "name" (.str nm) [])))) b xs := fun h => h.elim (fun e => .inl (kp1 _ _ e (nl h))) (fun e => .inr (kp1 _ _ e (nl h)))
  refine ⟨_, rfl, i, _, rfl, sq1 hi, fun ti H2 s2 h2 => ⟨_, rfl, a, C, dx, _, rfl, s2 _ _ upd_same, T.cl, T.n3, (by rw [putF_nil, putF_ne kNN, putF_nil]; show 2 < 1000; decide), ?_⟩⟩
  have na2 : ti ≠ a := fun e => by rw [e, s2 _ _ upd_same] at h2; cases h2
  have kp2 : ∀ b u, H b = some u → b ≠ a → (upd H2 a (.ins C dx (putF "ins" (.ref ti) (putF "numbers" (.ref tn) (putF "name" (.str nm) []))))) b = some u := fun b u e ne => by
    rw [upd_ne ne]; exact s2 _ _ (kp1 b u e ne)
  have sq2 : SeqAt' (upd H2 a (.ins C dx (putF "ins" (.ref ti) (putF "numbers" (.ref tn) (putF "name" (.str nm) []))))) o (outs.map V.str) := ho.elim (fun e => .inl (kp2 _ _ e (nl ho))) (fun e => .inr (kp2 _ _ e (nl ho)))
  refine ⟨_, rfl, o, _, rfl, sq2, fun to H3 s3 h3 => ⟨_, rfl, a, C, dx, _, rfl, s3 _ _ upd_same, T.cl, T.n4, (by rw [putF_nil, putF_ne kNN, putF_nil, putF_ne kNI, putF_ne kMI, putF_nil]; show 3 < 1000; decide), ?_⟩⟩
  have na3 : to ≠ a := fun e => by rw [e, s3 _ _ upd_same] at h3; cases h3
  have e4 : putF "outs" (.ref to) (putF "ins" (.ref ti) (putF "numbers" (.ref tn) (putF "name" (.str nm) []))) = pflds nm tn ti to := by
    rw [putF_nil, putF_ne kNN, putF_nil, putF_ne kNI, putF_ne kMI, putF_nil, putF_ne kNO, putF_ne kMO, putF_ne kIO, putF_nil]
    rfl
  refine q _ (fun b u e ne => by rw [upd_ne ne]; exact s3 _ _ (kp2 b u e ne)) ⟨dx, tn, ti, to, ?_, ?_, ?_, ?_⟩
  · rw [upd_same]; exact congrArg (fun l => some (HO.ins C dx l)) e4
  · rw [upd_ne na1]; exact s3 _ _ (by rw [upd_ne na1]; exact s2 _ _ (by rw [upd_ne na1]; exact h1))
  · rw [upd_ne na2]; exact s3 _ _ (by rw [upd_ne na2]; exact h2)
  · rw [upd_ne na3]; exact h3
theorem scIsKind : FnScope ["word", "doors"] ["word"] (defScope sIsKind) := ⟨rfl, rfl, rfl, by decide +kernel, rfl, by decide +kernel, by decide +kernel⟩
theorem ok_iskind (G : GF K mg "is_kind" sIsKind) : Cal P w K mg base CX0 1 "is_kind" ["word"] spIsKind := by
  refine G.cal scIsKind (fun _ _ _ _ _ _ us hl => match us, hl with | [_], _ => rfl) (fun vs H Q E h => by obtain ⟨_, rfl, _⟩ := h; rfl) (fun f cdv A0 outer s H vs Q E hr h => ?_)
  obtain ⟨kd, rfl, q⟩ := h
  refine ⟨_, (pss_cons (ps_set (i := 1) scIsKind.nd rfl (.inl rfl) (pe_tup (pa_cons pe_str (pa_cons pe_str pa_nil))))
    (pss_one (ps_ret (pe_or (pe_cmpR op_in_seq (pv 0) (pv 1) (by rfl)) (pe_one (pe_cmpR op_in_seq (pv 0) (pe_tup (pa_cons pe_str (pa_cons pe_str (pa_cons pe_str (pa_cons pe_str (pa_cons pe_str (pa_cons pe_str (pa_cons pe_str (pa_cons pe_str (pa_cons pe_str pa_nil)))))))))) (by rfl))))))), ?_⟩
  refine ⟨by show 2 ≤ sizeLine; decide, fun t ht => ⟨_, rfl, _, rfl, t, _, rfl, .inr (SqT.of upd_same), rfl, rfl, _, rfl, ?_⟩⟩
  rcases all_word (kd := kd) with h | ⟨h1, h2⟩
  · show (if inV (.str kd.word) [.str "give", .str "take"] = true then _ else _)
    rw [if_pos h]
    exact q _ (same_new ht)
  · show (if inV (.str kd.word) [.str "give", .str "take"] = true then _ else _)
    rw [h1, if_neg Bool.false_ne_true]
    refine ⟨_, rfl, by show 9 ≤ sizeLine; decide, fun t2 ht2 => ⟨t2, _, rfl, .inr (SqT.of upd_same), rfl, rfl, ?_⟩⟩
    show Q (.bl (inV (.str kd.word) [.str "pass", .str "copy", .str "turn", .str "heap", .str "add", .str "less", .str "order", .str "choose", .str "split"])) _
    rw [h2]
    exact q _ ((same_new ht).trans (same_new ht2))
end
end K21
/-! the program: kinds of parts, parts made -/
namespace K21
open PySem PySem.Spec PyProof.Rows L2 TL
abbrev sMadeAs : Stmt := top 34
abbrev sPartMade : Stmt := top 35
abbrev sNeedName : Stmt := top 40
abbrev sNeedRoom : Stmt := top 41
def Kd.cname : Kd → Str
  | .give => "Give" | .take => "Take" | .pass => "Pass" | .copy => "Copy" | .turn => "Turn" | .heap => "Heap" | .add => "Add" | .less => "Less" | .order => "Order" | .choose => "Choose" | .split => "Split"
def Kd.qkind : Kd → Str
  | .give => "Give.kind" | .take => "Take.kind" | .pass => "Pass.kind" | .copy => "Copy.kind" | .turn => "Turn.kind" | .heap => "Heap.kind" | .add => "Add.kind" | .less => "Less.kind" | .order => "Order.kind" | .choose => "Choose.kind" | .split => "Split.kind"
def Kd.qwants : Kd → Str
  | .give => "Give.wants" | .take => "Take.wants" | .pass => "Part.wants" | .copy => "Copy.wants" | .turn => "Turn.wants" | .heap => "Heap.wants" | .add => "Add.wants" | .less => "Less.wants" | .order => "Order.wants" | .choose => "Choose.wants" | .split => "Split.wants"
def Kd.skind : Kd → Stmt
  | .give => inClass (top 22) 0 | .take => inClass (top 23) 0 | .pass => inClass (top 24) 0 | .copy => inClass (top 25) 0 | .turn => inClass (top 26) 0 | .heap => inClass (top 27) 0 | .add => inClass (top 28) 0 | .less => inClass (top 29) 0 | .order => inClass (top 30) 0 | .choose => inClass (top 31) 0 | .split => inClass (top 32) 0
def Kd.swants : Kd → Stmt
  | .give => inClass (top 22) 1 | .take => inClass (top 23) 1 | .pass => inClass (top 21) 2 | .copy => inClass (top 25) 1 | .turn => inClass (top 26) 1 | .heap => inClass (top 27) 1 | .add => inClass (top 28) 1 | .less => inClass (top 29) 1 | .order => inClass (top 30) 1 | .choose => inClass (top 31) 1 | .split => inClass (top 32) 1
def spKind (kd : Kd) : Sp := fun vs H Q _ => ∃ x : Addr, vs = [.ref x] ∧ Q (.str kd.word) H
def spWants (kd : Kd) : Sp := fun vs H Q _ => ∃ x : Addr, vs = [.ref x] ∧ ∀ t, H t = none → Q (.ref t) (upd H t (.tup [.int (kd.wants.1 : Nat), .int (kd.wants.2.1 : Nat), .int (kd.wants.2.2 : Nat)]))
/-- what the top tells of the kinds -/
structure KFacts (K : PySem.W.Frag) (mg : Str → Option Value) (kA : Kd → Addr) : Prop where
  pc : ∀ kd, PCls K (kA kd)
  mkr : ∀ kd, KF K mg kd.cname (kA kd) "Part.__init__" sPInit
  kind : ∀ kd, MF K (kA kd) "kind" kd.qkind kd.skind
  wants : ∀ kd, MF K (kA kd) "wants" kd.qwants kd.swants
section
variable {X : Cx} {CX : CXT} {k : Nat} {ps : List Str} {E : XK} {m : Str} {pos apos : Pos} {o : Expr} {ta : TE}
/-- o.m() of an instance of one of several classes, told by an index -/
def tMethI {ι : Type} (cA : ι → Addr) (m : Str) (sp : ι → Sp) (E : XK) (ta : TE) : TE := fun σ H Q => ta σ H fun x H1 => ∃ (i : ι) (a dx : Addr) (fs : List (Str × V)), x = .ref a ∧ H1 a = some (.ins (cA i) dx fs) ∧ fs.lookup m = none ∧ sp i [x] H1 Q E
theorem pe_methI {pl : Sem Bool} {ι : Type} {cA : ι → Addr} {sp : ι → Sp} (F : ∀ i, Cls X.K (cA i) ∧ MCal X.prog X.w X.K X.mg X.base CX (cA i) k m ps (sp i)) (he : PE X o ta) (hr : Room k X.A) (hx : Passes CX X E)
    (ht : eval (.Call (.Attribute o m
        apos) [] [] pos) X.env = (do
      let ov ← eval o X.env
      standAt apos.atName
      let (f, first) ← holding [ov]
          (getMethod ov m pl)
      callWith pos f first (backTo pos (starEach [] X.env))
          (backToKw pos (keywordEach [] X.env))) := by rfl) :
    PE X (.Call (.Attribute o m apos) [] [] pos) (tMethI cA m sp E ta) := by
  refine ⟨fun pins s σ
      H Q I h => ?_⟩
  refine PySem.W.methodCall_KW (pl := pl) (thn (he.run pins s σ H _ I h) fun u s1 ⟨x, H1, I1, rx, i, a, dx, fs, ex, ea, l, q⟩ => ?_) ht
  subst ex
  obtain rfl : u =
      Value.ref a := rx
  obtain ⟨f, fd, hm, b, FG⟩ := (F i).2.ex
  refine getmeth_ok I1 ea (F i).1 hm l ?_
  exact PySem.W.callWith_K0 (first := [.ref a]) I1.kIn hm.kp (run_fn (us := [.ref a]) (vs := [.ref a]) FG hr b .nil hx I1 (.cons rfl .nil) q)
end
theorem ifF {c A B : Prop} [Decidable c] (h : ¬ c) (b : B) : if c then A else B := by rw [if_neg h]; exact b
theorem ifT {c A B : Prop} [Decidable c] (h : c) (a : A) : if c then A else B := by rw [if_pos h]; exact a
section
variable {P : Program} {w : World} {K : PySem.W.Frag} {mg : Str → Option Value} {base : Heap} {kA : Kd → Addr}
theorem kind_gen {C : Addr} {q : Str} {st : Stmt} {kd : Kd} (G : MF K C "kind" q st) (sc : FnScope ["self"] ["self"] (defScope st)) (b : BArgs "kind" q st ["self"]) {j : Nat} {p1 p2 : Pos} (hb : defBody st = [.Return (some (.Constant (.str kd.word) j p1)) p2]) : MCal P w K mg base CX0 C 1 "kind" ["self"] (spKind kd) := by
  refine G.cal sc b (fun vs H Q E h => by obtain ⟨_, rfl, _⟩ := h; rfl) (fun f cdv A0 outer s H vs Q E hr h => ?_)
  obtain ⟨x, rfl, q⟩ := h
  rw [hb]
  exact ⟨_, pss_one (ps_ret pe_str), q⟩
theorem wants_gen {C : Addr} {q : Str} {st : Stmt} {kd : Kd} (G : MF K C "wants" q st) (sc : FnScope ["self"] ["self"] (defScope st)) (b : BArgs "wants" q st ["self"]) {j1 j2 j3 : Nat} {p1 p2 p3 p4 p5 : Pos} {tc}
    (hb : defBody st = [.Return (some (.Tuple [.Constant (.int (kd.wants.1 : Nat)) j1 p1, .Constant (.int (kd.wants.2.1 : Nat)) j2 p2, .Constant (.int (kd.wants.2.2 : Nat)) j3 p3] tc p4)) p5]) : MCal P w K mg base CX0 C 1 "wants" ["self"] (spWants kd) := by
  refine G.cal sc b (fun vs H Q E h => by obtain ⟨_, rfl, _⟩ := h; rfl) (fun f cdv A0 outer s H vs Q E hr h => ?_)
  obtain ⟨x, rfl, q⟩ := h
  rw [hb]
  exact ⟨_, pss_one (ps_ret (pe_tup (pa_cons pe_int (pa_cons pe_int (pa_cons pe_int pa_nil))))), by show 3 ≤ sizeLine; decide, q⟩
theorem ok_kind (T : KFacts K mg kA) (kd : Kd) : Cls K (kA kd) ∧ MCal P w K mg base CX0 (kA kd) 1 "kind" ["self"] (spKind kd) := by
  refine ⟨(T.pc kd).cl, ?_⟩
  have G := T.kind kd
  cases kd <;> exact kind_gen G ⟨rfl, rfl, rfl, by decide +kernel, rfl, by decide +kernel, by decide +kernel⟩ (fun _ _ _ _ _ _ us hl => match us, hl with | [_], _ => rfl) rfl
theorem ok_wants (T : KFacts K mg kA) (kd : Kd) : Cls K (kA kd) ∧ MCal P w K mg base CX0 (kA kd) 1 "wants" ["self"] (spWants kd) := by
  refine ⟨(T.pc kd).cl, ?_⟩
  have G := T.wants kd
  cases kd <;> exact wants_gen G ⟨rfl, rfl, rfl, by decide +kernel, rfl, by decide +kernel, by decide +kernel⟩ (fun _ _ _ _ _ _ us hl => match us, hl with | [_], _ => rfl) rfl
def spMadeAs (kA : Kd → Addr) : Sp := fun vs H Q _ => ∃ (kd : Kd) (n i o : Addr) (nm : Str) (nums : List Int) (ins outs : List Str), vs = [.str kd.word, .str nm, .ref n, .ref i, .ref o] ∧ SeqAt' H n (nums.map V.int) ∧ SeqAt' H i (ins.map V.str) ∧ SeqAt' H o (outs.map V.str) ∧
  ∀ (H' : Hp) (x : Addr), Same H H' → PObj H' (kA kd) x nm nums ins outs → Q (.ref x) H'
def spPartMade (kA : Kd → Addr) : Sp := fun vs H Q _ => ∃ (q : Pt) (n i o : Addr), vs = [.str q.kd.word, .str q.name, .ref n, .ref i, .ref o] ∧ SeqAt' H n (q.nums.map V.int) ∧ SeqAt' H i (q.ins.map V.str) ∧ SeqAt' H o (q.outs.map V.str) ∧ PtOk q ∧
  ∀ (H' : Hp) (x : Addr), Same H H' → PObj H' (kA q.kd) x q.name q.nums q.ins q.outs → Q (.ref x) H'
abbrev psP : List Str := ["self", "name", "numbers", "ins", "outs"]
theorem ok_init (T : KFacts K mg kA) (htuple : mg "tuple" = none) (kd : Kd) : KCal P w K mg base CX0 (kA kd) 1 kd.cname psP (spPInit (kA kd)) := ok_pinit (T.mkr kd) (T.pc kd) htuple
/-- a new object of the class at C -/
theorem made_new {C x dx n i o : Addr} {nm : Str} {nums : List Int} {ins outs : List Str} {H : Hp} {Q : VK} {E : XK} (hn : SeqAt' H n (nums.map V.int)) (hi : SeqAt' H i (ins.map V.str)) (ho : SeqAt' H o (outs.map V.str)) (hx : H x = none) (hd : H dx = none)
    (q : ∀ (H' : Hp) (x : Addr), Same H H' → PObj H' C x nm nums ins outs → Q (.ref x) H') :
    spPInit C [.ref x, .str nm, .ref n, .ref i, .ref o] (upd (upd H dx (.own x)) x (.ins C dx [])) (fun v H2 => v = .non ∧ Q (.ref x) H2) E := by
  have s1 : Same H (upd (upd H dx (.own x)) x (.ins C dx [])) := fun b u e => by
    rw [upd_ne (ne_of_none e hx), upd_ne (ne_of_none e hd)]; exact e
  refine ⟨x, dx, n, i, o, nm, nums, ins, outs, rfl, upd_same, hn.same s1, hi.same s1, ho.same s1, fun H' k po => ⟨rfl, q H' x (fun b u e => k b u (s1 b u e) (ne_of_none e hx)) po⟩⟩
theorem scMadeAs : FnScope ["kind", "name", "numbers", "ins", "outs"] ["kind", "name", "numbers", "ins", "outs"] (defScope sMadeAs) := ⟨rfl, rfl, rfl, by decide +kernel, rfl, by decide +kernel, by decide +kernel⟩
theorem ok_madeas (G : GF K mg "made_as" sMadeAs) (F : ∀ kd : Kd, KCal P w K mg base CX0 (kA kd) 1 kd.cname psP (spPInit (kA kd))) : Cal P w K mg base CX0 3 "made_as" ["kind", "name", "numbers", "ins", "outs"] (spMadeAs kA) := by
  refine G.cal scMadeAs (fun _ _ _ _ _ _ us hl => match us, hl with | [_, _, _, _, _], _ => rfl) (fun vs H Q E h => by obtain ⟨_, _, _, _, _, _, _, _, rfl, _⟩ := h; rfl) (fun f cdv A0 outer s H vs Q E hr h => ?_)
  obtain ⟨kd, n, i, o, nm, nums, ins, outs, rfl, hn, hi, ho, q⟩ := h
  refine ⟨_, (pss_cons (ps_if (pt_cmpR op_eq (pv 0) pe_str (nomark _)) (pss_one (ps_ret (pe_makeG (F .give) (hr.mono (by decide)) (by rfl) pass0 (pa_cons (pv 1) (pa_cons (pv 2) (pa_cons (pv 3) (pa_cons (pv 4) pa_nil))))))) pss_nil)
    (pss_cons (ps_if (pt_cmpR op_eq (pv 0) pe_str (nomark _)) (pss_one (ps_ret (pe_makeG (F .take) (hr.mono (by decide)) (by rfl) pass0 (pa_cons (pv 1) (pa_cons (pv 2) (pa_cons (pv 3) (pa_cons (pv 4) pa_nil))))))) pss_nil)
    (pss_cons (ps_if (pt_cmpR op_eq (pv 0) pe_str (nomark _)) (pss_one (ps_ret (pe_makeG (F .pass) (hr.mono (by decide)) (by rfl) pass0 (pa_cons (pv 1) (pa_cons (pv 2) (pa_cons (pv 3) (pa_cons (pv 4) pa_nil))))))) pss_nil)
    (pss_cons (ps_if (pt_cmpR op_eq (pv 0) pe_str (nomark _)) (pss_one (ps_ret (pe_makeG (F .copy) (hr.mono (by decide)) (by rfl) pass0 (pa_cons (pv 1) (pa_cons (pv 2) (pa_cons (pv 3) (pa_cons (pv 4) pa_nil))))))) pss_nil)
    (pss_cons (ps_if (pt_cmpR op_eq (pv 0) pe_str (nomark _)) (pss_one (ps_ret (pe_makeG (F .turn) (hr.mono (by decide)) (by rfl) pass0 (pa_cons (pv 1) (pa_cons (pv 2) (pa_cons (pv 3) (pa_cons (pv 4) pa_nil))))))) pss_nil)
    (pss_cons (ps_if (pt_cmpR op_eq (pv 0) pe_str (nomark _)) (pss_one (ps_ret (pe_makeG (F .heap) (hr.mono (by decide)) (by rfl) pass0 (pa_cons (pv 1) (pa_cons (pv 2) (pa_cons (pv 3) (pa_cons (pv 4) pa_nil))))))) pss_nil)
    (pss_cons (ps_if (pt_cmpR op_eq (pv 0) pe_str (nomark _)) (pss_one (ps_ret (pe_makeG (F .add) (hr.mono (by decide)) (by rfl) pass0 (pa_cons (pv 1) (pa_cons (pv 2) (pa_cons (pv 3) (pa_cons (pv 4) pa_nil))))))) pss_nil)
    (pss_cons (ps_if (pt_cmpR op_eq (pv 0) pe_str (nomark _)) (pss_one (ps_ret (pe_makeG (F .less) (hr.mono (by decide)) (by rfl) pass0 (pa_cons (pv 1) (pa_cons (pv 2) (pa_cons (pv 3) (pa_cons (pv 4) pa_nil))))))) pss_nil)
    (pss_cons (ps_if (pt_cmpR op_eq (pv 0) pe_str (nomark _)) (pss_one (ps_ret (pe_makeG (F .order) (hr.mono (by decide)) (by rfl) pass0 (pa_cons (pv 1) (pa_cons (pv 2) (pa_cons (pv 3) (pa_cons (pv 4) pa_nil))))))) pss_nil)
    (pss_cons (ps_if (pt_cmpR op_eq (pv 0) pe_str (nomark _)) (pss_one (ps_ret (pe_makeG (F .choose) (hr.mono (by decide)) (by rfl) pass0 (pa_cons (pv 1) (pa_cons (pv 2) (pa_cons (pv 3) (pa_cons (pv 4) pa_nil))))))) pss_nil)
    (pss_one (ps_ret (pe_makeG (F .split) (hr.mono (by decide)) (by rfl) pass0 (pa_cons (pv 1) (pa_cons (pv 2) (pa_cons (pv 3) (pa_cons (pv 4) pa_nil))))))))))))))))), ?_⟩
  cases kd
  all_goals
    repeat (refine ⟨_, rfl, rfl, _, rfl, ?_⟩; refine ifF (by decide +kernel) ?_)
    try (refine ⟨_, rfl, rfl, _, rfl, ?_⟩; refine ifT (by decide +kernel) ?_)
    refine ⟨_, rfl, _, rfl, _, rfl, _, rfl, fun x dx hx hdx _ => ?_⟩
    exact made_new hn hi ho hx hdx q
theorem scPartMade : FnScope ["kind", "name", "numbers", "ins", "outs", "one", "many", "many_in", "many_out", "number"] ["kind", "name", "numbers", "ins", "outs"] (defScope sPartMade) := ⟨rfl, rfl, rfl, by decide +kernel, rfl, by decide +kernel, by decide +kernel⟩
theorem ok_partmade (G : GF K mg "part_made" sPartMade) (T : KFacts K mg kA) (MI : Cal P w K mg base CX0 1 "is_kind" ["word"] spIsKind) (MM : Cal P w K mg base CX0 3 "made_as" ["kind", "name", "numbers", "ins", "outs"] (spMadeAs kA))
    (MV : Cal P w K mg base CX0 2 "is_value" ["thing"] spVal) (FW : ∀ kd, Cls K (kA kd) ∧ MCal P w K mg base CX0 (kA kd) 1 "wants" ["self"] (spWants kd)) (hlen : mg "len" = none) : Cal P w K mg base CX0 4 "part_made" ["kind", "name", "numbers", "ins", "outs"] (spPartMade kA) := by
  refine G.cal scPartMade (fun _ _ _ _ _ _ us hl => match us, hl with | [_, _, _, _, _], _ => rfl) (fun vs H Q E h => by obtain ⟨_, _, _, _, rfl, _⟩ := h; rfl) (fun f cdv A0 outer s H vs Q E hr h => ?_)
  obtain ⟨p, n, i, o, rfl, hn, hi, ho, ok, q⟩ := h
  refine ⟨_, (pss_cons (ps_if (pt_not (pt_val (pe_callG MI (hr.mono (by decide)) (by rfl) pass0 (pa_cons (pv 0) pa_nil)))) (pss_one ps_never) pss_nil)
    (pss_cons (ps_set (i := 5) scPartMade.nd rfl (.inl rfl) (pe_callG MM (hr.mono (by decide)) (by rfl) pass0 (pa_cons (pv 0) (pa_cons (pv 1) (pa_cons (pv 2) (pa_cons (pv 3) (pa_cons (pv 4) pa_nil)))))))
    (pss_cons (ps_asg (pe_methI FW (pv 5) (hr.mono (by decide)) pass0) (pg_tup (by rfl) (pgs_cons (pg_name (i := 6) scPartMade.nd rfl (.inl rfl)) (pgs_cons (pg_name (i := 7) scPartMade.nd rfl (.inl rfl)) (pgs_cons (pg_name (i := 8) scPartMade.nd rfl (.inl rfl)) pgs_nil)))))
    (pss_cons (ps_if (pt_cmpR op_ne (pe_callB call_len_seq (by rfl) hlen PySem.boot_len (pa_cons (pe_fld (pv 5) rfl) pa_nil)) (pv 6) (nomark _)) (pss_one ps_never) pss_nil)
    (pss_cons (ps_for PassesOwn.never rfl (pi_tup (pe_fld (pv 5) rfl)) (pg_name (i := 9) scPartMade.nd rfl (.inl rfl)) (pss_one (ps_if (pt_not (pt_val (pe_callG MV (hr.mono (by decide)) (by rfl) pass0 (pa_cons (pv 9) pa_nil)))) (pss_one ps_never) pss_nil)))
    (pss_cons (ps_if (PW.pt (pw_or (pt_cmpR op_ne (pe_callB call_len_seq (by rfl) hlen PySem.boot_len (pa_cons (pe_fld (pv 5) rfl) pa_nil)) (pv 7) (nomark _)) (pw_or1 (pt_cmpR op_ne (pe_callB call_len_seq (by rfl) hlen PySem.boot_len (pa_cons (pe_fld (pv 5) rfl) pa_nil)) (pv 8) (nomark _))))) (pss_one ps_never) pss_nil)
    (pss_one (ps_ret (pv 5))))))))), ?_⟩
  refine ⟨_, rfl, p.kd, rfl, fun H1 s1 => ⟨true, rfl, ?_⟩⟩
  refine ⟨_, rfl, _, rfl, _, rfl, _, rfl, _, rfl, p.kd, n, i, o, p.name, p.nums, p.ins, p.outs, rfl, hn.same s1, hi.same s1, ho.same s1, fun H2 x s2 po => ?_⟩
  obtain ⟨dx, tn, ti, to, hx, hn2, hi2, ho2⟩ := id po
  refine ⟨_, rfl, p.kd, x, dx, _, rfl, hx, pf_no (by decide +kernel) (by decide +kernel) (by decide +kernel) (by decide +kernel), x, rfl, fun t ht => ?_⟩
  have s3 := same_new (o := .tup [V.int (p.kd.wants.1 : Nat), V.int (p.kd.wants.2.1 : Nat), V.int (p.kd.wants.2.2 : Nat)]) ht
  refine ⟨t, _, rfl, SqT.of upd_same, rfl, _, _, rfl, _, _, rfl, _, _, rfl, rfl, ?_⟩
  have hx3 := s3 _ _ hx
  have hn3 := s3 _ _ hn2
  have hi3 := s3 _ _ hi2
  have ho3 := s3 _ _ ho2
  have w0 := ok.w
  have w1 : p.kd.wants.1 = p.nums.length := by rw [← w0]
  have w2 : p.kd.wants.2.1 = p.ins.length := by rw [← w0]
  have w3 : p.kd.wants.2.2 = p.outs.length := by rw [← w0]
  refine ⟨_, rfl, x, _, dx, _, _, rfl, hx3, (T.pc p.kd).cl, (T.pc p.kd).n2, pf_numbers, tn, _, rfl, .inr (SqT.of hn3), _, rfl, rfl, _, rfl, ?_⟩
  refine iteNS (by rw [List.length_map, w1]) ?_
  refine ⟨_, rfl, x, _, dx, _, _, rfl, hx3, (T.pc p.kd).cl, (T.pc p.kd).n2, pf_numbers, tn, rfl, ⟨_, SqT.of hn3⟩, ?_⟩
  refine for_tup (K := K) (a := tn) (xs := p.nums.map V.int) (fun j σ H' => ∃ v, σ = [some (.str p.kd.word), some (.str p.name), some (.ref n), some (.ref i), some (.ref o), some (.ref x), some (.int (p.kd.wants.1 : Nat)), some (.int (p.kd.wants.2.1 : Nat)), some (.int (p.kd.wants.2.2 : Nat)), v] ∧ H' = (upd H2 t (.tup [V.int (p.kd.wants.1 : Nat), V.int (p.kd.wants.2.1 : Nat), V.int (p.kd.wants.2.2 : Nat)])))
    ⟨none, rfl, rfl⟩ (by rintro j σ H' _ ⟨v, _, rfl⟩; exact SqT.of hn3) ?_ ?_
  · rintro j v σ H' hj ⟨v', rfl, rfl⟩
    obtain ⟨z, hz, rfl⟩ : ∃ z ∈ p.nums, V.int z = v := by
      rw [List.getElem?_map] at hj
      cases e : p.nums[j]? with
      | none => rw [e] at hj; cases hj
      | some z => rw [e] at hj; exact ⟨z, List.mem_of_getElem? e, Option.some.inj hj⟩
    exact ⟨_, rfl, z, rfl, ok.vals z hz, true, rfl, _, rfl, rfl⟩
  · rintro σ H' ⟨v, rfl, rfl⟩
    refine ⟨_, rfl, x, _, dx, _, _, rfl, hx3, (T.pc p.kd).cl, (T.pc p.kd).n3, pf_ins, ti, _, rfl, .inr (SqT.of hi3), _, rfl, rfl, _, rfl, ?_⟩
    refine iteNS (by rw [List.length_map, w2]) ?_
    refine ⟨_, rfl, x, _, dx, _, _, rfl, hx3, (T.pc p.kd).cl, (T.pc p.kd).n4, pf_outs, to, _, rfl, .inr (SqT.of ho3), _, rfl, rfl, _, rfl, ?_⟩
    refine iteNS (by rw [List.length_map, w3]) ?_
    exact ⟨_, rfl, q _ x (s1.trans (s2.trans s3)) (po.same s3)⟩
def spNeedName : Sp := fun vs H Q _ => ∃ (z : Str) (d : Addr) (kvs : List (Key × V)), vs = [.str z, .ref d] ∧ NameOk z ∧ H d = some (.dK kvs) ∧ valV kvs (Sum.inr z) = none ∧ Q .non H
def spNeedRoom : Sp := fun vs H Q _ => ∃ (l : Ln) (f : Addr), vs = [.str l.name, .int l.room, .ref f] ∧ SeqAt' H f (l.first.map V.int) ∧ LnOk l ∧ Q .non H
theorem scNeedName : FnScope ["name", "known"] ["name", "known"] (defScope sNeedName) := ⟨rfl, rfl, rfl, by decide +kernel, rfl, by decide +kernel, by decide +kernel⟩
theorem ok_needname (G : GF K mg "need_name" sNeedName) (MN : Cal P w K mg base CX0 1 "is_name" ["thing"] spName) : Cal P w K mg base CX0 2 "need_name" ["name", "known"] spNeedName := by
  refine G.cal scNeedName (fun _ _ _ _ _ _ us hl => match us, hl with | [_, _], _ => rfl) (fun vs H Q E h => by obtain ⟨_, _, _, rfl, _⟩ := h; rfl) (fun f cdv A0 outer s H vs Q E hr h => ?_)
  obtain ⟨z, d, kvs, rfl, nk, hd, hv, q⟩ := h
  have hu := hu_of hr
  refine ⟨_, (pss_cons (ps_if (pt_not (pt_val (pe_callG MN (hr.mono (by decide)) (by rfl) pass0 (pa_cons (pv 0) pa_nil)))) (pss_one ps_never) pss_nil)
    (pss_one (ps_if (pt_cmp (pc_din hu (pv 0) (pv 1))) (pss_one ps_never) pss_nil))), ?_⟩
  refine ⟨_, rfl, z, rfl, nk, true, rfl, ?_⟩
  refine ⟨_, rfl, _, rfl, d, _, rfl, DGet.k (k := Sum.inr z) hd, _, rfl, ?_⟩
  rw [hv]
  exact q
theorem scNeedRoom : FnScope ["name", "room", "first", "value"] ["name", "room", "first"] (defScope sNeedRoom) := ⟨rfl, rfl, rfl, by decide +kernel, rfl, by decide +kernel, by decide +kernel⟩
theorem ok_needroom (G : GF K mg "need_room" sNeedRoom) (MW : Cal P w K mg base CX0 1 "is_whole" ["thing"] spWhole) (MV : Cal P w K mg base CX0 2 "is_value" ["thing"] spVal) (hlen : mg "len" = none) (gM : ∃ t, mg "MOST_ROOM" = some (.int 199 t)) :
    Cal P w K mg base CX0 3 "need_room" ["name", "room", "first"] spNeedRoom := by
  obtain ⟨tM, gM⟩ := gM
  refine G.cal scNeedRoom (fun _ _ _ _ _ _ us hl => match us, hl with | [_, _, _], _ => rfl) (fun vs H Q E h => by obtain ⟨_, _, rfl, _⟩ := h; rfl) (fun f cdv A0 outer s H vs Q E hr h => ?_)
  obtain ⟨l, fa, rfl, hf, ok, q⟩ := h
  have c1 := ok.fit
  have c2 := ok.hi
  have c3 := ok.lo
  rcases hf with hf | hf
  · refine ⟨_, (pss_cons (ps_if (PW.pt (pw_or (pt_not (pt_val (pe_callG MW (hr.mono (by decide)) (by rfl) pass0 (pa_cons (pv 1) pa_nil)))) (pw_or (pt_not (pt_chain op_le op_le (pe_callB call_len_seq (by rfl) hlen PySem.boot_len (pa_cons (pv 2) pa_nil)) (pv 1) (pe_glob (v := .int 199) (by rfl) gM ⟨_, rfl⟩))) (pw_or1 (pt_cmpR op_eq (pv 1) pe_int (nomark _)))))) (pss_one ps_never) pss_nil)
    (pss_one (ps_for PassesOwn.never rfl (pi_list (pv 2)) (pg_name (i := 3) scNeedRoom.nd rfl (.inl rfl)) (pss_one (ps_if (pt_not (pt_val (pe_callG MV (hr.mono (by decide)) (by rfl) pass0 (pa_cons (pv 3) pa_nil)))) (pss_one ps_never) pss_nil))))), ?_⟩
    refine ⟨_, rfl, l.room, rfl, true, rfl, ?_⟩
    refine ⟨_, rfl, fa, _, rfl, .inl (SqL.of hf), _, rfl, _, _, rfl, rfl, true, congrArg V.bl (decide_eq_true (show ((l.first.map V.int).length : Int) ≤ l.room by rw [List.length_map]; exact c1)), _, _, rfl, rfl, true, congrArg V.bl (decide_eq_true (show l.room ≤ 199 from c2)), ?_⟩
    refine ⟨_, rfl, rfl,
        _, rfl, ?_⟩
    refine ifF (fun z => ?_) ?_
    · have z' := V.int.inj (of_decide_eq_true z)
      omega
    refine ⟨_, rfl, fa, rfl, ⟨_, SqL.of hf⟩, ?_⟩
    refine for_list (K := K) (a := fa) (xs := l.first.map V.int) (fun j σ H' => ∃ v, σ = [some (.str l.name), some (.int l.room), some (.ref fa), v] ∧ H' = H) ⟨none, rfl, rfl⟩ (by rintro j σ H' _ ⟨v, _, rfl⟩; exact SqL.of hf) ?_ ?_
    · rintro j v σ H' hj ⟨v', rfl, rfl⟩
      obtain ⟨z, hz, rfl⟩ : ∃ z ∈ l.first, V.int z = v := by
        rw [List.getElem?_map] at hj
        cases e : l.first[j]? with
        | none => rw [e] at hj; cases hj
        | some z => rw [e] at hj; exact ⟨z, List.mem_of_getElem? e, Option.some.inj hj⟩
      exact ⟨_, rfl, z, rfl, ok.vals z hz, true, rfl, _, rfl, rfl⟩
    · rintro σ H' ⟨v, rfl, rfl⟩
      exact q
  · refine ⟨_, (pss_cons (ps_if (PW.pt (pw_or (pt_not (pt_val (pe_callG MW (hr.mono (by decide)) (by rfl) pass0 (pa_cons (pv 1) pa_nil)))) (pw_or (pt_not (pt_chain op_le op_le (pe_callB call_len_seq (by rfl) hlen PySem.boot_len (pa_cons (pv 2) pa_nil)) (pv 1) (pe_glob (v := .int 199) (by rfl) gM ⟨_, rfl⟩))) (pw_or1 (pt_cmpR op_eq (pv 1) pe_int (nomark _)))))) (pss_one ps_never) pss_nil)
    (pss_one (ps_for PassesOwn.never rfl (pi_tup (pv 2)) (pg_name (i := 3) scNeedRoom.nd rfl (.inl rfl)) (pss_one (ps_if (pt_not (pt_val (pe_callG MV (hr.mono (by decide)) (by rfl) pass0 (pa_cons (pv 3) pa_nil)))) (pss_one ps_never) pss_nil))))), ?_⟩
    refine ⟨_, rfl, l.room, rfl, true, rfl, ?_⟩
    refine ⟨_, rfl, fa, _, rfl, .inr (SqT.of hf), _, rfl, _, _, rfl, rfl, true, congrArg V.bl (decide_eq_true (show ((l.first.map V.int).length : Int) ≤ l.room by rw [List.length_map]; exact c1)), _, _, rfl, rfl, true, congrArg V.bl (decide_eq_true (show l.room ≤ 199 from c2)), ?_⟩
    refine ⟨_, rfl, rfl,
        _, rfl, ?_⟩
    refine ifF (fun z => ?_) ?_
    · have z' := V.int.inj (of_decide_eq_true z)
      omega
    refine ⟨_, rfl, fa, rfl, ⟨_, SqT.of hf⟩, ?_⟩
    refine for_tup (K := K) (a := fa) (xs := l.first.map V.int) (fun j σ H' => ∃ v, σ = [some (.str l.name), some (.int l.room), some (.ref fa), v] ∧ H' = H) ⟨none, rfl, rfl⟩ (by rintro j σ H' _ ⟨v, _, rfl⟩; exact SqT.of hf) ?_ ?_
    · rintro j v σ H' hj ⟨v', rfl, rfl⟩
      obtain ⟨z, hz, rfl⟩ : ∃ z ∈ l.first, V.int z = v := by
        rw [List.getElem?_map] at hj
        cases e : l.first[j]? with
        | none => rw [e] at hj; cases hj
        | some z => rw [e] at hj; exact ⟨z, List.mem_of_getElem? e, Option.some.inj hj⟩
      exact ⟨_, rfl, z, rfl, ok.vals z hz, true, rfl, _, rfl, rfl⟩
    · rintro σ H' ⟨v, rfl, rfl⟩
      exact q
end
end K21
/-! how a net stands in the heap -/
namespace K21
open PySem PySem.Spec PyProof.Rows L2 TL
def AllB {α β : Type} (R : α → β → Prop) (vs : List α) (ls : List β) : Prop := vs.length = ls.length ∧ ∀ (i : Nat) (v : α) (l : β), vs[i]? = some v → ls[i]? = some l → R v l
theorem AllB.nil {α β : Type} {R : α → β → Prop} : AllB R [] [] := ⟨rfl, fun i v l h => by simp at h⟩
theorem AllB.imp {α β : Type} {R R' : α → β → Prop} {vs : List α} {ls : List β} (h : AllB R vs ls) (k : ∀ v l, R v l → R' v l) : AllB R' vs ls := ⟨h.1, fun i v l a b => k v l (h.2 i v l a b)⟩
theorem AllB.snoc {α β : Type} {R : α → β → Prop} {vs : List α} {ls : List β} {v : α} {l : β} (h : AllB R vs ls) (r : R v l) : AllB R (vs ++ [v]) (ls ++ [l]) := by
  refine ⟨by rw [List.length_append, List.length_append, h.1]; rfl, fun i x y a b => ?_⟩
  by_cases hi : i < vs.length
  · rw [List.getElem?_append_left hi] at a
    rw [List.getElem?_append_left (by rw [← h.1]; exact hi)] at b
    exact h.2 i x y a b
  · rw [List.getElem?_append_right (by omega)] at a
    rw [List.getElem?_append_right (by rw [← h.1]; omega)] at b
    have hz : i - vs.length = 0 := by
      cases q : i - vs.length with
      | zero => rfl
      | succ k => rw [q] at a; simp at a
    rw [hz] at a
    rw [← h.1, hz] at b
    have e1 : v = x := by simpa using a
    have e2 : l = y := by simpa using b
    rw [← e1, ← e2]; exact r
theorem AllB.get {α β : Type} {R : α → β → Prop} {vs : List α} {ls : List β} (h : AllB R vs ls) {i : Nat} {v : α} (e : vs[i]? = some v) : ∃ l, ls[i]? = some l ∧ R v l := by
  have hi : i < vs.length := (List.getElem?_eq_some_iff.mp e).1
  have hj : i < ls.length := by rw [← h.1]; exact hi
  exact ⟨ls[i], List.getElem?_eq_getElem hj, h.2 i v _ e (List.getElem?_eq_getElem hj)⟩
theorem AllB.of {α β : Type} {R : α → β → Prop} {vs : List α} {ls : List β} (h : AllB R vs ls) {i : Nat} {l : β} (e : ls[i]? = some l) : ∃ v, vs[i]? = some v ∧ R v l := by
  have hj : i < ls.length := (List.getElem?_eq_some_iff.mp e).1
  have hi : i < vs.length := by rw [h.1]; exact hj
  exact ⟨vs[i], List.getElem?_eq_getElem hi, h.2 i _ l (List.getElem?_eq_getElem hi) e⟩
/-! ### dicts by their pairs -/
theorem valV_none {kvs : List (Key × V)} {k : Key} (h : ∀ p ∈ kvs, p.1 ≠ k) : valV kvs k = none := by
  unfold valV
  have e : kvs.find? (fun kv => decide (kv.1 = k)) = none := List.find?_eq_none.mpr fun p hp => by simpa using h p hp
  rw [e]; rfl
theorem valV_none_iff {kvs : List (Key × V)} {k : Key} : valV kvs k = none ↔ k ∉ kvs.map (·.1) := by
  constructor
  · intro h hm
    obtain ⟨p, hp, e⟩ :=
        List.mem_map.mp hm
    unfold valV at h
    cases q : kvs.find? (fun kv => decide (kv.1 = k)) with
    | none => exact absurd (decide_eq_true e) (List.find?_eq_none.mp q p hp)
    | some z => rw [q] at h; cases h
  · intro h
    exact valV_none fun p hp e => h (List.mem_map.mpr ⟨p, hp, e⟩)
theorem valV_mem {k : Key} {v : V} : ∀ {kvs : List (Key × V)}, (kvs.map (·.1)).Nodup → (k, v) ∈ kvs → valV kvs k = some v
  | [], _, h => by cases h
  | p :: r, nd, h => by
    rw [List.map_cons,
        List.nodup_cons] at nd
    rcases List.mem_cons.mp
        h with e | h
    · rw [← e]; exact valV_pos rfl
    · by_cases e : p.1 = k
      · exact absurd (List.mem_map.mpr ⟨(k, v), h, rfl⟩) (e ▸ nd.1)
      · rw [valV_neg e]
        exact valV_mem nd.2 h
theorem valV_some_iff {kvs : List (Key × V)} {k : Key} : (valV kvs k).isSome = true ↔ k ∈ kvs.map (·.1) := by
  cases e : valV kvs k with
  | none => simpa using valV_none_iff.mp e
  | some v =>
    have h : ¬ valV kvs k = none := by rw [e]; exact fun z => by cases z
    have z := fun q => h (valV_none_iff.mpr q)
    simpa using Classical.byContradiction z
theorem inr_inj {a b : Str} : (Sum.inr a : Key) = Sum.inr b ↔ a = b := ⟨fun h => Sum.inr.inj h, fun h => by rw [h]⟩
theorem DGet.some_ {H : Hp} {a : Addr} {kvs : List (Key × V)} {k : Key} {v : V} (e : H a = some (.dK kvs)) (h : valV kvs k = some v) : DGet H a (kV k) (some v) := by
  have z := DGet.k (k := k) e
  rw [h] at z
  exact z
/-- a locked dict is read alike -/
theorem DGet.frz {H : Hp} {a : Addr} {o : Obj} {kvs : List (Key × V)} {k : Key} (e : H a = some (.frz o (.dK kvs))) : DGet H a (kV k) (valV kvs k) := .inl ⟨kvs, k, .inr ⟨o, e⟩, rfl, rfl⟩
theorem DGet.frzS {H : Hp} {a : Addr} {o : Obj} {kvs : List (Key × V)} {k : Key} {v : V} (e : H a = some (.frz o (.dK kvs))) (h : valV kvs k = some v) : DGet H a (kV k) (some v) := by
  have z := DGet.frz (k := k) e
  rw [h] at z
  exact z
/-! ### the pairs of a net's dicts -/
def roomsK (ls : List Ln) : List (Key × V) := ls.map fun l => (Sum.inr l.name, V.int l.room)
def endsK (sel : Pt → List Str) (ps : List Pt) : List (Key × V) := ps.flatMap fun p => (sel p).map fun l => (Sum.inr l, V.str p.name)
theorem roomsK_keys (ls : List Ln) : (roomsK ls).map (·.1) = (nms ls).map Sum.inr := by
  unfold roomsK nms
  rw [List.map_map, List.map_map]; rfl
theorem endsK_keys (sel : Pt → List Str) : ∀ ps : List Pt, (endsK sel ps).map (·.1) = (ps.flatMap sel).map Sum.inr
  | [] => rfl
  | p :: r => by
    have ih := endsK_keys sel r
    unfold endsK at ih ⊢
    rw [List.flatMap_cons, List.map_append, ih, List.flatMap_cons, List.map_append, List.map_map]
    rfl
theorem endsK_snoc (sel : Pt → List Str) (ps : List Pt) (q : Pt) : endsK sel (ps ++ [q]) = endsK sel ps ++ (sel q).map fun l => (Sum.inr l, V.str q.name) := by
  unfold endsK
  rw [List.flatMap_append]
  simp
theorem mem_endsK {sel : Pt → List Str} {ps : List Pt} {p : Pt} {l : Str} (hp : p ∈ ps) (hl : l ∈ sel p) : ((Sum.inr l, V.str p.name) : Key × V) ∈ endsK sel ps :=
  List.mem_flatMap.mpr ⟨p, hp, List.mem_map.mpr ⟨l, hl, rfl⟩⟩
theorem nd_inr {l : List Str} (h : l.Nodup) : (l.map (Sum.inr : Str → Key)).Nodup := by
  rw [List.nodup_iff_pairwise_ne] at h ⊢
  rw [List.pairwise_map]
  exact h.imp fun e z => e (Sum.inr.inj z)
theorem mem_inr {l : List Str} {a : Str} : (Sum.inr a : Key) ∈ l.map Sum.inr ↔ a ∈ l := by
  constructor
  · intro h
    obtain ⟨b, hb, e⟩ := List.mem_map.mp h
    rw [← Sum.inr.inj e]; exact hb
  · intro h; exact List.mem_map.mpr ⟨a, h, rfl⟩
theorem ends_val {sel : Pt → List Str} {ps : List Pt} (nd : (ps.flatMap sel).Nodup) {p : Pt} {l : Str} (hp : p ∈ ps) (hl : l ∈ sel p) : valV (endsK sel ps) (Sum.inr l) = some (.str p.name) :=
  valV_mem (by rw [endsK_keys]; exact nd_inr nd) (mem_endsK hp hl)
theorem rooms_val {ls : List Ln} (nd : (nms ls).Nodup) {l : Ln} (hl : l ∈ ls) : valV (roomsK ls) (Sum.inr l.name) = some (.int l.room) :=
  valV_mem (by rw [roomsK_keys]; exact nd_inr nd) (List.mem_map.mpr ⟨l, hl, rfl⟩)
/-! ### the object -/
def nflds (r f g t m : Addr) : List (Str × V) := [("rooms", .ref r), ("firsts", .ref f), ("givers", .ref g), ("takers", .ref t), ("members", .ref m)]
theorem n12 : ¬ (("rooms" : Str) = "firsts") := by decide +kernel
theorem n13 : ¬ (("rooms" : Str) = "givers") := by decide +kernel
theorem n14 : ¬ (("rooms" : Str) = "takers") := by decide +kernel
theorem n15 : ¬ (("rooms" : Str) = "members") := by decide +kernel
theorem n23 : ¬ (("firsts" : Str) = "givers") := by decide +kernel
theorem n24 : ¬ (("firsts" : Str) = "takers") := by decide +kernel
theorem n25 : ¬ (("firsts" : Str) = "members") := by decide +kernel
theorem n34 : ¬ (("givers" : Str) = "takers") := by decide +kernel
theorem n35 : ¬ (("givers" : Str) = "members") := by decide +kernel
theorem n45 : ¬ (("takers" : Str) = "members") := by decide +kernel
theorem nf_rooms {r f g t m : Addr} : (nflds r f g t m).lookup ("rooms" : Str) = some (.ref r) := lookup_hit
theorem nf_firsts {r f g t m : Addr} : (nflds r f g t m).lookup ("firsts" : Str) = some (.ref f) := by
  unfold nflds
  rw [lookup_miss (fun e => n12 e.symm), lookup_hit]
theorem nf_givers {r f g t m : Addr} : (nflds r f g t m).lookup ("givers" : Str) = some (.ref g) := by
  unfold nflds
  rw [lookup_miss (fun e => n13 e.symm), lookup_miss (fun e => n23 e.symm), lookup_hit]
theorem nf_takers {r f g t m : Addr} : (nflds r f g t m).lookup ("takers" : Str) = some (.ref t) := by
  unfold nflds
  rw [lookup_miss (fun e => n14 e.symm), lookup_miss (fun e => n24 e.symm), lookup_miss (fun e => n34 e.symm), lookup_hit]
theorem nf_members {r f g t m : Addr} : (nflds r f g t m).lookup ("members" : Str) = some (.ref m) := by
  unfold nflds
  rw [lookup_miss (fun e => n15 e.symm), lookup_miss (fun e => n25 e.symm), lookup_miss (fun e => n35 e.symm), lookup_miss (fun e => n45 e.symm), lookup_hit]
theorem nf_no {r f g t m : Addr} {x : Str} (h1 : ¬ x = "rooms") (h2 : ¬ x = "firsts") (h3 : ¬ x = "givers") (h4 : ¬ x = "takers") (h5 : ¬ x = "members") : (nflds r f g t m).lookup x = none := by
  unfold nflds
  rw [lookup_miss h1, lookup_miss h2, lookup_miss h3, lookup_miss h4, lookup_miss h5]
  rfl
/-- what the top tells of the class Net -/
structure NCls (K : PySem.W.Frag) (mg : Str → Option Value) (C : Addr) : Prop where
  cl : Cls K C
  n1 : NoAttr K C "rooms"
  n2 : NoAttr K C "firsts"
  n3 : NoAttr K C "givers"
  n4 : NoAttr K C "takers"
  n5 : NoAttr K C "members"
  mkr : KF K mg "Net" C "Net.__init__" (inClass (top 42) 0)
/-- a net being built: its dicts -/
structure NB (H : Hp) (CN n r f g t m : Addr) (kr kf kg kt km : List (Key × V)) : Prop where
  ob : ∃ dx, H n = some (.ins CN dx (nflds r f g t m))
  hr : H r = some (.dK kr)
  hf : H f = some (.dK kf)
  hg : H g = some (.dK kg)
  ht : H t = some (.dK kt)
  hm : H m = some (.dK km)
  nd : r ≠ f ∧ r ≠ g ∧ r ≠ t ∧ r ≠ m ∧ f ≠ g ∧ f ≠ t ∧ f ≠ m ∧ g ≠ t ∧ g ≠ m ∧ t ≠ m
theorem NB.same {H H' : Hp} {CN n r f g t m : Addr} {kr kf kg kt km : List (Key × V)} (h : NB H CN n r f g t m kr kf kg kt km) (s : Same H H') : NB H' CN n r f g t m kr kf kg kt km := by
  obtain ⟨dx, e⟩ := h.ob
  exact ⟨⟨dx, s _ _ e⟩, s _ _ h.hr, s _ _ h.hf, s _ _ h.hg, s _ _ h.ht, s _ _ h.hm, h.nd⟩
def FirstAt (H : Hp) (kv : Key × V) (l : Ln) : Prop := kv.1 = Sum.inr l.name ∧ ∃ t : Addr, kv.2 = .ref t ∧ H t = some (.tup (l.first.map V.int))
def MemAt (kA : Kd → Addr) (H : Hp) (kv : Key × V) (p : Pt) : Prop := kv.1 = Sum.inr p.name ∧ ∃ x : Addr, kv.2 = .ref x ∧ PObj H (kA p.kd) x p.name p.nums p.ins p.outs
theorem FirstAt.same {H H' : Hp} {kv : Key × V} {l : Ln} (h : FirstAt H kv l) (s : Same H H') : FirstAt H' kv l := ⟨h.1, h.2.elim fun t e => ⟨t, e.1, s _ _ e.2⟩⟩
theorem MemAt.same {kA : Kd → Addr} {H H' : Hp} {kv : Key × V} {p : Pt} (h : MemAt kA H kv p) (s : Same H H') : MemAt kA H' kv p := ⟨h.1, h.2.elim fun x e => ⟨x, e.1, e.2.same s⟩⟩
theorem keysF {H : Hp} {kf : List (Key × V)} {ls : List Ln} (h : AllB (FirstAt H) kf ls) : kf.map (·.1) = (nms ls).map Sum.inr := by
  refine List.ext_getElem? fun i => ?_
  rw [List.getElem?_map, List.getElem?_map, List.getElem?_map]
  cases e : ls[i]? with
  | none =>
    have : kf[i]? = none := List.getElem?_eq_none_iff.mpr (by rw [h.1]; exact List.getElem?_eq_none_iff.mp e)
    rw [this]; rfl
  | some l =>
    obtain ⟨v, hv, r⟩ := h.of e
    rw [hv]
    exact congrArg some r.1
theorem keysM {kA : Kd → Addr} {H : Hp} {km : List (Key × V)} {ps : List Pt} (h : AllB (MemAt kA H) km ps) : km.map (·.1) = (ps.map (fun p : Pt => p.name)).map Sum.inr := by
  refine List.ext_getElem? fun i => ?_
  rw [List.getElem?_map, List.getElem?_map, List.getElem?_map]
  cases e : ps[i]? with
  | none =>
    have : km[i]? = none := List.getElem?_eq_none_iff.mpr (by rw [h.1]; exact List.getElem?_eq_none_iff.mp e)
    rw [this]; rfl
  | some l =>
    obtain ⟨v, hv, r⟩ := h.of e
    rw [hv]
    exact congrArg some r.1
/-- a net -/
structure NetAt (kA : Kd → Addr) (CN : Addr) (H : Hp) (n : Addr) (lanes : List Ln) (parts : List Pt) : Prop where
  ex : ∃ r f g t m kf km, NB H CN n r f g t m (roomsK lanes) kf (endsK (fun p => p.outs) parts) (endsK (fun p => p.ins) parts) km ∧ AllB (FirstAt H) kf lanes ∧ AllB (MemAt kA H) km parts
theorem NetAt.same {kA : Kd → Addr} {CN : Addr} {H H' : Hp} {n : Addr} {lanes : List Ln} {parts : List Pt} (h : NetAt kA CN H n lanes parts) (s : Same H H') : NetAt kA CN H' n lanes parts := by
  obtain ⟨r, f, g, t, m, kf, km, h1, h2, h3⟩ := h.ex
  exact ⟨r, f, g, t, m, kf, km, h1.same s, h2.imp fun v l z => z.same s, h3.imp fun v l z => z.same s⟩
end K21
/-! the program: a part is put in -/
namespace K21
open PySem PySem.Spec PyProof.Rows L2 TL
abbrev sPutIn : Stmt := inClass (top 42) 1
abbrev sLayHold : Stmt := inClass (top 42) 2
/-- all but dicts is kept -/
def KeepND (H H' : Hp) : Prop := ∀ b o, (∀ k, o ≠ .dK k) → H b = some o → H' b = some o
theorem KeepND.of {H H' : Hp} (s : Same H H') : KeepND H H' := fun b o _ e => s b o e
theorem KeepND.trans {H H1 H2 : Hp} (a : KeepND H H1) (b : KeepND H1 H2) : KeepND H H2 := fun c o n e => b c o n (a c o n e)
theorem KeepND.upd {H : Hp} {d : Addr} {kd kd' : List (Key × V)} (h : H d = some (.dK kd)) : KeepND H (upd H d (.dK kd')) := fun b o n e => by
  have nb : b ≠ d := fun z => by rw [z, h] at e; injection e with e; exact n kd e.symm
  rw [upd_ne nb]; exact e
theorem PObj.nd {H H' : Hp} {C x : Addr} {nm : Str} {nums : List Int} {ins outs : List Str} (h : PObj H C x nm nums ins outs) (s : KeepND H H') : PObj H' C x nm nums ins outs := by
  obtain ⟨dx, n, i, o, h1, h2, h3, h4⟩ := h
  exact ⟨dx, n, i, o, s _ _ (fun k e => by cases e) h1, s _ _ (fun k e => by cases e) h2, s _ _ (fun k e => by cases e) h3, s _ _ (fun k e => by cases e) h4⟩
theorem SeqAt'.nd {H H' : Hp} {a : Addr} {xs : List V} (h : SeqAt' H a xs) (s : KeepND H H') : SeqAt' H' a xs := h.imp (s _ _ (fun k e => by cases e)) (s _ _ (fun k e => by cases e))
def endK (nm : Str) (ls : List Str) : List (Key × V) := ls.map fun l => (Sum.inr l, V.str nm)
theorem endK_keys (nm : Str) (ls : List Str) : (endK nm ls).map (·.1) = ls.map Sum.inr := by unfold endK; rw [List.map_map]; rfl
theorem valV_app_none {a b : List (Key × V)} {k : Key} (h1 : valV a k = none) (h2 : valV b k = none) : valV (a ++ b) k = none := by
  rw [valV_none_iff] at h1 h2 ⊢
  rw [List.map_append, List.mem_append]
  exact fun z => z.elim h1 h2
def spLayHold (CN : Addr) : Sp := fun vs H Q _ => ∃ (n dx r f g t m tu d : Addr) (nm : Str) (ls : List Str) (kr kd : List (Key × V)), vs = [.ref n, .str nm, .ref tu, .ref d] ∧ H n = some (.ins CN dx (nflds r f g t m)) ∧ H r = some (.dK kr) ∧ H tu = some (.tup (ls.map V.str)) ∧ H d = some (.dK kd) ∧ r ≠ d ∧
  (∀ l ∈ ls, (valV kr (Sum.inr l)).isSome = true) ∧ ls.Nodup ∧ (∀ l ∈ ls, valV kd (Sum.inr l) = none) ∧ kd.length + ls.length ≤ 900 ∧
  ∀ H', (∀ b, b ≠ d → H' b = H b) → H' d = some (.dK (kd ++ endK nm ls)) → Q .non H'
def spPutIn (kA : Kd → Addr) (CN : Addr) : Sp := fun vs H Q _ => ∃ (q : Pt) (n r f g t m na ia oa : Addr) (kr kf kg kt km : List (Key × V)), vs = [.ref n, .str q.kd.word, .str q.name, .ref na, .ref ia, .ref oa] ∧ NB H CN n r f g t m kr kf kg kt km ∧
  SeqAt' H na (q.nums.map V.int) ∧ SeqAt' H ia (q.ins.map V.str) ∧ SeqAt' H oa (q.outs.map V.str) ∧ NameOk q.name ∧ PtOk q ∧ valV km (Sum.inr q.name) = none ∧ (∀ l ∈ q.ins, (valV kr (Sum.inr l)).isSome = true) ∧ (∀ l ∈ q.outs, (valV kr (Sum.inr l)).isSome = true) ∧
  q.ins.Nodup ∧ q.outs.Nodup ∧ (∀ l ∈ q.ins, valV kt (Sum.inr l) = none) ∧ (∀ l ∈ q.outs, valV kg (Sum.inr l) = none) ∧ kt.length ≤ 500 ∧ kg.length ≤ 500 ∧ km.length ≤ 500 ∧
  ∀ (H' : Hp) (x : Addr), (∀ b o, H b = some o → b ≠ g → b ≠ t → b ≠ m → H' b = some o) → KeepND H H' → NB H' CN n r f g t m kr kf (kg ++ endK q.name q.outs) (kt ++ endK q.name q.ins) (km ++ [(Sum.inr q.name, .ref x)]) → PObj H' (kA q.kd) x q.name q.nums q.ins q.outs → Q .non H'
section
variable {P : Program} {w : World} {K : PySem.W.Frag} {mg : Str → Option Value} {base : Heap} {kA : Kd → Addr} {CN : Addr}
theorem scLayHold : FnScope ["self", "name", "lanes", "ends", "lane"] ["self", "name", "lanes", "ends"] (defScope sLayHold) := ⟨rfl, rfl, rfl, by decide +kernel, rfl, by decide +kernel, by decide +kernel⟩
theorem ok_layhold (G : MF K CN "lay_hold" "Net.lay_hold" sLayHold) (T : NCls K mg CN) : MCal P w K mg base CX0 CN 1 "lay_hold" ["self", "name", "lanes", "ends"] (spLayHold CN) := by
  refine G.cal scLayHold (fun _ _ _ _ _ _ us hl => match us, hl with | [_, _, _, _], _ => rfl) (fun vs H Q E h => by obtain ⟨_, _, _, _, _, _, _, _, _, _, _, _, _, rfl, _⟩ := h; rfl) (fun fa cdv A0 outer s H vs Q E hr h => ?_)
  obtain ⟨n, dx, r, f, g, t, m, tu, d, nm, ls, kr, kd, rfl, hn, hrr, htu, hd, rd, hin, nd, hno, hsz, q⟩ := h
  have hu := hu_of hr
  refine ⟨_, (pss_one (ps_for PassesOwn.never rfl (pi_tup (pv 2)) (pg_name (i := 4) scLayHold.nd rfl (.inl rfl)) (pss_cons (ps_if (PW.pt (pw_or (pt_cmp (pc_dnotin hu (pv 4) (pe_fld (pv 0) rfl))) (pw_or1 (pt_cmp (pc_din hu (pv 4) (pv 3)))))) (pss_one ps_never) pss_nil)
    (pss_one (ps_dput hu (pv 3) (pv 4) (pv 1) rfl))))), ?_⟩
  have nnd : n ≠ d := fun e => by rw [e, hd] at hn; cases hn
  have tnd : tu ≠ d := fun e => by rw [e, hd] at htu; cases htu
  refine ⟨_, rfl, tu, rfl, ⟨_, SqT.of htu⟩, ?_⟩
  refine for_tup (K := K) (a := tu) (xs := ls.map V.str) (fun i σ H' => ∃ v, σ = [some (.ref n), some (.str nm), some (.ref tu), some (.ref d), v] ∧ (∀ b, b ≠ d → H' b = H b) ∧ H' d = some (.dK (kd ++ endK nm (ls.take i))))
    ⟨none, rfl, fun _ _ => rfl, by rw [hd]; simp [endK]⟩ (by rintro i σ H' _ ⟨v, _, h1, _⟩; exact SqT.of (by rw [h1 tu tnd]; exact htu)) ?_ ?_
  · rintro i x σ H' hx ⟨v, rfl, h1, h2⟩
    have hil : i < ls.length := by
      have z := (List.getElem?_eq_some_iff.mp hx).1
      rw [List.length_map] at z; exact z
    rw [List.getElem?_map, List.getElem?_eq_getElem hil] at hx
    obtain rfl : V.str ls[i] = x := by simpa using hx
    have hl : ls[i] ∈ ls := List.getElem_mem hil
    have hn' : H' n = some (.ins CN dx (nflds r f g t m)) := by rw [h1 n nnd]; exact hn
    have hr' : H' r = some (.dK kr) := by rw [h1 r rd]; exact hrr
    have nt : ls[i] ∉ ls.take i := fun z => by
      obtain ⟨j, hj, e⟩ := List.mem_iff_getElem.mp z
      rw [List.length_take] at hj
      rw [List.getElem_take] at e
      have := (List.getElem_inj nd).mp e
      omega
    have hv : valV (kd ++ endK nm (ls.take i)) (Sum.inr ls[i]) = none := valV_app_none (hno _ hl) (valV_none_iff.mpr (by rw [endK_keys, mem_inr]; exact nt))
    refine ⟨_, rfl, _, rfl, n, CN, dx, _, _, rfl, hn', T.cl, T.n1, nf_rooms, r, _, rfl, DGet.k (k := Sum.inr ls[i]) hr', _, rfl, ?_⟩
    rw [hin _ hl]
    refine ⟨_, rfl, _, rfl, d, _, rfl, DGet.k (k := Sum.inr ls[i]) h2, _, rfl, ?_⟩
    rw [hv]
    refine ⟨_, rfl, _, rfl, _, rfl, d, _, rfl, DPut.k (k := Sum.inr ls[i]) h2 (small1000 ?_), ?_⟩
    · rw [List.length_append]; unfold endK; rw [List.length_map, List.length_take]; omega
    · refine ⟨_, rfl, fun b hb => by rw [upd_ne hb]; exact h1 b hb, ?_⟩
      rw [upd_same, putK_new _ hv, List.append_assoc]
      have e : endK nm (ls.take (i + 1)) = endK nm (ls.take i) ++ [(Sum.inr ls[i], V.str nm)] := by
        unfold endK
        rw [List.take_succ, List.getElem?_eq_getElem hil, List.map_append]
        rfl
      rw [e]
  · rintro σ H' ⟨v, rfl, h1, h2⟩
    rw [List.length_map, List.take_length] at h2
    exact q H' h1 h2
theorem scPutIn : FnScope ["self", "kind", "name", "numbers", "ins", "outs", "one"] ["self", "kind", "name", "numbers", "ins", "outs"] (defScope sPutIn) := ⟨rfl, rfl, rfl, by decide +kernel, rfl, by decide +kernel, by decide +kernel⟩
theorem ok_putin (G : MF K CN "put_in" "Net.put_in" sPutIn) (T : NCls K mg CN) (TK : KFacts K mg kA) (MI : Cal P w K mg base CX0 1 "is_kind" ["word"] spIsKind) (MN : Cal P w K mg base CX0 2 "need_name" ["name", "known"] spNeedName)
    (MP : Cal P w K mg base CX0 4 "part_made" ["kind", "name", "numbers", "ins", "outs"] (spPartMade kA)) (ML : MCal P w K mg base CX0 CN 1 "lay_hold" ["self", "name", "lanes", "ends"] (spLayHold CN)) :
    MCal P w K mg base CX0 CN 5 "put_in" ["self", "kind", "name", "numbers", "ins", "outs"] (spPutIn kA CN) := by
  refine G.cal scPutIn (fun _ _ _ _ _ _ us hl => match us, hl with | [_, _, _, _, _, _], _ => rfl) (fun vs H Q E h => by obtain ⟨_, _, _, _, _, _, _, _, _, _, _, _, _, _, _, rfl, _⟩ := h; rfl) (fun fa cdv A0 outer s H vs Q E hr h => ?_)
  obtain ⟨p, n, r, f, g, t, m, na, ia, oa, kr, kf, kg, kt, km, rfl, B, hna, hia, hoa, nk, ok, hnm, hin, hout, ndi, ndo, hti, hgo, z1, z2, z3, q⟩ := h
  have hu := hu_of hr
  refine ⟨_, (pss_cons (ps_if (pt_not (pt_val (pe_callG MI (hr.mono (by decide)) (by rfl) pass0 (pa_cons (pv 1) pa_nil)))) (pss_one ps_never) pss_nil)
    (pss_cons (ps_expr (pe_callG MN (hr.mono (by decide)) (by rfl) pass0 (pa_cons (pv 2) (pa_cons (pe_fld (pv 0) rfl) pa_nil))))
    (pss_cons (ps_set (i := 6) scPutIn.nd rfl (.inl rfl) (pe_callG MP (hr.mono (by decide)) (by rfl) pass0 (pa_cons (pv 1) (pa_cons (pv 2) (pa_cons (pv 3) (pa_cons (pv 4) (pa_cons (pv 5) pa_nil)))))))
    (pss_cons (ps_expr (pe_methG ML (pv 0) T.cl (hr.mono (by decide)) pass0 (pa_cons (pv 2) (pa_cons (pe_fld (pv 6) rfl) (pa_cons (pe_fld (pv 0) rfl) pa_nil)))))
    (pss_cons (ps_expr (pe_methG ML (pv 0) T.cl (hr.mono (by decide)) pass0 (pa_cons (pv 2) (pa_cons (pe_fld (pv 6) rfl) (pa_cons (pe_fld (pv 0) rfl) pa_nil)))))
    (pss_one (ps_dput hu (pe_fld (pv 0) rfl) (pv 2) (pv 6) rfl))))))), ?_⟩
  obtain ⟨r1, r2, r3, r4, r5, r6, r7, r8, r9, r10⟩ := B.nd
  have wl := wants_small p.kd
  rw [← ok.w] at wl
  have wl2 : p.ins.length ≤ 3 := wl.2.1
  have wl3 : p.outs.length ≤ 2 := wl.2.2
  refine ⟨_, rfl, p.kd, rfl, fun H1 s1 => ⟨true, rfl, ?_⟩⟩
  have B1 := B.same s1
  obtain ⟨dx, hn1⟩ := B1.ob
  refine ⟨_, rfl, _, rfl, n, CN, dx, _, _, rfl, hn1, T.cl, T.n5, nf_members, p.name, m, km, rfl, nk, B1.hm, hnm, ?_⟩
  refine ⟨_, rfl, _, rfl, _, rfl, _, rfl, _, rfl, p, na, ia, oa, rfl, hna.same s1, hia.same s1, hoa.same s1, ok, fun H2 x s2 po => ?_⟩
  have B2 := B1.same s2
  obtain ⟨dx2, hn2⟩ := B2.ob
  obtain ⟨dy, tn, ti, to, hx, htn, hti2, hto⟩ := id po
  -- takers
  refine ⟨_, rfl, n, dx2, _, rfl, hn2, nf_no (by decide +kernel) (by decide +kernel) (by decide +kernel) (by decide +kernel) (by decide +kernel), _, rfl, _, rfl, x, _, dy, _, _, rfl, hx, (TK.pc p.kd).cl, (TK.pc p.kd).n3, pf_ins, _, rfl, n, CN, dx2, _, _, rfl, hn2, T.cl, T.n4, nf_takers, ?_⟩
  refine ⟨n, dx2, r, f, g, t, m, ti, t, p.name, p.ins, kr, kt, rfl, hn2, B2.hr, hti2, B2.ht, r3, hin, ndi, hti, by omega, fun H3 k3 h3 => ?_⟩
  have nd3 : KeepND H2 H3 := fun b o no e => by
    have nb : b ≠ t := fun z => by rw [z, B2.ht] at e; injection e with e; exact no _ e.symm
    rw [k3 b nb]; exact e
  have hn3 := nd3 _ _ (fun k e => by cases e) hn2
  have po3 := po.nd nd3
  obtain ⟨dy3, tn3, ti3, to3, hx3, htn3, hti3, hto3⟩ := id po3
  -- givers
  refine ⟨_, rfl, n, dx2, _, rfl, hn3, nf_no (by decide +kernel) (by decide +kernel) (by decide +kernel) (by decide +kernel) (by decide +kernel), _, rfl, _, rfl, x, _, dy3, _, _, rfl, hx3, (TK.pc p.kd).cl, (TK.pc p.kd).n4, pf_outs, _, rfl, n, CN, dx2, _, _, rfl, hn3, T.cl, T.n3, nf_givers, ?_⟩
  have hg3 : H3 g = some (.dK kg) := by rw [k3 g r8]; exact B2.hg
  refine ⟨n, dx2, r, f, g, t, m, to3, g, p.name, p.outs, kr, kg, rfl, hn3, by rw [k3 r r3]; exact B2.hr, hto3, hg3, r2, hout, ndo, hgo, by omega, fun H4 k4 h4 => ?_⟩
  have nd4 : KeepND H3 H4 := fun b o no e => by
    have nb : b ≠ g := fun z => by rw [z, hg3] at e; injection e with e; exact no _ e.symm
    rw [k4 b nb]; exact e
  have hn4 := nd4 _ _ (fun k e => by cases e) hn3
  have hm4 : H4 m = some (.dK km) := by rw [k4 m r9.symm, k3 m r10.symm]; exact B2.hm
  -- members
  refine ⟨_, rfl, _, rfl, n, CN, dx2, _, _, rfl, hn4, T.cl, T.n5, nf_members, _, rfl, m, _, rfl, DPut.k (k := Sum.inr p.name) hm4 (small1000 (by omega)), ?_⟩
  rw [putK_new _ hnm]
  have nd5 := nd3.trans (nd4.trans (KeepND.upd (kd' := km ++ [(Sum.inr p.name, V.ref x)]) hm4))
  refine q _ x (fun b o e b1 b2 b3 => ?_) ((KeepND.of (s1.trans s2)).trans nd5) ⟨⟨dx2, nd5 _ _ (fun k e => by cases e) hn2⟩, ?_, ?_, ?_, ?_, upd_same, B.nd⟩ (po.nd nd5)
  · rw [upd_ne b3, k4 b b1, k3 b b2]; exact s2 _ _ (s1 _ _ e)
  · rw [upd_ne r4, k4 r r2, k3 r r3]; exact B2.hr
  · rw [upd_ne r7, k4 f r5, k3 f r6]; exact B2.hf
  · rw [upd_ne r9]; exact h4
  · rw [upd_ne r10, k4 t r8.symm]; exact h3
end
end K21
/-! the program: the parts that are joined -/
namespace K21
open PySem PySem.Spec PyProof.Rows L2 TL
abbrev sJoined : Stmt := inClass (top 42) 3
theorem nodup_sub_len {a : Type} [DecidableEq a] : ∀ {l m : List a}, l.Nodup → (∀ x ∈ l, x ∈ m) → l.length ≤ m.length
  | [], m, _, _ => Nat.zero_le _
  | x :: r, m, nd, h => by
    rw [List.nodup_cons] at nd
    have hx : x ∈ m := h x List.mem_cons_self
    have ih := nodup_sub_len (l := r) (m := m.erase x) nd.2 (fun y hy => by
      have hne : y ≠ x := fun e => nd.1 (e ▸ hy)
      exact (List.mem_erase_of_ne hne).mpr (h y (List.mem_cons_of_mem _ hy)))
    rw [List.length_erase_of_mem hx] at ih
    have hp : 0 < m.length := List.length_pos_of_mem hx
    rw [List.length_cons]
    omega
theorem putK_old {kvs : List (Key × V)} {k : Key} {v : V} (h : (valV kvs k).isSome = true) : (putK kvs k v).map (·.1) = kvs.map (·.1) := by
  unfold putK
  rw [valV_any, h, if_pos rfl, List.map_map]
  refine List.map_congr_left
      fun p _ => ?_
  show (if p.1 = k then (p.1, v) else p).1 = p.1
  split <;> rfl
theorem putK_none {kvs : List (Key × V)} {k : Key} {v : V} (h : valV kvs k = none) : (putK kvs k v).map (·.1) = kvs.map (·.1) ++ [k] := by
  rw [putK_new _ h, List.map_append]; rfl
/-- what is found: keys once each, all of them parts' names, the first one's among them -/
structure FK (parts : List Pt) (fk : List (Key × V)) : Prop where
  nd : (fk.map (·.1)).Nodup
  sub : ∀ k ∈ fk.map (·.1), k ∈ (parts.map (fun p : Pt => p.name)).map (Sum.inr : Str → Key)
  fst : ∃ p ∈ parts, (Sum.inr p.name : Key) ∈ fk.map (·.1)
theorem FK.len {parts : List Pt} {fk : List (Key × V)} (h : FK parts fk) : fk.length ≤ parts.length := by
  have z := nodup_sub_len h.nd h.sub
  simpa using z
theorem FK.put {parts : List Pt} {fk : List (Key × V)} (h : FK parts fk) {p : Pt} (hp : p ∈ parts) (v : V) : FK parts (putK fk (Sum.inr p.name) v) := by
  cases e : valV fk (Sum.inr p.name : Key) with
  | some u =>
    have k := putK_old (v := v) (show (valV fk (Sum.inr p.name : Key)).isSome = true by rw [e]; rfl)
    exact ⟨by rw [k]; exact h.nd, by rw [k]; exact h.sub, by rw [k]; exact h.fst⟩
  | none =>
    have k := putK_none (v := v) e
    have nm := valV_none_iff.mp e
    refine ⟨?_, ?_, ?_⟩
    · rw [k, List.nodup_append]
      exact ⟨h.nd, by simp, fun a ha b hb => by rw [List.mem_singleton.mp hb]; exact fun e => nm (e ▸ ha)⟩
    · rw [k]
      intro x hx
      rcases List.mem_append.mp
          hx with hx | hx
      · exact h.sub x hx
      · rw [List.mem_singleton.mp hx, mem_inr]
        exact List.mem_map.mpr ⟨p, hp, rfl⟩
    · rw [k]
      obtain ⟨q, hq, e⟩ := h.fst
      exact ⟨q, hq, List.mem_append_left _ e⟩
theorem len_put_old {fk : List (Key × V)} {k : Key} {v : V} (h : (valV fk k).isSome = true) : (putK fk k v).length = fk.length := by
  have z := congrArg List.length (putK_old (v := v) h)
  simpa using z
theorem len_put_new {fk : List (Key × V)} {k : Key} {v : V} (h : valV fk k = none) : (putK fk k v).length = fk.length + 1 := by
  rw [putK_new _ h, List.length_append]; rfl
def Agree (parts : List Pt) (fk : List (Key × V)) (l : Str) : Prop := ∀ p ∈ parts, ∀ q ∈ parts, l ∈ p.outs → l ∈ q.ins → (valV fk (Sum.inr p.name : Key)).isSome = (valV fk (Sum.inr q.name : Key)).isSome
/-- a closed set of parts is all of them -/
theorem closed_all {lanes : List Ln} {parts : List Pt} {one other : Int} (ok : NetOk lanes parts one other) {fk : List (Key × V)} (h : FK parts fk) (hc : ∀ l ∈ lanes, Agree parts fk l.name) : ∀ p ∈ parts, (valV fk (Sum.inr p.name : Key)).isSome = true := by
  have ndO : (parts.flatMap (fun p : Pt => p.outs)).Nodup := ok.po.nodup_iff.mpr ok.lnd
  have ndI : (parts.flatMap (fun p : Pt => p.ins)).Nodup := ok.pi.nodup_iff.mpr ok.lnd
  let f : Str → Bool := fun l => match valV (endsK (fun p => p.outs) parts) (Sum.inr l) with
    | some (.str nm) => (valV fk (Sum.inr nm : Key)).isSome
    | _ => false
  have fo : ∀ p ∈ parts, ∀ l ∈ p.outs, f l = (valV fk (Sum.inr p.name : Key)).isSome := by
    intro p hp l hl
    show (match valV (endsK (fun p => p.outs) parts) (Sum.inr l) with
      | some (.str nm) => (valV fk (Sum.inr nm : Key)).isSome
      | _ => false) = _
    rw [ends_val ndO hp hl]
  have fi : ∀ p ∈ parts, ∀ l ∈ p.ins, f l = (valV fk (Sum.inr p.name : Key)).isSome := by
    intro q hq l hl
    have hm : l ∈ nms lanes := ok.pi.mem_iff.mp (List.mem_flatMap.mpr ⟨q, hq, hl⟩)
    obtain ⟨p, hp, hpl⟩ := List.mem_flatMap.mp (ok.po.mem_iff.mpr hm)
    obtain ⟨ln, hln, e⟩ := List.mem_map.mp hm
    rw [fo p hp l hpl]
    have z := hc ln hln p hp q hq
    rw [e] at z
    exact z hpl hl
  have fa : ∀ p ∈ parts, ∀ l ∈ p.lanes, f l = (valV fk (Sum.inr p.name : Key)).isSome := by
    intro p hp l hl
    rcases List.mem_append.mp hl with hl | hl
    · exact fi p hp l hl
    · exact fo p hp l hl
  have comp : Compat parts f := fun p hp l hl m hm => by rw [fa p hp l hl, fa p hp m hm]
  have some_lane : ∀ p ∈ parts, ∃ l, l ∈ p.lanes := by
    intro p hp
    have w := (ok.pok p hp).2.2.w
    have hne : 1 ≤ p.lanes.length := by
      unfold Pt.lanes
      rw [List.length_append]
      have w2 : p.kd.wants.2.1 = p.ins.length := by rw [← w]
      have w3 : p.kd.wants.2.2 = p.outs.length := by rw [← w]
      have hk : ∀ k : Kd, 1 ≤ k.wants.2.1 + k.wants.2.2 := by intro k; cases k <;> decide
      have := hk p.kd
      omega
    cases q : p.lanes with
    | nil => rw [q] at hne; simp at hne
    | cons a r => exact ⟨a, List.mem_cons_self⟩
  obtain ⟨p0, hp0, e0⟩ := h.fst
  have h0 : (valV fk (Sum.inr p0.name : Key)).isSome = true := valV_some_iff.mpr e0
  intro p hp
  obtain ⟨l, hl⟩ := some_lane p hp
  obtain ⟨l0, hl0⟩ := some_lane p0 hp0
  rw [← fa p hp l hl, ok.con f comp p hp l hl p0 hp0 l0 hl0, fa p0 hp0 l0 hl0]
  exact h0
def spJoined (kA : Kd → Addr) (CN : Addr) : Sp := fun vs H Q _ => ∃ (n r f g t m : Addr) (kf km : List (Key × V)) (lanes : List Ln) (parts : List Pt) (one other : Int), vs = [.ref n] ∧
  NB H CN n r f g t m (roomsK lanes) kf (endsK (fun p => p.outs) parts) (endsK (fun p => p.ins) parts) km ∧ AllB (MemAt kA H) km parts ∧ NetOk lanes parts one other ∧
  ∀ (H' : Hp) (d : Addr) (fk : List (Key × V)), H d = none → Same H H' → H' d = some (.dK fk) → (∀ p ∈ parts, (valV fk (Sum.inr p.name : Key)).isSome = true) → Q (.ref d) H'
section
variable {P : Program} {w : World} {K : PySem.W.Frag} {mg : Str → Option Value} {base : Heap} {kA : Kd → Addr} {CN : Addr}
theorem scJoined : FnScope ["self", "found", "name", "more", "lane", "ends"] ["self"] (defScope sJoined) := ⟨rfl, rfl, rfl, by decide +kernel, rfl, by decide +kernel, by decide +kernel⟩
theorem ok_joined (G : MF K CN "joined" "Net.joined" sJoined) (T : NCls K mg CN) : MCal P w K mg base CX0 CN 1 "joined" ["self"] (spJoined kA CN) := by
  refine G.cal scJoined (fun _ _ _ _ _ _ us hl => match us, hl with | [_], _ => rfl) (fun vs H Q E h => by obtain ⟨_, _, _, _, _, _, _, _, _, _, _, _, rfl, _⟩ := h; rfl) (fun fa cdv A0 outer s H vs Q E hr h => ?_)
  obtain ⟨n, r, f, g, t, m, kf, km, lanes, parts, one, other, rfl, B, hkm, ok, q⟩ := h
  have hu := hu_of hr
  refine ⟨_, (pss_cons (ps_set (i := 1) scJoined.nd rfl (.inl rfl) pe_dnewK)
    (pss_cons (ps_lock (ps_for PassesOwn.never rfl (pi_keys (pe_fld (pv 0) rfl)) (pg_name (i := 2) scJoined.nd rfl (.inl rfl)) (pss_cons (ps_dput hu (pv 1) (pv 2) pe_bl rfl)
    (pss_one ps_break))))
    (pss_cons (ps_set (i := 3) scJoined.nd rfl (.inl rfl) pe_bl)
    (pss_cons (ps_while PassesOwn.never (pt_val (pv 3)) (pss_cons (ps_set (i := 3) scJoined.nd rfl (.inl rfl) pe_bl)
    (pss_one (ps_lock (ps_for PassesOwn.never rfl (pi_keys (pe_fld (pv 0) rfl)) (pg_name (i := 4) scJoined.nd rfl (.inl rfl)) (pss_cons (ps_set (i := 5) scJoined.nd rfl (.inl rfl) (pe_lst (pa_cons (pe_dget hu (pe_fld (pv 0) rfl) (pv 4) (fun _ _ => rfl)) (pa_cons (pe_dget hu (pe_fld (pv 0) rfl) (pv 4) (fun _ _ => rfl)) pa_nil))))
    (pss_one (ps_if (pt_cmpR op_ne (pe_cmp (pc_din hu (pe_ix ix_list (pv 5) pe_int (fun _ _ => rfl)) (pv 1))) (pe_cmp (pc_din hu (pe_ix ix_list (pv 5) pe_int (fun _ _ => rfl)) (pv 1))) (nomark _)) (pss_cons (ps_dput hu (pv 1) (pe_ix ix_list (pv 5) pe_int (fun _ _ => rfl)) pe_bl rfl)
    (pss_cons (ps_dput hu (pv 1) (pe_ix ix_list (pv 5) pe_int (fun _ _ => rfl)) pe_bl rfl)
    (pss_one (ps_set (i := 3) scJoined.nd rfl (.inl rfl) pe_bl)))) pss_nil))))))))
    (pss_one (ps_ret (pv 1))))))), ?_⟩
  have ndO : (parts.flatMap (fun p : Pt => p.outs)).Nodup := ok.po.nodup_iff.mpr ok.lnd
  have ndI : (parts.flatMap (fun p : Pt => p.ins)).Nodup := ok.pi.nodup_iff.mpr ok.lnd
  obtain ⟨dx, hn⟩ := B.ob
  obtain ⟨r1, r2, r3, r4, r5, r6, r7, r8, r9, r10⟩ := B.nd
  have nr : n ≠ r := fun e => by rw [e, B.hr] at hn; cases hn
  have nm : n ≠ m := fun e => by rw [e, B.hm] at hn; cases hn
  intro d hd
  have dn : ∀ {b : Addr} {o : HO}, H b = some o → b ≠ d := fun e => ne_of_none e hd
  -- the first part's name
  refine ⟨m, .dK km, by rw [upd_ne (dn B.hm)]; exact B.hm, trivial, fun od => ?_⟩
  have hkl : km.length = parts.length := hkm.1
  have hp0 := ok.p0
  refine ⟨_, rfl, n, CN, dx, _, _, rfl, by rw [upd_ne nm, upd_ne (dn hn)]; exact hn, T.cl, T.n5, nf_members, m, od, rfl, .inl ⟨km, upd_same, for_it walk_keys (fun i σ H' => i = 0 ∧ σ = [some (.ref n), some (.ref d), none, none, none, none] ∧ H' = upd (upd H d (.dK [])) m (.frz od (.dK km))) ⟨rfl, rfl, rfl⟩ (by rintro i σ H' _ ⟨_, _, rfl⟩; exact upd_same) ?_ (by rintro σ H' ⟨e, _⟩; omega)⟩⟩
  rintro i x σ H1 H2 hi ⟨rfl, rfl, rfl⟩ ⟨rfl, k, v, hk, rfl⟩
  obtain ⟨p0, hp0', mp⟩ := hkm.get hk
  obtain rfl : k = Sum.inr p0.name := mp.1
  have p0m : p0 ∈ parts := List.mem_of_getElem? hp0'
  have dm : d ≠ m := (dn B.hm).symm
  refine ⟨_, rfl, _, rfl, d, _, rfl, DPut.k (k := Sum.inr p0.name) (kvs := []) (by rw [upd_ne dm]; exact upd_same) (by show 0 < sizeLine; decide), ?_⟩
  refine ⟨by rw [upd_ne dm.symm]; exact upd_same, ?_⟩
  -- the loop
  have sm0 : Same H (upd (upd (upd (upd H d (.dK [])) m (.frz od (.dK km))) d (.dK (putK [] (Sum.inr p0.name) (.bl true)))) m (.dK km)) := fun b o e => by
    by_cases hb : b = m
    · rw [hb, upd_same, ← B.hm, ← hb]; exact e
    · rw [upd_ne hb, upd_ne (dn e), upd_ne hb, upd_ne (dn e)]; exact e
  have fk0 : FK parts (putK [] (Sum.inr p0.name) (V.bl true)) := by
    have e : putK ([] : List (Key × V)) (Sum.inr p0.name) (V.bl true) = [(Sum.inr p0.name, V.bl true)] := putK_new _ rfl
    rw [e]
    refine ⟨by simp, fun k hk => ?_, ⟨p0, p0m, by simp⟩⟩
    rw [List.mem_singleton.mp hk, mem_inr]
    exact List.mem_map.mpr ⟨p0, p0m, rfl⟩
  refine ⟨fun mm σ H' => ∃ (fk : List (Key × V)) (b : Bool) (v2 v4 v5 : Option V), σ = [some (.ref n), some (.ref d), v2, some (.bl b), v4, v5] ∧ Same H H' ∧ H' d = some (.dK fk) ∧ FK parts fk ∧ (b = false → ∀ l ∈ lanes, Agree parts fk l.name) ∧ mm = (parts.length - fk.length) + (if b = true then 1 else 0),
    ⟨_, _, true, _, none, none, rfl, sm0, by rw [upd_ne dm]; exact upd_same, fk0, (fun z => by cases z), rfl⟩, ?_⟩
  rintro mm σ H3 ⟨fk, b, v2, v4, v5, rfl, sm, hd3, hfk, hcl, rfl⟩
  refine ⟨_, rfl, b, rfl, ?_⟩
  cases b with
  | false => exact ⟨_, rfl, q H3 d fk hd sm hd3 (closed_all ok hfk (hcl rfl))⟩
  | true =>
    refine ⟨fun σ' H' => ∃ m', m' < (parts.length - fk.length) + (if true = true then 1 else 0) ∧ ∃ (fk : List (Key × V)) (b : Bool) (v2 v4 v5 : Option V), σ' = [some (.ref n), some (.ref d), v2, some (.bl b), v4, v5] ∧ Same H H' ∧ H' d = some (.dK fk) ∧ FK parts fk ∧ (b = false → ∀ l ∈ lanes, Agree parts fk l.name) ∧ m' = (parts.length - fk.length) + (if b = true then 1 else 0), fun _ _ h => h, ?_⟩
    refine ⟨r, .dK (roomsK lanes), sm _ _ B.hr, trivial, fun or => ?_⟩
    have dr : d ≠ r := (dn B.hr).symm
    refine ⟨_, rfl, n, CN, dx, _, _, rfl, by rw [upd_ne nr]; exact sm _ _ hn, T.cl, T.n1, nf_rooms, r, or, rfl, .inl ⟨roomsK lanes, upd_same, for_it walk_keys (fun i σ H' => ∃ (fk' : List (Key × V)) (b : Bool) (v2 v4 v5 : Option V), σ = [some (.ref n), some (.ref d), v2, some (.bl b), v4, v5] ∧ H' r = some (.frz or (.dK (roomsK lanes))) ∧ (∀ b o, H b = some o → b ≠ r → H' b = some o) ∧ H' d = some (.dK fk') ∧ FK parts fk' ∧ (b = true → fk.length < fk'.length) ∧ (b = false → fk' = fk ∧ ∀ (j : Nat) l, j < i → lanes[j]? = some l → Agree parts fk l.name))
      ⟨fk, false, v2, v4, v5, rfl, upd_same, fun b o e nb => by rw [upd_ne nb]; exact sm _ _ e, by rw [upd_ne dr]; exact hd3, hfk, (fun z => by cases z), fun _ => ⟨rfl, fun j l hj => by omega⟩⟩ (by rintro i σ H' _ ⟨_, _, _, _, _, _, h, _⟩; exact h) ?_ ?_⟩⟩
    · rintro i x σ H4 H5 hi ⟨fk', b, w2, w4, w5, rfl, hr4, k4, hd4, hf4, hb1, hb2⟩ ⟨rfl, k, v, hk, rfl⟩
      have hil : i < lanes.length := by
        have e : (roomsK lanes).length = lanes.length := by unfold roomsK; rw [List.length_map]
        omega
      unfold roomsK at hk
      rw [List.getElem?_map, List.getElem?_eq_getElem hil] at hk
      have hk' : ((Sum.inr lanes[i].name, V.int lanes[i].room) : Key × V) = (k, v) := Option.some.inj hk
      obtain rfl : Sum.inr lanes[i].name = k := congrArg Prod.fst hk'
      have hlm : lanes[i].name ∈ nms lanes := List.mem_map.mpr ⟨_, List.getElem_mem hil, rfl⟩
      obtain ⟨p, hp, hpl⟩ := List.mem_flatMap.mp (ok.po.mem_iff.mpr hlm)
      obtain ⟨p', hp', hpl'⟩ := List.mem_flatMap.mp (ok.pi.mem_iff.mpr hlm)
      have vg := ends_val ndO hp hpl
      have vt := ends_val ndI hp' hpl'
      have hn4 := k4 _ _ hn nr
      have agree_of : ∀ fk0 : List (Key × V), (valV fk0 (Sum.inr p.name : Key)).isSome = (valV fk0 (Sum.inr p'.name : Key)).isSome → Agree parts fk0 lanes[i].name := by
        intro fk0 e u hu' u' hu'' h1 h2
        have e1 : u.name = p.name := by have z := ends_val ndO hu' h1; rw [vg] at z; injection z with z; injection z with z; exact z.symm
        have e2 : u'.name = p'.name := by have z := ends_val ndI hu'' h2; rw [vt] at z; injection z with z; injection z with z; exact z.symm
        rw [e1, e2]; exact e
      refine ⟨_, rfl, n, CN, dx, _, _, rfl, hn4, T.cl, T.n3, nf_givers, _, rfl, g, _, rfl, DGet.some_ (k := Sum.inr lanes[i].name) (k4 _ _ B.hg r2.symm) vg, _, rfl, n, CN, dx, _, _, rfl, hn4, T.cl, T.n4, nf_takers, _, rfl, t, _, rfl, DGet.some_ (k := Sum.inr lanes[i].name) (k4 _ _ B.ht r3.symm) vt, (by show 2 ≤ sizeLine; decide), fun e he => ?_⟩
      have ed : d ≠ e := ne_of_none hd4 he
      have hd5 : (upd H5 e (.lst [V.str p.name, V.str p'.name])) d = some (.dK fk') := by rw [upd_ne ed]; exact hd4
      have er : r ≠ e := ne_of_none hr4 he
      have k5 : ∀ b o, H b = some o → b ≠ r → (upd H5 e (.lst [V.str p.name, V.str p'.name])) b = some o := fun b o z nb => by rw [upd_ne (ne_of_none (k4 b o z nb) he)]; exact k4 b o z nb
      refine ⟨_, rfl, e, _, 0, _, rfl, rfl, SqL.of upd_same, atI_nat (j := 0) rfl, _, rfl, d, _, rfl, DGet.k (k := Sum.inr p.name) hd5, _, rfl, e, _, 1, _, rfl, rfl, SqL.of upd_same, atI_nat (j := 1) rfl, _, rfl, d, _, rfl, DGet.k (k := Sum.inr p'.name) hd5, rfl, _, rfl, ?_⟩
      by_cases hc : (valV fk' (Sum.inr p.name : Key)).isSome = (valV fk' (Sum.inr p'.name : Key)).isSome
      · refine ifF (by rw [hc]; simp) ?_
        refine ⟨fk', b, _, _, _, rfl, by rw [upd_ne er]; exact hr4, k5, hd5, hf4, hb1, fun z => ?_⟩
        obtain ⟨e1, e2⟩ := hb2 z
        refine ⟨e1, fun j l hj hl => ?_⟩
        by_cases hji : j = i
        · subst hji
          rw [List.getElem?_eq_getElem hil] at hl
          obtain rfl : lanes[j] = l := Option.some.inj hl
          exact agree_of fk (by rw [← e1]; exact hc)
        · exact e2 j l (by omega) hl
      · refine ifT (by
          have : ¬ V.bl (valV fk' (Sum.inr p.name : Key)).isSome = V.bl (valV fk' (Sum.inr p'.name : Key)).isSome := fun z => hc (V.bl.inj z)
          rw [decide_eq_false this]; rfl) ?_
        have l1 := hf4.len
        have hp1 := ok.p1
        have f1 := hf4.put hp (V.bl true)
        have f2 := f1.put hp' (V.bl true)
        have l2 := f1.len
        refine ⟨_, rfl, _, rfl, e, _, 0, _, rfl, rfl, SqL.of upd_same, atI_nat (j := 0) rfl, d, _, rfl, DPut.k (k := Sum.inr p.name) hd5 (small1000 (by omega)), ?_⟩
        have he6 : (upd (upd H5 e (.lst [V.str p.name, V.str p'.name])) d (.dK (putK fk' (Sum.inr p.name) (.bl true)))) e = some (.lst [V.str p.name, V.str p'.name]) := by rw [upd_ne ed.symm]; exact upd_same
        refine ⟨_, rfl, _, rfl, e, _, 1, _, rfl, rfl, SqL.of he6, atI_nat (j := 1) rfl, d, _, rfl, DPut.k (k := Sum.inr p'.name) upd_same (small1000 (by omega)), ?_⟩
        have rd : r ≠ d := dr.symm
        refine ⟨_, true, _, _, _, rfl, by rw [upd_ne rd, upd_ne rd, upd_ne er]; exact hr4, fun b o z nb => by rw [upd_ne (dn z), upd_ne (dn z)]; exact k5 b o z nb, upd_same, f2, fun _ => ?_, fun z => by cases z⟩
        have base : fk.length ≤ fk'.length := by
          cases b with
          | true => exact Nat.le_of_lt (hb1 rfl)
          | false => rw [(hb2 rfl).1]; exact Nat.le_refl _
        -- just one of both is new
        cases ep : valV fk' (Sum.inr p.name : Key) with
        | none =>
          have e1 := len_put_new (v := V.bl true) ep
          have := length_putK (putK fk' (Sum.inr p.name) (V.bl true)) (Sum.inr p'.name) (V.bl true)
          have ge : (putK fk' (Sum.inr p.name) (V.bl true)).length ≤ (putK (putK fk' (Sum.inr p.name) (V.bl true)) (Sum.inr p'.name) (V.bl true)).length := by
            cases e2 : valV (putK fk' (Sum.inr p.name) (V.bl true)) (Sum.inr p'.name : Key) with
            | none =>
              have e3 := len_put_new (v := V.bl true) e2
              omega
            | some u =>
              have e3 := len_put_old (v := V.bl true) (show (valV (putK fk' (Sum.inr p.name) (V.bl true)) (Sum.inr p'.name : Key)).isSome = true by rw [e2]; rfl)
              omega
          omega
        | some u =>
          have e1 := len_put_old (v := V.bl true) (show (valV fk' (Sum.inr p.name : Key)).isSome = true by rw [ep]; rfl)
          have ep' : valV fk' (Sum.inr p'.name : Key) = none := by
            cases z : valV fk' (Sum.inr p'.name : Key) with
            | none => rfl
            | some y => exact absurd (by rw [ep, z]; rfl) hc
          have e2 : valV (putK fk' (Sum.inr p.name) (V.bl true)) (Sum.inr p'.name : Key) = none := by
            rw [valV_none_iff, putK_old (by rw [ep]; rfl)]
            exact valV_none_iff.mp ep'
          have e3 := len_put_new (v := V.bl true) e2
          omega
    · rintro σ H4 ⟨fk', b, w2, w4, w5, rfl, hr4, k4, hd4, hf4, hb1, hb2⟩
      refine ⟨hr4, ?_⟩
      have l1 := hf4.len
      refine ⟨_, ?_, fk', b, _, _, _, rfl, fun x o e => ?_, by rw [upd_ne dr]; exact hd4, hf4, fun z l hl => ?_, rfl⟩
      · cases b with
        | true => have := hb1 rfl; simp only [if_true]; omega
        | false => rw [(hb2 rfl).1]; simp
      · by_cases hx : x = r
        · rw [hx, upd_same, ← B.hr, ← hx]; exact e
        · rw [upd_ne hx]; exact k4 x o e hx
      · obtain ⟨e1, e2⟩ := hb2 z
        obtain ⟨j, hj, rfl⟩ := List.mem_iff_getElem.mp hl
        rw [e1]
        exact e2 j _ (by have e : (roomsK lanes).length = lanes.length := by unfold roomsK; rw [List.length_map]
                         omega) (List.getElem?_eq_getElem hj)
end
end K21
/-! the program: a net is made -/
namespace K21
open PySem PySem.Spec PyProof.Rows L2 TL
abbrev sNInit : Stmt := inClass (top 42) 0
def LnIn (H : Hp) (v : V) (l : Ln) : Prop := ∃ t f : Addr, v = .ref t ∧ H t = some (.tup [.str l.name, .int l.room, .ref f]) ∧ SeqAt' H f (l.first.map V.int)
def PtIn (H : Hp) (v : V) (p : Pt) : Prop := ∃ t n i o : Addr, v = .ref t ∧ H t = some (.tup [.str p.kd.word, .str p.name, .ref n, .ref i, .ref o]) ∧ SeqAt' H n (p.nums.map V.int) ∧ SeqAt' H i (p.ins.map V.str) ∧ SeqAt' H o (p.outs.map V.str)
theorem not_mem_take {α : Type} {l : List α} (nd : l.Nodup) {i : Nat} {x : α} (h : l[i]? = some x) : x ∉ l.take i := fun z => by
  obtain ⟨hi, rfl⟩ := List.getElem?_eq_some_iff.mp h
  obtain ⟨j, hj, e⟩ := List.mem_iff_getElem.mp z
  rw [List.length_take] at hj
  rw [List.getElem_take] at e
  have := (List.getElem_inj nd).mp e
  omega
theorem flat_nodup {sel : Pt → List Str} {ps : List Pt} (nd : (ps.flatMap sel).Nodup) {i : Nat} {q : Pt} (h : ps[i]? = some q) : (sel q).Nodup ∧ ∀ l ∈ sel q, l ∉ (ps.take i).flatMap sel := by
  obtain ⟨hi, rfl⟩ := List.getElem?_eq_some_iff.mp h
  have e : ps = ps.take i ++ ps[i] :: ps.drop (i + 1) := by
    rw [← List.drop_eq_getElem_cons hi, List.take_append_drop]
  have nd2 : ((ps.take i).flatMap sel ++ (sel ps[i] ++ (ps.drop (i + 1)).flatMap sel)).Nodup := by
    have z := nd
    rw [e, List.flatMap_append, List.flatMap_cons] at z
    exact z
  rw [List.nodup_append] at nd2
  obtain ⟨_, h2, h3⟩ := nd2
  rw [List.nodup_append] at h2
  exact ⟨h2.1, fun l hl z => h3 l z l (List.mem_append_left _ hl) rfl⟩
theorem unlock_eq {H : Hp} {r : Addr} {x u : HO} (h : H r = some u) : upd (upd H r x) r u = H := by
  rw [upd_upd]
  funext b
  by_cases e : b = r
  · rw [e, upd_same, h]
  · rw [upd_ne e]
theorem FirstAt.nd {H H' : Hp} {kv : Key × V} {l : Ln} (h : FirstAt H kv l) (s : KeepND H H') : FirstAt H' kv l := ⟨h.1, h.2.elim fun t e => ⟨t, e.1, s _ _ (fun k z => by cases z) e.2⟩⟩
theorem MemAt.nd {kA : Kd → Addr} {H H' : Hp} {kv : Key × V} {p : Pt} (h : MemAt kA H kv p) (s : KeepND H H') : MemAt kA H' kv p := ⟨h.1, h.2.elim fun x e => ⟨x, e.1, e.2.nd s⟩⟩
/-- all but n is kept -/
def KN (n : Addr) (H H' : Hp) : Prop := ∀ b o, H b = some o → b ≠ n → H' b = some o
theorem KN.then_ {n : Addr} {H H1 H2 : Hp} (a : KN n H H1) (b : ∀ c o, H c = some o → H1 c = some o → H2 c = some o) : KN n H H2 := fun c o e ne => b c o e (a c o e ne)
def spNInit (kA : Kd → Addr) (CN : Addr) : Sp := fun vs H Q _ => ∃ (n dx la pa : Addr) (vl vp : List V) (lanes : List Ln) (parts : List Pt) (one other : Int), vs = [.ref n, .ref la, .ref pa] ∧ H n = some (.ins CN dx []) ∧ H la = some (.lst vl) ∧ AllB (LnIn H) vl lanes ∧ H pa = some (.lst vp) ∧ AllB (PtIn H) vp parts ∧
  NetOk lanes parts one other ∧ ∀ H', KN n H H' → NetAt kA CN H' n lanes parts → Q .non H'
theorem take_more {α : Type} {l : List α} {i : Nat} {x : α} (h : l[i]? = some x) : l.take (i + 1) = l.take i ++ [x] := by
  rw [List.take_succ, h]; rfl
theorem roomsK_snoc (ls : List Ln) (l : Ln) : roomsK (ls ++ [l]) = roomsK ls ++ [(Sum.inr l.name, V.int l.room)] := by unfold roomsK; rw [List.map_append]; rfl
section
variable {P : Program} {w : World} {K : PySem.W.Frag} {mg : Str → Option Value} {base : Heap} {kA : Kd → Addr} {CN : Addr}
abbrev nNInit : List Str := ["self", "lanes", "parts", "name", "room", "first", "kind", "numbers", "ins", "outs", "joined"]
theorem scNInit : FnScope nNInit ["self", "lanes", "parts"] (defScope sNInit) := ⟨rfl, rfl, rfl, by decide +kernel, rfl, by decide +kernel, by decide +kernel⟩
theorem ok_ninit (T : NCls K mg CN) (TK : KFacts K mg kA) (MN : Cal P w K mg base CX0 2 "need_name" ["name", "known"] spNeedName) (MR : Cal P w K mg base CX0 3 "need_room" ["name", "room", "first"] spNeedRoom)
    (MP : MCal P w K mg base CX0 CN 5 "put_in" ["self", "kind", "name", "numbers", "ins", "outs"] (spPutIn kA CN)) (MJ : MCal P w K mg base CX0 CN 1 "joined" ["self"] (spJoined kA CN)) (hlen : mg "len" = none) (htuple : mg "tuple" = none)
    (gL : ∃ t, mg "MOST_LANES" = some (.int 24 t)) (gP : ∃ t, mg "MOST_PARTS" = some (.int 16 t)) : KCal P w K mg base CX0 CN 6 "Net" ["self", "lanes", "parts"] (spNInit kA CN) := by
  obtain ⟨tL, gL⟩ := gL
  obtain ⟨tP, gP⟩ := gP
  refine T.mkr.cal scNInit (fun _ _ _ _ _ _ us hl => match us, hl with | [_, _, _], _ => rfl) (fun vs H Q E h => by obtain ⟨_, _, _, _, _, _, _, _, _, _, rfl, _⟩ := h; rfl) (fun fa cdv A0 outer s H vs Q E hr h => ?_)
  obtain ⟨n, dx, la, pa, vl, vp, lanes, parts, one, other, rfl, hn, hla, al, hpa, ap, ok, q⟩ := h
  have hu := hu_of hr
  refine ⟨_, (pss_cons (ps_if (PW.pt (pw_or (pt_not (pt_chain op_le op_le pe_int (pe_callB call_len_seq (by rfl) hlen PySem.boot_len (pa_cons (pv 1) pa_nil)) (pe_glob (v := .int 24) (by rfl) gL ⟨_, rfl⟩))) (pw_or1 (pt_not (pt_chain op_le op_le pe_int (pe_callB call_len_seq (by rfl) hlen PySem.boot_len (pa_cons (pv 2) pa_nil)) (pe_glob (v := .int 16) (by rfl) gP ⟨_, rfl⟩)))))) (pss_one ps_never) pss_nil)
    (pss_cons (ps_fld (pv 0) pe_dnewK rfl)
    (pss_cons (ps_fld (pv 0) pe_dnewK rfl)
    (pss_cons (ps_fld (pv 0) pe_dnewK rfl)
    (pss_cons (ps_fld (pv 0) pe_dnewK rfl)
    (pss_cons (ps_fld (pv 0) pe_dnewK rfl)
    (pss_cons (ps_for PassesOwn.never rfl (pi_list (pv 1)) (pg_tup (by rfl) (pgs_cons (pg_name (i := 3) scNInit.nd rfl (.inl rfl)) (pgs_cons (pg_name (i := 4) scNInit.nd rfl (.inl rfl)) (pgs_cons (pg_name (i := 5) scNInit.nd rfl (.inl rfl)) pgs_nil)))) (pss_cons (ps_expr (pe_callG MN (hr.mono (by decide)) (by rfl) pass0 (pa_cons (pv 3) (pa_cons (pe_fld (pv 0) rfl) pa_nil))))
    (pss_cons (ps_expr (pe_callG MR (hr.mono (by decide)) (by rfl) pass0 (pa_cons (pv 3) (pa_cons (pv 4) (pa_cons (pv 5) pa_nil)))))
    (pss_cons (ps_dput hu (pe_fld (pv 0) rfl) (pv 3) (pv 4) rfl)
    (pss_one (ps_dput hu (pe_fld (pv 0) rfl) (pv 3) (pe_callTy call_tupleS (by rfl) htuple (by decide +kernel) (pa_cons (pv 5) pa_nil)) rfl))))))
    (pss_cons (ps_for PassesOwn.never rfl (pi_list (pv 2)) (pg_tup (by rfl) (pgs_cons (pg_name (i := 6) scNInit.nd rfl (.inl rfl)) (pgs_cons (pg_name (i := 3) scNInit.nd rfl (.inl rfl)) (pgs_cons (pg_name (i := 7) scNInit.nd rfl (.inl rfl)) (pgs_cons (pg_name (i := 8) scNInit.nd rfl (.inl rfl)) (pgs_cons (pg_name (i := 9) scNInit.nd rfl (.inl rfl)) pgs_nil)))))) (pss_one (ps_expr (pe_methG MP (pv 0) T.cl (hr.mono (by decide)) pass0 (pa_cons (pv 6) (pa_cons (pv 3) (pa_cons (pv 7) (pa_cons (pv 8) (pa_cons (pv 9) pa_nil)))))))))
    (pss_cons (ps_lock (ps_for PassesOwn.never rfl (pi_keys (pe_fld (pv 0) rfl)) (pg_name (i := 3) scNInit.nd rfl (.inl rfl)) (pss_one (ps_if (PW.pt (pw_or (pt_cmp (pc_dnotin hu (pv 3) (pe_fld (pv 0) rfl))) (pw_or1 (pt_cmp (pc_dnotin hu (pv 3) (pe_fld (pv 0) rfl)))))) (pss_one ps_never) pss_nil))))
    (pss_cons (ps_set (i := 10) scNInit.nd rfl (.inl rfl) (pe_methG0 MJ (pv 0) T.cl (hr.mono (by decide)) pass0))
    (pss_one (ps_lock (ps_for PassesOwn.never rfl (pi_keys (pe_fld (pv 0) rfl)) (pg_name (i := 3) scNInit.nd rfl (.inl rfl)) (pss_one (ps_if (pt_cmp (pc_dnotin hu (pv 3) (pv 10))) (pss_one ps_never) pss_nil))))))))))))))), ?_⟩
  have l0 := ok.l0
  have l1 := ok.l1
  have p0 := ok.p0
  have p1 := ok.p1
  have el : vl.length = lanes.length := al.1
  have ep : vp.length = parts.length := ap.1
  have ndO : (parts.flatMap (fun p : Pt => p.outs)).Nodup := ok.po.nodup_iff.mpr ok.lnd
  have ndI : (parts.flatMap (fun p : Pt => p.ins)).Nodup := ok.pi.nodup_iff.mpr ok.lnd
  refine ⟨_, rfl, la, _, rfl, .inl (SqL.of hla), _, _, rfl, rfl, true, congrArg V.bl (decide_eq_true (show (1 : Int) ≤ (vl.length : Int) by omega)), _, _, rfl, rfl, true, congrArg V.bl (decide_eq_true (show (vl.length : Int) ≤ 24 by omega)), ?_⟩
  refine ⟨_, rfl, pa, _, rfl, .inl (SqL.of hpa), _, _, rfl, rfl, true, congrArg V.bl (decide_eq_true (show (1 : Int) ≤ (vp.length : Int) by omega)), _, _, rfl, rfl, true, congrArg V.bl (decide_eq_true (show (vp.length : Int) ≤ 16 by omega)), ?_⟩
  -- the five dicts
  intro r hr0
  have nr : n ≠ r := ne_of_none hn hr0
  refine ⟨_, rfl, n, CN, dx, _, rfl, by rw [upd_ne nr]; exact hn, T.cl, T.n1, (by show 0 < 1000; decide), ?_⟩
  intro f hf0
  have nf : n ≠ f := fun e => by rw [← e, upd_same] at hf0; cases hf0
  rw [upd_ne nf.symm] at hf0
  have rf : r ≠ f := fun e => by rw [← e, upd_same] at hf0; cases hf0
  rw [upd_ne rf.symm] at hf0
  refine ⟨_, rfl, n, CN, dx, _, rfl, by rw [upd_ne nf]; exact upd_same, T.cl, T.n2, (by show 1 < 1000; decide), ?_⟩
  intro g hg0
  have ng : n ≠ g := fun e => by rw [← e, upd_same] at hg0; cases hg0
  rw [upd_ne ng.symm] at hg0
  have fg : f ≠ g := fun e => by rw [← e, upd_same] at hg0; cases hg0
  rw [upd_ne fg.symm, upd_ne ng.symm] at hg0
  have rg : r ≠ g := fun e => by rw [← e, upd_same] at hg0; cases hg0
  rw [upd_ne rg.symm] at hg0
  refine ⟨_, rfl, n, CN, dx, _, rfl, by rw [upd_ne ng]; exact upd_same, T.cl, T.n3, (by rw [putF_nil, putF_ne n12, putF_nil]; show 2 < 1000; decide), ?_⟩
  intro t ht0
  have nt : n ≠ t := fun e => by rw [← e, upd_same] at ht0; cases ht0
  rw [upd_ne nt.symm] at ht0
  have gt : g ≠ t := fun e => by rw [← e, upd_same] at ht0; cases ht0
  rw [upd_ne gt.symm, upd_ne nt.symm] at ht0
  have ft : f ≠ t := fun e => by rw [← e, upd_same] at ht0; cases ht0
  rw [upd_ne ft.symm, upd_ne nt.symm] at ht0
  have rt : r ≠ t := fun e => by rw [← e, upd_same] at ht0; cases ht0
  rw [upd_ne rt.symm] at ht0
  refine ⟨_, rfl, n, CN, dx, _, rfl, by rw [upd_ne nt]; exact upd_same, T.cl, T.n4, (by rw [putF_nil, putF_ne n12, putF_nil, putF_ne n13, putF_ne n23, putF_nil]; show 3 < 1000; decide), ?_⟩
  intro m hm0
  have nm : n ≠ m := fun e => by rw [← e, upd_same] at hm0; cases hm0
  rw [upd_ne nm.symm] at hm0
  have tm : t ≠ m := fun e => by rw [← e, upd_same] at hm0; cases hm0
  rw [upd_ne tm.symm, upd_ne nm.symm] at hm0
  have gm : g ≠ m := fun e => by rw [← e, upd_same] at hm0; cases hm0
  rw [upd_ne gm.symm, upd_ne nm.symm] at hm0
  have fm : f ≠ m := fun e => by rw [← e, upd_same] at hm0; cases hm0
  rw [upd_ne fm.symm, upd_ne nm.symm] at hm0
  have rm : r ≠ m := fun e => by rw [← e, upd_same] at hm0; cases hm0
  rw [upd_ne rm.symm] at hm0
  refine ⟨_, rfl, n, CN, dx, _, rfl, by rw [upd_ne nm]; exact upd_same, T.cl, T.n5, (by rw [putF_nil, putF_ne n12, putF_nil, putF_ne n13, putF_ne n23, putF_nil, putF_ne n14, putF_ne n24, putF_ne n34, putF_nil]; show 4 < 1000; decide), ?_⟩
  have eF : putF "members" (.ref m) (putF "takers" (.ref t) (putF "givers" (.ref g) (putF "firsts" (.ref f) (putF "rooms" (.ref r) [])))) = nflds r f g t m := by
    rw [putF_nil, putF_ne n12, putF_nil, putF_ne n13, putF_ne n23, putF_nil, putF_ne n14, putF_ne n24, putF_ne n34, putF_nil, putF_ne n15, putF_ne n25, putF_ne n35, putF_ne n45, putF_nil]
    rfl
  generalize hHs : (upd (upd (upd (upd (upd (upd (upd (upd (upd (upd H r (.dK [])) n (.ins CN dx (putF "rooms" (.ref r) []))) f (.dK [])) n (.ins CN dx (putF "firsts" (.ref f) (putF "rooms" (.ref r) [])))) g (.dK [])) n (.ins CN dx (putF "givers" (.ref g) (putF "firsts" (.ref f) (putF "rooms" (.ref r) []))))) t (.dK [])) n (.ins CN dx (putF "takers" (.ref t) (putF "givers" (.ref g) (putF "firsts" (.ref f) (putF "rooms" (.ref r) [])))))) m (.dK [])) n (.ins CN dx (putF "members" (.ref m) (putF "takers" (.ref t) (putF "givers" (.ref g) (putF "firsts" (.ref f) (putF "rooms" (.ref r) []))))))) = Hs
  have B0 : NB Hs CN n r f g t m (roomsK (lanes.take 0)) [] [] [] [] := by
    subst hHs
    refine ⟨⟨dx, by rw [upd_same, eF]⟩, ?_, ?_, ?_, ?_, ?_, ⟨rf, rg, rt, rm, fg, ft, fm, gt, gm, tm⟩⟩
    · rw [upd_ne nr.symm, upd_ne rm, upd_ne nr.symm, upd_ne rt, upd_ne nr.symm, upd_ne rg, upd_ne nr.symm, upd_ne rf, upd_ne nr.symm, upd_same]; rfl
    · rw [upd_ne nf.symm, upd_ne fm, upd_ne nf.symm, upd_ne ft, upd_ne nf.symm, upd_ne fg, upd_ne nf.symm, upd_same]
    · rw [upd_ne ng.symm, upd_ne gm, upd_ne ng.symm, upd_ne gt, upd_ne ng.symm, upd_same]
    · rw [upd_ne nt.symm, upd_ne tm, upd_ne nt.symm, upd_same]
    · rw [upd_ne nm.symm, upd_same]
  have kn0 : KN n H Hs := by
    subst hHs
    intro b o e ne
    rw [upd_ne ne, upd_ne (ne_of_none e hm0), upd_ne ne, upd_ne (ne_of_none e ht0), upd_ne ne, upd_ne (ne_of_none e hg0), upd_ne ne, upd_ne (ne_of_none e hf0), upd_ne ne, upd_ne (ne_of_none e hr0)]
    exact e
  clear hHs
  have nla : la ≠ n := fun e => by rw [e, hn] at hla; cases hla
  have npa : pa ≠ n := fun e => by rw [e, hn] at hpa; cases hpa
  have knt : ∀ {H' : Hp} {b : Addr} {xs : List V}, KN n H H' → H b = some (.tup xs) → H' b = some (.tup xs) := fun k e => k _ _ e (fun z => by rw [z, hn] at e; cases e)
  have kns : ∀ {H' : Hp} {b : Addr} {xs : List V}, KN n H H' → SeqAt' H b xs → SeqAt' H' b xs := fun k e => e.imp (fun e => k _ _ e (fun z => by rw [z, hn] at e; cases e)) (fun e => k _ _ e (fun z => by rw [z, hn] at e; cases e))
  -- the lanes
  refine ⟨_, rfl, la, rfl, ⟨_, SqL.of (kn0 _ _ hla nla)⟩, for_list (K := K) (a := la) (xs := vl) (fun i σ H' => ∃ (kf : List (Key × V)) (v3 v4 v5 : Option V), σ = [some (.ref n), some (.ref la), some (.ref pa), v3, v4, v5, none, none, none, none, none] ∧ KN n H H' ∧ NB H' CN n r f g t m (roomsK (lanes.take i)) kf [] [] [] ∧ AllB (FirstAt H') kf (lanes.take i))
    ⟨[], none, none, none, rfl, kn0, B0, AllB.nil⟩ (by rintro i σ H' _ ⟨_, _, _, _, _, kn, _⟩; exact SqL.of (kn _ _ hla nla)) ?_ ?_⟩
  · rintro i x σ H' hx ⟨kf, v3, v4, v5, rfl, kn, B, af⟩
    obtain ⟨l, hl, tl, fl, rfl, h1, h2⟩ := al.get hx
    have lm : l ∈ lanes := List.mem_of_getElem? hl
    obtain ⟨nk, _, lok⟩ := ok.lok l lm
    obtain ⟨dy, hn'⟩ := B.ob
    have hil : i < lanes.length := (List.getElem?_eq_some_iff.mp hl).1
    have nin : l.name ∉ nms (lanes.take i) := by
      have z := not_mem_take ok.lnd (i := i) (x := l.name) (by rw [List.getElem?_map, hl]; rfl)
      unfold nms
      rw [List.map_take]
      exact z
    have vr : valV (roomsK (lanes.take i)) (Sum.inr l.name) = none := valV_none_iff.mpr (by rw [roomsK_keys, mem_inr]; exact nin)
    have vf : valV kf (Sum.inr l.name) = none := valV_none_iff.mpr (by rw [keysF af, mem_inr]; exact nin)
    have lr : (roomsK (lanes.take i)).length ≤ 20 := by unfold roomsK; rw [List.length_map, List.length_take]; omega
    have lf : kf.length ≤ 20 := by rw [af.1, List.length_take]; omega
    refine ⟨tl, _, rfl, SqT.of (knt kn h1), rfl, _, _, rfl, _, _, rfl, _, _, rfl, rfl, ?_⟩
    refine ⟨_, rfl, _, rfl, n, CN, dy, _, _, rfl, hn', T.cl, T.n1, nf_rooms, l.name, r, _, rfl, nk, B.hr, vr, ?_⟩
    refine ⟨_, rfl, _, rfl, _, rfl, l, fl, rfl, kns kn h2, lok, ?_⟩
    refine ⟨_, rfl, _, rfl, n, CN, dy, _, _, rfl, hn', T.cl, T.n1, nf_rooms, _, rfl, r, _, rfl, DPut.k (k := Sum.inr l.name) B.hr (small1000 (by omega)), ?_⟩
    rw [putK_new _ vr]
    have kd1 : KeepND H' (upd H' r (.dK (roomsK (lanes.take i) ++ [(Sum.inr l.name, V.int l.room)]))) := KeepND.upd B.hr
    have fn : ∀ {b : Addr} {o : HO}, H b = some o → H r = none → b ≠ r := fun e z => ne_of_none e z
    refine ⟨_, rfl, fl, _, rfl, (kns kn h2).nd kd1, fun T1 H2 s2 hT => ⟨_, rfl, n, CN, dy, _, _, rfl, s2 _ _ (kd1 _ _ (fun k e => by cases e) hn'), T.cl, T.n2, nf_firsts, _, rfl, f, _, rfl, DPut.k (k := Sum.inr l.name) (s2 _ _ (by rw [upd_ne rf.symm]; exact B.hf)) (small1000 (by omega)), ?_⟩⟩
    rw [putK_new _ vf]
    have hf2 : H2 f = some (.dK kf) := s2 _ _ (by rw [upd_ne rf.symm]; exact B.hf)
    have kd2 : KeepND H' (upd H2 f (.dK (kf ++ [(Sum.inr l.name, V.ref T1)]))) := kd1.trans ((KeepND.of s2).trans (KeepND.upd hf2))
    refine ⟨kf ++ [(Sum.inr l.name, V.ref T1)], _, _, _, rfl, ?_, ⟨⟨dy, kd2 _ _ (fun k e => by cases e) hn'⟩, ?_, upd_same, ?_, ?_, ?_, B.nd⟩, ?_⟩
    · refine kn.then_ fun c o e e' => ?_
      rw [upd_ne (ne_of_none e hf0)]
      exact s2 _ _ (by rw [upd_ne (ne_of_none e hr0)]; exact e')
    · rw [upd_ne rf, take_more hl, roomsK_snoc]; exact s2 _ _ upd_same
    · rw [upd_ne fg.symm]; exact s2 _ _ (by rw [upd_ne rg.symm]; exact B.hg)
    · rw [upd_ne ft.symm]; exact s2 _ _ (by rw [upd_ne rt.symm]; exact B.ht)
    · rw [upd_ne fm.symm]; exact s2 _ _ (by rw [upd_ne rm.symm]; exact B.hm)
    · rw [take_more hl]
      refine (af.imp fun v l' z => z.nd kd2).snoc ⟨rfl, T1, rfl, ?_⟩
      have hfT : T1 ≠ f := fun e => by rw [e, hf2] at hT; cases hT
      rw [upd_ne hfT]; exact hT
  rintro σ H1 ⟨kf1, v3, v4, v5, rfl, kn1, B1, af1⟩
  rw [el, List.take_length] at B1 af1
  -- the parts
  refine ⟨_, rfl, pa, rfl, ⟨_, SqL.of (kn1 _ _ hpa npa)⟩, for_list (K := K) (a := pa) (xs := vp) (fun i σ H' => ∃ (kf km : List (Key × V)) (v3 v4 v5 v6 v7 v8 v9 : Option V), σ = [some (.ref n), some (.ref la), some (.ref pa), v3, v4, v5, v6, v7, v8, v9, none] ∧ KN n H H' ∧
      NB H' CN n r f g t m (roomsK lanes) kf (endsK (fun p => p.outs) (parts.take i)) (endsK (fun p => p.ins) (parts.take i)) km ∧ AllB (FirstAt H') kf lanes ∧ AllB (MemAt kA H') km (parts.take i))
    ⟨kf1, [], v3, v4, v5, none, none, none, none, rfl, kn1, B1, af1, AllB.nil⟩ (by rintro i σ H' _ ⟨_, _, _, _, _, _, _, _, _, _, kn, _⟩; exact SqL.of (kn _ _ hpa npa)) ?_ ?_⟩
  · rintro i x σ H' hx ⟨kf, km, w3, w4, w5, w6, w7, w8, w9, rfl, kn, B, af, am⟩
    obtain ⟨p, hp, tp, na, ia, oa, rfl, h1, h2, h3, h4⟩ := ap.get hx
    have pm : p ∈ parts := List.mem_of_getElem? hp
    obtain ⟨nk, _, pok⟩ := ok.pok p pm
    obtain ⟨dy, hn'⟩ := B.ob
    have hip : i < parts.length := (List.getElem?_eq_some_iff.mp hp).1
    have nin : p.name ∉ (parts.take i).map (fun p : Pt => p.name) := by
      have z := not_mem_take ok.pnd (i := i) (x := p.name) (by rw [List.getElem?_map, hp]; rfl)
      rw [List.map_take]
      exact z
    have vm : valV km (Sum.inr p.name) = none := valV_none_iff.mpr (by rw [keysM am, mem_inr]; exact nin)
    obtain ⟨ni1, ni2⟩ := flat_nodup ndI hp
    obtain ⟨no1, no2⟩ := flat_nodup ndO hp
    have lane_in : ∀ l, l ∈ nms lanes → (valV (roomsK lanes) (Sum.inr l)).isSome = true := fun l hl => valV_some_iff.mpr (by rw [roomsK_keys, mem_inr]; exact hl)
    have lle : ∀ sel : Pt → List Str, (parts.flatMap sel).length ≤ 20 → (endsK sel (parts.take i)).length ≤ 500 := fun sel hs => by
      have e : (endsK sel (parts.take i)).length = ((parts.take i).flatMap sel).length := by
        have z := congrArg List.length (endsK_keys sel (parts.take i))
        simpa using z
      have e2 : parts.flatMap sel = (parts.take i).flatMap sel ++ (parts.drop i).flatMap sel := by rw [← List.flatMap_append, List.take_append_drop]
      rw [e2, List.length_append] at hs
      omega
    have lenI : (parts.flatMap (fun p : Pt => p.ins)).length ≤ 20 := by rw [ok.pi.length_eq, List.length_map]; exact l1
    have lenO : (parts.flatMap (fun p : Pt => p.outs)).length ≤ 20 := by rw [ok.po.length_eq, List.length_map]; exact l1
    have lkm : km.length ≤ 500 := by rw [am.1, List.length_take]; omega
    refine ⟨tp, _, rfl, SqT.of (knt kn h1), rfl, _, _, rfl, _, _, rfl, _, _, rfl, _, _, rfl, _, _, rfl, rfl, ?_⟩
    refine ⟨_, rfl, n, dy, _, rfl, hn', nf_no (by decide +kernel) (by decide +kernel) (by decide +kernel) (by decide +kernel) (by decide +kernel), _, rfl, _, rfl, _, rfl, _, rfl, _, rfl, p, n, r, f, g, t, m, na, ia, oa, _, _, _, _, _, rfl, B, kns kn h2, kns kn h3, kns kn h4, nk, pok, vm,
      fun l hl => lane_in l (ok.pi.mem_iff.mp (List.mem_flatMap.mpr ⟨p, pm, hl⟩)), fun l hl => lane_in l (ok.po.mem_iff.mp (List.mem_flatMap.mpr ⟨p, pm, hl⟩)), ni1, no1, fun l hl => valV_none_iff.mpr (by rw [endsK_keys, mem_inr]; exact ni2 l hl), fun l hl => valV_none_iff.mpr (by rw [endsK_keys, mem_inr]; exact no2 l hl),
      lle _ lenI, lle _ lenO, lkm, fun H2 x k2 nd2 B2 po2 => ?_⟩
    refine ⟨kf, km ++ [(Sum.inr p.name, V.ref x)], _, _, _, _, _, _, _, rfl, kn.then_ fun c o e e' => k2 c o e' (ne_of_none e hg0) (ne_of_none e ht0) (ne_of_none e hm0), ?_, af.imp fun v l z => z.nd nd2, ?_⟩
    · rw [take_more hp, endsK_snoc, endsK_snoc]; exact B2
    · rw [take_more hp]
      exact (am.imp fun v l z => z.nd nd2).snoc ⟨rfl, x, rfl, po2⟩
  rintro σ H2 ⟨kf, km, w3, w4, w5, w6, w7, w8, w9, rfl, kn2, B2, af2, am2⟩
  rw [ep, List.take_length] at B2 am2
  obtain ⟨dy, hn2⟩ := B2.ob
  -- every lane has both ends
  refine ⟨r, _, B2.hr, trivial, fun or => ?_⟩
  refine ⟨_, rfl, n, CN, dy, _, _, rfl, by rw [upd_ne nr]; exact hn2, T.cl, T.n1, nf_rooms, r, or, rfl, .inl ⟨_, upd_same, for_it walk_keys (fun i σ H' => ∃ v3, σ = [some (.ref n), some (.ref la), some (.ref pa), v3, w4, w5, w6, w7, w8, w9, none] ∧ H' = upd H2 r (.frz or (.dK (roomsK lanes)))) ⟨w3, rfl, rfl⟩ (by rintro i σ H' _ ⟨_, _, rfl⟩; exact upd_same) ?_ ?_⟩⟩
  · rintro i x σ H3 H4 hi ⟨v3, rfl, rfl⟩ ⟨rfl, k, v, hk, rfl⟩
    have hm : k ∈ (roomsK lanes).map (·.1) := List.mem_map.mpr ⟨_, List.mem_of_getElem? hk, rfl⟩
    rw [roomsK_keys] at hm
    obtain ⟨nl, hnl, rfl⟩ := List.mem_map.mp hm
    have hn3 : (upd H2 r (.frz or (.dK (roomsK lanes)))) n = some (.ins CN dy (nflds r f g t m)) := by rw [upd_ne nr]; exact hn2
    have vg : (valV (endsK (fun p => p.outs) parts) (Sum.inr nl : Key)).isSome = true := valV_some_iff.mpr (by rw [endsK_keys, mem_inr]; exact ok.po.mem_iff.mpr hnl)
    have vt : (valV (endsK (fun p => p.ins) parts) (Sum.inr nl : Key)).isSome = true := valV_some_iff.mpr (by rw [endsK_keys, mem_inr]; exact ok.pi.mem_iff.mpr hnl)
    refine ⟨_, rfl, _, rfl, n, CN, dy, _, _, rfl, hn3, T.cl, T.n3, nf_givers, g, _, rfl, DGet.k (k := Sum.inr nl) (by rw [upd_ne rg.symm]; exact B2.hg), _, rfl, ?_⟩
    rw [vg]
    refine ⟨_, rfl, _, rfl, n, CN, dy, _, _, rfl, hn3, T.cl, T.n4, nf_takers, t, _, rfl, DGet.k (k := Sum.inr nl) (by rw [upd_ne rt.symm]; exact B2.ht), _, rfl, ?_⟩
    rw [vt]
    exact ⟨_, rfl, rfl⟩
  rintro σ H3 ⟨v3, rfl, rfl⟩
  refine ⟨upd_same, ?_⟩
  rw [unlock_eq B2.hr]
  -- joined
  refine ⟨_, rfl, n, dy, _, rfl, hn2, nf_no (by decide +kernel) (by decide +kernel) (by decide +kernel) (by decide +kernel) (by decide +kernel), n, r, f, g, t, m, kf, km, lanes, parts, one, other, rfl, B2, am2, ok, fun H3 d fk hd0 s3 hd3 hall => ?_⟩
  have B3 := B2.same s3
  have dm : m ≠ d := ne_of_none B2.hm hd0
  have hn3 := s3 _ _ hn2
  refine ⟨m, _, B3.hm, trivial, fun om => ?_⟩
  refine ⟨_, rfl, n, CN, dy, _, _, rfl, by rw [upd_ne nm]; exact hn3, T.cl, T.n5, nf_members, m, om, rfl, .inl ⟨_, upd_same, for_it walk_keys (fun i σ H' => ∃ v3, σ = [some (.ref n), some (.ref la), some (.ref pa), v3, w4, w5, w6, w7, w8, w9, some (.ref d)] ∧ H' = upd H3 m (.frz om (.dK km))) ⟨_, rfl, rfl⟩ (by rintro i σ H' _ ⟨_, _, rfl⟩; exact upd_same) ?_ ?_⟩⟩
  · rintro i x σ H4 H5 hi ⟨v4, rfl, rfl⟩ ⟨rfl, k, v, hk, rfl⟩
    obtain ⟨p, hp, mp⟩ := am2.get hk
    obtain rfl : k = Sum.inr p.name := mp.1
    refine ⟨_, rfl, _, rfl, d, _, rfl, DGet.k (k := Sum.inr p.name) (by rw [upd_ne dm.symm]; exact hd3), _, rfl, ?_⟩
    rw [hall p (List.mem_of_getElem? hp)]
    exact ⟨_, rfl, rfl⟩
  · rintro σ H4 ⟨v4, rfl, rfl⟩
    refine ⟨upd_same, ?_⟩
    rw [unlock_eq B3.hm]
    exact q H3 (fun b o e ne => s3 _ _ (kn2 b o e ne)) ⟨r, f, g, t, m, kf, km, B3, af2.imp fun v l z => z.same s3, am2.imp fun v l z => z.same s3⟩
end
end K21
/-! the program: NoSuch -/
namespace K21
open PySem PySem.Spec PyProof.Rows L2 TL
abbrev sNSInit : Stmt := inClass (top 7) 0
structure NSFacts (K : PySem.W.Frag) (mg : Str → Option Value) (CS LE : Addr) : Prop where
  oex : OexC K CS
  gl : mg "NoSuch" = some (.ref CS)
  xf : XfC K CS
  noN : PySem.W.findIn K (.ref CS) "name" = some none
  te : PySem.W.exmOne K (.ref CS) (.ref CS) = some true
  init : ∃ f fd, Fun K "__init__" "NoSuch.__init__" sNSInit f fd ∧ PySem.W.findIn K (.ref CS) "__init__" = some (some (.ref f)) ∧ PySem.W.typeIn K (.ref f) = some (.type "function")
  le : mg "LaneError" = some (.ref LE)
  rd : ClX.CRead K LE (.type "type")
  li : PySem.W.findCls K (.ref LE) (.type "type") "__init__" = some (.val (.builtin "ValueError.__init__"))
section
variable {X : Cx} {e : Expr} {es : List Expr} {ta : TA} {p1 p2 p pos : Pos} {LE CS : Addr}
/-- LaneError.__init__(self, ..) -/
theorem pe_leinit {pl : Sem Bool} (hg : Gl X "LaneError") (hm : X.mg "LaneError" = some (.ref LE)) (r : ClX.CRead X.K LE (.type "type")) (li : PySem.W.findCls X.K (.ref LE) (.type "type") "__init__" = some (.val (.builtin "ValueError.__init__"))) (ha : PA X (e :: es) ta)
    (hc : eval (.Call (.Attribute (.Name "LaneError" p1) "__init__" p2) (e :: es) [] pos) X.env = (do
      let ov ← eval (.Name "LaneError" p1) X.env
      standAt p2.atName
      let (f, first) ← holding [ov]
          (getMethod ov "__init__" pl)
      callWith pos f first (backTo pos (starEach (e :: es) X.env))
          (backToKw pos (keywordEach [] X.env))) := by rfl)
    (he : starEach (e :: es) X.env = (false, eval e X.env) :: starEach es X.env := by rfl)
        (hpl : (backTo pos (starEach es X.env)).any (·.1) = false := by rfl) :
    PE X (.Call (.Attribute (.Name "LaneError" p1) "__init__" p2) (e :: es) [] pos) (tVeI X.K ta) := by
  refine ⟨fun pins s σ
      H Q I h => ?_⟩
  refine PySem.W.methodCall_KW (ld_glob I hg hm ?_ (by decide)) hc
  refine PySem.W.method_cls I.kIn r.ga (PySem.W.cls_value I.kIn r.rd li (by decide +kernel) ?_)
  show wpAny _ _ (callWith pos (Value.builtin "ValueError.__init__")
      [] (backTo pos (starEach (e :: es) X.env)) []) _ _ _
  have I0 := I.tok (s.toks + 1)
  refine PyProof.Rows.callWith_method1 (thn (ha.run pos pins _ σ H _ I0 h) fun us s1 hh => ?_) he hpl
  obtain ⟨vs, H1, I1, r1, a, C, ws, ev, hl, T, ea, q⟩ := hh
  subst ev
  cases r1 with
  | @cons _ u0 _ ur ra rw' =>
    obtain rfl : u0 =
        Value.ref a := ra
    have hlen : ur.length
        ≤ sizeLine := by
      rw [← Paired.length
          rw', sizeLine_eq]
      omega
    exact oinit_ok T I1 ea hlen fun s'
        J => ⟨.non, H1, J, rfl, q⟩
end
def spNSInit (CS : Addr) : Sp := fun vs H Q _ => ∃ (a : Addr) (nm : Str), vs = [.ref a, .str nm] ∧ H a = some (exo a CS none) ∧
  ∀ (d : Addr) (H' : Hp), H d = none → d ≠ a → H' a = some (exo a CS (some d)) → H' d = some (exd d [(("name" : Str), V.str nm)]) → (∀ b, b ≠ a → b ≠ d → H' b = H b) → Q .non H'
section
variable {P : Program} {w : World} {K : PySem.W.Frag} {mg : Str → Option Value} {base : Heap} {CS LE : Addr}
theorem scNSInit : FnScope ["self", "name"] ["self", "name"] (defScope sNSInit) := ⟨rfl, rfl, rfl, by decide +kernel, rfl, by decide +kernel, by decide +kernel⟩
structure NSCal (P : Program) (w : World) (K : PySem.W.Frag) (mg : Str → Option Value) (base : Heap) (CS LE : Addr) : Prop where
  T : NSFacts K mg CS LE
  ex : ∃ f fd, PySem.W.findIn K (.ref CS) "__init__" = some (some (.ref f)) ∧ PySem.W.typeIn K (.ref f) = some (.type "function") ∧ Binds K fd ["self", "name"] [] ∧ FnOk P w K mg base CX0 1 f fd ["self", "name"] (spNSInit CS)
theorem ok_nsinit (T : NSFacts K mg CS LE) : NSCal P w K mg base CS LE := by
  obtain ⟨f, fd, F, iC, tI⟩ := T.init
  refine ⟨T, f, fd, iC, tI, F.binds (fun _ _ _ _ _ _ us hl => match us, hl with | [_, _], _ => rfl), F.ok scNSInit (fun vs H Q E h => ?_) (fun cdv A0 outer s H vs Q E hr h => ?_)⟩
  · obtain ⟨_, _, rfl, _⟩ := h
    rfl
  · obtain ⟨a, nm, rfl, ha, q⟩ := h
    refine ⟨_, pss_cons (ps_expr (pe_leinit (by rfl) T.le T.rd T.li (pa_cons (pv 0) (pa_cons pe_str pa_nil)))) (pss_one (ps_ost (pv 0) (pv 1))), ?_⟩
    refine ⟨_, rfl, a, CS, _, rfl, by decide, T.oex, ha, ?_⟩
    refine ⟨_, rfl, _, rfl, a, CS, rfl, T.oex, T.noN, .inl ⟨ha, fun d hd hne => ?_⟩⟩
    refine q d _ hd hne upd_same ?_ fun b hb hb' => ?_
    · rw [upd_ne hne, upd_same]
    · rw [upd_ne hb, upd_ne hb']
end
section
variable {X : Cx} {e : Expr} {te : TE} {p pos : Pos} {LE CS : Addr}
/-- raise NoSuch(e) -/
theorem ps_noSuch {W : WX} (hc : X.calm = true) (N : NSCal X.prog X.w X.K X.mg X.base CS LE) (hr : Room 2 X.A) (tk : Takes X W) (he : PE X e te) (hg : Gl X "NoSuch" := by rfl) (hs : starEach [e] X.env = (false, eval e X.env) :: starEach [] X.env := by rfl) (hpl : (backTo pos (starEach [] X.env)).any (·.1) = false := by rfl) {pos2 : Pos} :
    PS X (.Raise (some (.Call (.Name "NoSuch" p) [e] [] pos)) none pos2) (fun _ σ H => tMkO CS (spNSInit CS) [] (tCons te tNil) σ H fun cls d H' => W cls d σ H') := by
  obtain ⟨f, fd, iC, tI, b, F⟩ := N.ex
  exact ps_raise hc tk (pmk_oex N.T.oex iC tI F hr b .nil pass0 hg N.T.gl (pa_cons he pa_nil hs) (by decide) hs hpl)
end
/-- what is asked behind the argument: for every new dict the way out -/
theorem ns_made {H1 : Hp} {nm : Str} {CS : Addr} {Q : XK} (h : ∀ (d : Addr) (H' : Hp), H1 d = none → Same H1 H' → H' d = some (.xd [(("name" : Str), V.str nm)]) → Q (.ref CS) (some d) H') :
    [V.str nm].length ≤ 1000 ∧ ∀ a, H1 a = none → spNSInit CS (.ref a :: ([V.str nm] ++ [])) (upd H1 a (exo a CS none))
      (fun v H2 => v = .non ∧ ∃ (d : Addr) (fs : List (Str × V)), H2 a = some (exo a CS (some d)) ∧ H2 d = some (exd d fs) ∧ H1 d = none ∧ Q (.ref CS) (some d) (upd (del H2 a) d (.xd fs))) (fun _ _ _ => False) := by
  refine ⟨by show 1 ≤ 1000; decide, fun a ha => ⟨a, nm, rfl, upd_same, fun d H2 hd hne e1 e2 k => ⟨rfl, d, _, e1, e2, ?_, ?_⟩⟩⟩
  · rw [upd_ne hne] at hd; exact hd
  · rw [upd_ne hne] at hd
    refine h d _ hd (fun b o e => ?_) upd_same
    have ba : b ≠ a := ne_of_none e ha
    have bd : b ≠ d := ne_of_none e hd
    rw [upd_ne bd, del_ne ba, k b ba bd, upd_ne ba]
    exact e
end K21
/-! the program: what a net tells by a name -/
namespace K21
open PySem PySem.Spec PyProof.Rows L2 TL
abbrev sLaneNames : Stmt := inClass (top 42) 4
abbrev sPartNames : Stmt := inClass (top 42) 5
abbrev sNeedLane : Stmt := inClass (top 42) 6
abbrev sRoomOf : Stmt := inClass (top 42) 7
abbrev sFirstOf : Stmt := inClass (top 42) 8
abbrev sGiverOf : Stmt := inClass (top 42) 9
abbrev sTakerOf : Stmt := inClass (top 42) 10
abbrev sPartOf : Stmt := inClass (top 42) 11
/-- a name that is not there: the error's own dict, new -/
def Miss (CS : Addr) (nm : Str) (H : Hp) (E : XK) : Prop := ∀ (d : Addr) (H' : Hp), H d = none → Same H H' → H' d = some (.xd [(("name" : Str), V.str nm)]) → E (.ref CS) (some d) H'
def spLaneNames (kA : Kd → Addr) (CN : Addr) : Sp := fun vs H Q _ => ∃ (n : Addr) (lanes : List Ln) (parts : List Pt), vs = [.ref n] ∧ NetAt kA CN H n lanes parts ∧ ∀ q, H q = none → Q (.ref q) (upd H q (.lst ((nms lanes).map V.str)))
def spPartNames (kA : Kd → Addr) (CN : Addr) : Sp := fun vs H Q _ => ∃ (n : Addr) (lanes : List Ln) (parts : List Pt), vs = [.ref n] ∧ NetAt kA CN H n lanes parts ∧ ∀ q, H q = none → Q (.ref q) (upd H q (.lst ((parts.map fun p => p.name).map V.str)))
def spNeedLane (CN CS : Addr) : Sp := fun vs H Q E => ∃ (n dx r f g t m : Addr) (nm : Str) (kr : List (Key × V)), vs = [.ref n, .str nm] ∧ H n = some (.ins CN dx (nflds r f g t m)) ∧ H r = some (.dK kr) ∧
  ((valV kr (Sum.inr nm : Key)).isSome = true → Q .non H) ∧ ((valV kr (Sum.inr nm : Key)).isSome = false → Miss CS nm H E)
/-- a method of a lane's name: hit tells what it gives -/
def spLane_ (kA : Kd → Addr) (CN CS : Addr) (hit : Hp → VK → List Ln → List Pt → Str → Prop) : Sp := fun vs H Q E => ∃ (n : Addr) (nm : Str) (lanes : List Ln) (parts : List Pt) (one other : Int), vs = [.ref n, .str nm] ∧ NetAt kA CN H n lanes parts ∧ NetOk lanes parts one other ∧
  (nm ∈ nms lanes → hit H Q lanes parts nm) ∧ (nm ∉ nms lanes → Miss CS nm H E)
def hitRoom (H : Hp) (Q : VK) (lanes : List Ln) (parts : List Pt) (nm : Str) : Prop := ∀ l ∈ lanes, l.name = nm → Q (.int l.room) H
def hitFirst (H : Hp) (Q : VK) (lanes : List Ln) (parts : List Pt) (nm : Str) : Prop := ∀ l ∈ lanes, l.name = nm → ∀ q, H q = none → Q (.ref q) (upd H q (.lst (l.first.map V.int)))
def hitGiver (H : Hp) (Q : VK) (lanes : List Ln) (parts : List Pt) (nm : Str) : Prop := ∀ p ∈ parts, nm ∈ p.outs → Q (.str p.name) H
def hitTaker (H : Hp) (Q : VK) (lanes : List Ln) (parts : List Pt) (nm : Str) : Prop := ∀ p ∈ parts, nm ∈ p.ins → Q (.str p.name) H
def spPartOf (kA : Kd → Addr) (CN CS : Addr) : Sp := fun vs H Q E => ∃ (n : Addr) (nm : Str) (lanes : List Ln) (parts : List Pt) (one other : Int), vs = [.ref n, .str nm] ∧ NetAt kA CN H n lanes parts ∧ NetOk lanes parts one other ∧
  (∀ p ∈ parts, p.name = nm → ∀ x, PObj H (kA p.kd) x p.name p.nums p.ins p.outs → Q (.ref x) H) ∧ (nm ∉ parts.map (fun p : Pt => p.name) → Miss CS nm H E)
section
variable {P : Program} {w : World} {K : PySem.W.Frag} {mg : Str → Option Value} {base : Heap} {kA : Kd → Addr} {CN CS LE : Addr}
theorem scLaneNames : FnScope ["self"] ["self"] (defScope sLaneNames) := ⟨rfl, rfl, rfl, by decide +kernel, rfl, by decide +kernel, by decide +kernel⟩
theorem ok_lanenames (G : MF K CN "lane_names" "Net.lane_names" sLaneNames) (T : NCls K mg CN) (hlist : mg "list" = none) : MCal P w K mg base CX0 CN 1 "lane_names" ["self"] (spLaneNames kA CN) := by
  refine G.cal scLaneNames (fun _ _ _ _ _ _ us hl => match us, hl with | [_], _ => rfl) (fun vs H Q E h => by obtain ⟨_, _, _, rfl, _⟩ := h; rfl) (fun fa cdv A0 outer s H vs Q E hr h => ?_)
  obtain ⟨n, lanes, parts, rfl, N, q⟩ := h
  obtain ⟨r, f, g, t, m, kf, km, B, af, am⟩ := N.ex
  obtain ⟨dx, hn⟩ := B.ob
  refine ⟨_, (pss_one (ps_ret (pe_callTy (call_list_dK rfl) (by rfl) hlist (by decide +kernel) (pa_cons (pe_fld (pv 0) rfl) pa_nil)))), ?_⟩
  refine ⟨_, rfl, n, CN, dx, _, _, rfl, hn, T.cl, T.n1, nf_rooms, r, _, rfl, B.hr, fun l hl => ?_⟩
  have e : (roomsK lanes).map (fun kv => kV kv.1) = (nms lanes).map V.str := by
    unfold roomsK nms
    rw [List.map_map, List.map_map]; rfl
  rw [e]
  exact q l hl
theorem scPartNames : FnScope ["self"] ["self"] (defScope sPartNames) := ⟨rfl, rfl, rfl, by decide +kernel, rfl, by decide +kernel, by decide +kernel⟩
theorem ok_partnames (G : MF K CN "part_names" "Net.part_names" sPartNames) (T : NCls K mg CN) (hlist : mg "list" = none) : MCal P w K mg base CX0 CN 1 "part_names" ["self"] (spPartNames kA CN) := by
  refine G.cal scPartNames (fun _ _ _ _ _ _ us hl => match us, hl with | [_], _ => rfl) (fun vs H Q E h => by obtain ⟨_, _, _, rfl, _⟩ := h; rfl) (fun fa cdv A0 outer s H vs Q E hr h => ?_)
  obtain ⟨n, lanes, parts, rfl, N, q⟩ := h
  obtain ⟨r, f, g, t, m, kf, km, B, af, am⟩ := N.ex
  obtain ⟨dx, hn⟩ := B.ob
  refine ⟨_, (pss_one (ps_ret (pe_callTy (call_list_dK rfl) (by rfl) hlist (by decide +kernel) (pa_cons (pe_fld (pv 0) rfl) pa_nil)))), ?_⟩
  refine ⟨_, rfl, n, CN, dx, _, _, rfl, hn, T.cl, T.n5, nf_members, m, _, rfl, B.hm, fun l hl => ?_⟩
  have e : km.map (fun kv => kV kv.1) = (parts.map fun p => p.name).map V.str := by
    have z := congrArg (List.map kV) (keysM am)
    rw [List.map_map, List.map_map] at z
    exact z
  rw [e]
  exact q l hl
theorem scNeedLane : FnScope ["self", "name"] ["self", "name"] (defScope sNeedLane) := ⟨rfl, rfl, rfl, by decide +kernel, rfl, by decide +kernel, by decide +kernel⟩
theorem ok_needlane (G : MF K CN "need_lane" "Net.need_lane" sNeedLane) (T : NCls K mg CN) (N : NSCal P w K mg base CS LE) : MCal P w K mg base (L2.CX P w) CN 3 "need_lane" ["self", "name"] (spNeedLane CN CS) := by
  refine G.calX scNeedLane (fun _ _ _ _ _ _ us hl => match us, hl with | [_, _], _ => rfl) (fun vs H Q E h => by obtain ⟨_, _, _, _, _, _, _, _, _, rfl, _⟩ := h; rfl) (fun fa cdv A0 outer s H vs Q E hr h => ?_)
  obtain ⟨n, dx, r, f, g, t, m, nm, kr, rfl, hn, hrr, q1, q2⟩ := h
  have hu := hu_of hr
  refine ⟨_, (pss_one (ps_if (pt_cmp (pc_dnotin hu (pv 1) (pe_fld (pv 0) rfl))) (pss_one (ps_noSuch (W := fun cls d _ H => E cls d H) rfl N hr (takes_of rfl rfl rfl rfl) (pv 1))) pss_nil)), ?_⟩
  refine ⟨_, rfl, _, rfl, n, CN, dx, _, _, rfl, hn, T.cl, T.n1, nf_rooms, r, _, rfl, DGet.k (k := Sum.inr nm) hrr, _, rfl, ?_⟩
  cases e : (valV kr (Sum.inr nm : Key)).isSome with
  | true => exact q1 e
  | false => exact ⟨_, rfl, ns_made (q2 e)⟩
theorem scRoomOf : FnScope ["self", "name"] ["self", "name"] (defScope sRoomOf) := ⟨rfl, rfl, rfl, by decide +kernel, rfl, by decide +kernel, by decide +kernel⟩
theorem ok_roomof (G : MF K CN "room_of" "Net.room_of" sRoomOf) (T : NCls K mg CN) (ML : MCal P w K mg base (L2.CX P w) CN 3 "need_lane" ["self", "name"] (spNeedLane CN CS)) : MCal P w K mg base (L2.CX P w) CN 4 "room_of" ["self", "name"] (spLane_ kA CN CS hitRoom) := by
  refine G.calX scRoomOf (fun _ _ _ _ _ _ us hl => match us, hl with | [_, _], _ => rfl) (fun vs H Q E h => by obtain ⟨_, _, _, _, _, _, rfl, _⟩ := h; rfl) (fun fa cdv A0 outer s H vs Q E hr h => ?_)
  obtain ⟨n, nm, lanes, parts, one, other, rfl, N, ok, q1, q2⟩ := h
  have hu := hu_of hr
  obtain ⟨r, f, g, t, m, kf, km, B, af, am⟩ := N.ex
  obtain ⟨dx, hn⟩ := B.ob
  refine ⟨_, (pss_cons (ps_expr (pe_methG ML (pv 0) T.cl (hr.mono (by decide)) (passes_call (W := fun cls d _ H => E cls d H) (E := E) (takes_of rfl rfl rfl rfl) (fun _ _ _ _ h => h)) (pa_cons (pv 1) pa_nil)))
    (pss_one (ps_ret (pe_dget hu (pe_fld (pv 0) rfl) (pv 1) (fun _ _ => rfl))))), ?_⟩
  refine ⟨_, rfl, n, dx, _, rfl, hn, nf_no (by decide +kernel) (by decide +kernel) (by decide +kernel) (by decide +kernel) (by decide +kernel), _, rfl, n, dx, r, f, g, t, m, nm, _, rfl, hn, B.hr, fun e => ?_, fun e => ?_⟩
  · have hm : nm ∈ nms lanes := by have z := valV_some_iff.mp e; rw [roomsK_keys, mem_inr] at z; exact z
    obtain ⟨l, hl, rfl⟩ := List.mem_map.mp hm
    exact ⟨_, rfl, n, CN, dx, _, _, rfl, hn, T.cl, T.n1, nf_rooms, _, rfl, r, _, rfl, DGet.some_ (k := Sum.inr l.name) B.hr (rooms_val ok.lnd hl), q1 hm l hl rfl⟩
  · refine q2 fun hm => ?_
    have z := valV_some_iff.mpr (show (Sum.inr nm : Key) ∈ (roomsK lanes).map (·.1) by rw [roomsK_keys, mem_inr]; exact hm)
    rw [e] at z; cases z
theorem scFirstOf : FnScope ["self", "name"] ["self", "name"] (defScope sFirstOf) := ⟨rfl, rfl, rfl, by decide +kernel, rfl, by decide +kernel, by decide +kernel⟩
theorem ok_firstof (G : MF K CN "first_of" "Net.first_of" sFirstOf) (T : NCls K mg CN) (ML : MCal P w K mg base (L2.CX P w) CN 3 "need_lane" ["self", "name"] (spNeedLane CN CS)) (hlist : mg "list" = none) : MCal P w K mg base (L2.CX P w) CN 4 "first_of" ["self", "name"] (spLane_ kA CN CS hitFirst) := by
  refine G.calX scFirstOf (fun _ _ _ _ _ _ us hl => match us, hl with | [_, _], _ => rfl) (fun vs H Q E h => by obtain ⟨_, _, _, _, _, _, rfl, _⟩ := h; rfl) (fun fa cdv A0 outer s H vs Q E hr h => ?_)
  obtain ⟨n, nm, lanes, parts, one, other, rfl, N, ok, q1, q2⟩ := h
  have hu := hu_of hr
  obtain ⟨r, f, g, t, m, kf, km, B, af, am⟩ := N.ex
  obtain ⟨dx, hn⟩ := B.ob
  refine ⟨_, (pss_cons (ps_expr (pe_methG ML (pv 0) T.cl (hr.mono (by decide)) (passes_call (W := fun cls d _ H => E cls d H) (E := E) (takes_of rfl rfl rfl rfl) (fun _ _ _ _ h => h)) (pa_cons (pv 1) pa_nil)))
    (pss_one (ps_ret (pe_callTy call_list_of (by rfl) hlist (by decide +kernel) (pa_cons (pe_dget hu (pe_fld (pv 0) rfl) (pv 1) (fun _ _ => rfl)) pa_nil))))), ?_⟩
  refine ⟨_, rfl, n, dx, _, rfl, hn, nf_no (by decide +kernel) (by decide +kernel) (by decide +kernel) (by decide +kernel) (by decide +kernel), _, rfl, n, dx, r, f, g, t, m, nm, _, rfl, hn, B.hr, fun e => ?_, fun e => ?_⟩
  · have hm : nm ∈ nms lanes := by have z := valV_some_iff.mp e; rw [roomsK_keys, mem_inr] at z; exact z
    obtain ⟨l, hl, rfl⟩ := List.mem_map.mp hm
    obtain ⟨i, hi, ei⟩ := List.mem_iff_getElem.mp hl
    obtain ⟨kv, hkv, hk1, tu, hk2, htu⟩ := af.of (i := i) (l := l) (by rw [List.getElem?_eq_getElem hi, ei])
    have vf : valV kf (Sum.inr l.name : Key) = some (.ref tu) := by
      refine valV_mem (by rw [keysF af]; exact nd_inr ok.lnd) ?_
      have z := List.mem_of_getElem? hkv
      rw [← hk1, ← hk2]; exact z
    exact ⟨_, rfl, n, CN, dx, _, _, rfl, hn, T.cl, T.n2, nf_firsts, _, rfl, f, _, rfl, DGet.some_ (k := Sum.inr l.name) B.hf vf, tu, _, rfl, .inr (SqT.of htu), q1 hm l hl rfl⟩
  · refine q2 fun hm => ?_
    have z := valV_some_iff.mpr (show (Sum.inr nm : Key) ∈ (roomsK lanes).map (·.1) by rw [roomsK_keys, mem_inr]; exact hm)
    rw [e] at z; cases z
theorem scGiverOf : FnScope ["self", "name"] ["self", "name"] (defScope sGiverOf) := ⟨rfl, rfl, rfl, by decide +kernel, rfl, by decide +kernel, by decide +kernel⟩
theorem ok_giverof (G : MF K CN "giver_of" "Net.giver_of" sGiverOf) (T : NCls K mg CN) (ML : MCal P w K mg base (L2.CX P w) CN 3 "need_lane" ["self", "name"] (spNeedLane CN CS)) : MCal P w K mg base (L2.CX P w) CN 4 "giver_of" ["self", "name"] (spLane_ kA CN CS hitGiver) := by
  refine G.calX scGiverOf (fun _ _ _ _ _ _ us hl => match us, hl with | [_, _], _ => rfl) (fun vs H Q E h => by obtain ⟨_, _, _, _, _, _, rfl, _⟩ := h; rfl) (fun fa cdv A0 outer s H vs Q E hr h => ?_)
  obtain ⟨n, nm, lanes, parts, one, other, rfl, N, ok, q1, q2⟩ := h
  have hu := hu_of hr
  obtain ⟨r, f, g, t, m, kf, km, B, af, am⟩ := N.ex
  obtain ⟨dx, hn⟩ := B.ob
  refine ⟨_, (pss_cons (ps_expr (pe_methG ML (pv 0) T.cl (hr.mono (by decide)) (passes_call (W := fun cls d _ H => E cls d H) (E := E) (takes_of rfl rfl rfl rfl) (fun _ _ _ _ h => h)) (pa_cons (pv 1) pa_nil)))
    (pss_one (ps_ret (pe_dget hu (pe_fld (pv 0) rfl) (pv 1) (fun _ _ => rfl))))), ?_⟩
  refine ⟨_, rfl, n, dx, _, rfl, hn, nf_no (by decide +kernel) (by decide +kernel) (by decide +kernel) (by decide +kernel) (by decide +kernel), _, rfl, n, dx, r, f, g, t, m, nm, _, rfl, hn, B.hr, fun e => ?_, fun e => ?_⟩
  · have hm : nm ∈ nms lanes := by have z := valV_some_iff.mp e; rw [roomsK_keys, mem_inr] at z; exact z
    obtain ⟨p, hp, hl⟩ := List.mem_flatMap.mp (ok.po.mem_iff.mpr hm)
    exact ⟨_, rfl, n, CN, dx, _, _, rfl, hn, T.cl, T.n3, nf_givers, _, rfl, g, _, rfl, DGet.some_ (k := Sum.inr nm) B.hg (ends_val (ok.po.nodup_iff.mpr ok.lnd) hp hl), q1 hm p hp hl⟩
  · refine q2 fun hm => ?_
    have z := valV_some_iff.mpr (show (Sum.inr nm : Key) ∈ (roomsK lanes).map (·.1) by rw [roomsK_keys, mem_inr]; exact hm)
    rw [e] at z; cases z
theorem scTakerOf : FnScope ["self", "name"] ["self", "name"] (defScope sTakerOf) := ⟨rfl, rfl, rfl, by decide +kernel, rfl, by decide +kernel, by decide +kernel⟩
theorem ok_takerof (G : MF K CN "taker_of" "Net.taker_of" sTakerOf) (T : NCls K mg CN) (ML : MCal P w K mg base (L2.CX P w) CN 3 "need_lane" ["self", "name"] (spNeedLane CN CS)) : MCal P w K mg base (L2.CX P w) CN 4 "taker_of" ["self", "name"] (spLane_ kA CN CS hitTaker) := by
  refine G.calX scTakerOf (fun _ _ _ _ _ _ us hl => match us, hl with | [_, _], _ => rfl) (fun vs H Q E h => by obtain ⟨_, _, _, _, _, _, rfl, _⟩ := h; rfl) (fun fa cdv A0 outer s H vs Q E hr h => ?_)
  obtain ⟨n, nm, lanes, parts, one, other, rfl, N, ok, q1, q2⟩ := h
  have hu := hu_of hr
  obtain ⟨r, f, g, t, m, kf, km, B, af, am⟩ := N.ex
  obtain ⟨dx, hn⟩ := B.ob
  refine ⟨_, (pss_cons (ps_expr (pe_methG ML (pv 0) T.cl (hr.mono (by decide)) (passes_call (W := fun cls d _ H => E cls d H) (E := E) (takes_of rfl rfl rfl rfl) (fun _ _ _ _ h => h)) (pa_cons (pv 1) pa_nil)))
    (pss_one (ps_ret (pe_dget hu (pe_fld (pv 0) rfl) (pv 1) (fun _ _ => rfl))))), ?_⟩
  refine ⟨_, rfl, n, dx, _, rfl, hn, nf_no (by decide +kernel) (by decide +kernel) (by decide +kernel) (by decide +kernel) (by decide +kernel), _, rfl, n, dx, r, f, g, t, m, nm, _, rfl, hn, B.hr, fun e => ?_, fun e => ?_⟩
  · have hm : nm ∈ nms lanes := by have z := valV_some_iff.mp e; rw [roomsK_keys, mem_inr] at z; exact z
    obtain ⟨p, hp, hl⟩ := List.mem_flatMap.mp (ok.pi.mem_iff.mpr hm)
    exact ⟨_, rfl, n, CN, dx, _, _, rfl, hn, T.cl, T.n4, nf_takers, _, rfl, t, _, rfl, DGet.some_ (k := Sum.inr nm) B.ht (ends_val (ok.pi.nodup_iff.mpr ok.lnd) hp hl), q1 hm p hp hl⟩
  · refine q2 fun hm => ?_
    have z := valV_some_iff.mpr (show (Sum.inr nm : Key) ∈ (roomsK lanes).map (·.1) by rw [roomsK_keys, mem_inr]; exact hm)
    rw [e] at z; cases z
theorem scPartOf : FnScope ["self", "name"] ["self", "name"] (defScope sPartOf) := ⟨rfl, rfl, rfl, by decide +kernel, rfl, by decide +kernel, by decide +kernel⟩
theorem ok_partof (G : MF K CN "part_of" "Net.part_of" sPartOf) (T : NCls K mg CN) (N : NSCal P w K mg base CS LE) : MCal P w K mg base (L2.CX P w) CN 3 "part_of" ["self", "name"] (spPartOf kA CN CS) := by
  refine G.calX scPartOf (fun _ _ _ _ _ _ us hl => match us, hl with | [_, _], _ => rfl) (fun vs H Q E h => by obtain ⟨_, _, _, _, _, _, rfl, _⟩ := h; rfl) (fun fa cdv A0 outer s H vs Q E hr h => ?_)
  obtain ⟨n, nm, lanes, parts, one, other, rfl, NA, ok, q1, q2⟩ := h
  have hu := hu_of hr
  obtain ⟨r, f, g, t, m, kf, km, B, af, am⟩ := NA.ex
  obtain ⟨dx, hn⟩ := B.ob
  refine ⟨_, (pss_cons (ps_if (pt_cmp (pc_dnotin hu (pv 1) (pe_fld (pv 0) rfl))) (pss_one (ps_noSuch (W := fun cls d _ H => E cls d H) rfl N hr (takes_of rfl rfl rfl rfl) (pv 1))) pss_nil)
    (pss_one (ps_ret (pe_dget hu (pe_fld (pv 0) rfl) (pv 1) (fun _ _ => rfl))))), ?_⟩
  refine ⟨_, rfl, _, rfl, n, CN, dx, _, _, rfl, hn, T.cl, T.n5, nf_members, m, _, rfl, DGet.k (k := Sum.inr nm) B.hm, _, rfl, ?_⟩
  cases e : (valV km (Sum.inr nm : Key)).isSome with
  | true =>
    have z := valV_some_iff.mp e
    rw [keysM am, mem_inr] at z
    obtain ⟨p, hp, rfl⟩ := List.mem_map.mp z
    obtain ⟨i, hi, ei⟩ := List.mem_iff_getElem.mp hp
    obtain ⟨kv, hkv, hk1, x, hk2, po⟩ := am.of (i := i) (l := p) (by rw [List.getElem?_eq_getElem hi, ei])
    have vm : valV km (Sum.inr p.name : Key) = some (.ref x) := by
      refine valV_mem (by rw [keysM am]; exact nd_inr ok.pnd) ?_
      have z := List.mem_of_getElem? hkv
      rw [← hk1, ← hk2]; exact z
    exact ⟨_, rfl, n, CN, dx, _, _, rfl, hn, T.cl, T.n5, nf_members, _, rfl, m, _, rfl, DGet.some_ (k := Sum.inr p.name) B.hm vm, q1 p hp rfl x po⟩
  | false =>
    refine ⟨_, rfl, ns_made (q2 fun hm => ?_)⟩
    have z := valV_some_iff.mpr (show (Sum.inr nm : Key) ∈ km.map (·.1) by rw [keysM am, mem_inr]; exact hm)
    rw [e] at z; cases z
end
end K21
/-! the program: what a net tells of its parts -/
namespace K21
open PySem PySem.Spec PyProof.Rows L2 TL
abbrev sOfKinds : Stmt := inClass (top 42) 12
abbrev sGives : Stmt := inClass (top 42) 13
abbrev sTakes : Stmt := inClass (top 42) 14
abbrev sOdd : Stmt := inClass (top 42) 15
abbrev sTold : Stmt := inClass (top 42) 16
def selP (ws : List Str) (parts : List Pt) : List Pt := parts.filter fun p => inV (.str p.kd.word) (ws.map V.str)
def selN (ws : List Str) (parts : List Pt) : List V := (selP ws parts).map fun p => V.str p.name
theorem flat_strs (ws : List Str) : (ws.map V.str).all flatV = true := by
  rw [List.all_map, List.all_eq_true]
  intro x _; rfl
theorem selN_snoc {ws : List Str} {ps : List Pt} {p : Pt} : selN ws (ps ++ [p]) = if inV (.str p.kd.word) (ws.map V.str) = true then selN ws ps ++ [V.str p.name] else selN ws ps := by
  unfold selN selP
  rw [List.filter_append, List.filter_cons]
  split <;> simp
def spOfKinds (kA : Kd → Addr) (CN : Addr) : Sp := fun vs H Q _ => ∃ (n wl : Addr) (ws : List Str) (lanes : List Ln) (parts : List Pt), vs = [.ref n, .ref wl] ∧ NetAt kA CN H n lanes parts ∧ parts.length ≤ 100 ∧ H wl = some (.lst (ws.map V.str)) ∧
  ∀ (q : Addr) (H' : Hp), H q = none → Same H H' → H' q = some (.lst (selN ws parts)) → Q (.ref q) H'
def spSel (kA : Kd → Addr) (CN : Addr) (ws : List Str) : Sp := fun vs H Q _ => ∃ (n : Addr) (lanes : List Ln) (parts : List Pt), vs = [.ref n] ∧ NetAt kA CN H n lanes parts ∧ parts.length ≤ 100 ∧
  ∀ (q : Addr) (H' : Hp), H q = none → Same H H' → H' q = some (.lst (selN ws parts)) → Q (.ref q) H'
def oddV (parts : List Pt) : V := match selP ["choose", "split"] parts with
  | [] => .non
  | p :: _ => .str p.name
def spOdd (kA : Kd → Addr) (CN : Addr) : Sp := fun vs H Q _ => ∃ (n : Addr) (lanes : List Ln) (parts : List Pt), vs = [.ref n] ∧ NetAt kA CN H n lanes parts ∧ parts.length ≤ 100 ∧ (∀ p ∈ parts, NameOk p.name) ∧ ∀ H' : Hp, Same H H' → Q (oddV parts) H'
def LnTd (H : Hp) (v : V) (l : Ln) : Prop := ∃ t f : Addr, v = .ref t ∧ H t = some (.tup [.str l.name, .int l.room, .ref f]) ∧ H f = some (.tup (l.first.map V.int))
def PtTd (H : Hp) (v : V) (p : Pt) : Prop := ∃ t n i o : Addr, v = .ref t ∧ H t = some (.tup [.str p.kd.word, .str p.name, .ref n, .ref i, .ref o]) ∧ H n = some (.tup (p.nums.map V.int)) ∧ H i = some (.tup (p.ins.map V.str)) ∧ H o = some (.tup (p.outs.map V.str))
theorem LnTd.same {H H' : Hp} {v : V} {l : Ln} (h : LnTd H v l) (s : Same H H') : LnTd H' v l := by
  obtain ⟨t, f, e, h1, h2⟩ := h
  exact ⟨t, f, e, s _ _ h1, s _ _ h2⟩
theorem PtTd.same {H H' : Hp} {v : V} {p : Pt} (h : PtTd H v p) (s : Same H H') : PtTd H' v p := by
  obtain ⟨t, n, i, o, e, h1, h2, h3, h4⟩ := h
  exact ⟨t, n, i, o, e, s _ _ h1, s _ _ h2, s _ _ h3, s _ _ h4⟩
/-- all but lists is kept -/
def KeepNL (H H' : Hp) : Prop := ∀ b o, (∀ k, o ≠ .lst k) → H b = some o → H' b = some o
theorem KeepNL.of {H H' : Hp} (s : Same H H') : KeepNL H H' := fun b o _ e => s b o e
theorem KeepNL.trans {H H1 H2 : Hp} (a : KeepNL H H1) (b : KeepNL H1 H2) : KeepNL H H2 := fun c o n e => b c o n (a c o n e)
theorem KeepNL.upd {H : Hp} {d : Addr} {kd kd' : List V} (h : H d = some (.lst kd)) : KeepNL H (upd H d (.lst kd')) := fun b o n e => by
  have nb : b ≠ d := fun z => by rw [z, h] at e; injection e with e; exact n kd e.symm
  rw [upd_ne nb]; exact e
theorem LnTd.nl {H H' : Hp} {v : V} {l : Ln} (h : LnTd H v l) (s : KeepNL H H') : LnTd H' v l := by
  obtain ⟨t, f, e, h1, h2⟩ := h
  exact ⟨t, f, e, s _ _ (fun k z => by cases z) h1, s _ _ (fun k z => by cases z) h2⟩
theorem PtTd.nl {H H' : Hp} {v : V} {p : Pt} (h : PtTd H v p) (s : KeepNL H H') : PtTd H' v p := by
  obtain ⟨t, n, i, o, e, h1, h2, h3, h4⟩ := h
  exact ⟨t, n, i, o, e, s _ _ (fun k z => by cases z) h1, s _ _ (fun k z => by cases z) h2, s _ _ (fun k z => by cases z) h3, s _ _ (fun k z => by cases z) h4⟩
/-- the tuples are kept -/
def KeepT (H H' : Hp) : Prop := ∀ (b : Addr) xs, H b = some (.tup xs) → H' b = some (.tup xs)
theorem KeepNL.kt {H H' : Hp} (s : KeepNL H H') : KeepT H H' := fun b xs e => s b _ (fun k z => by cases z) e
theorem KeepT.upd {H : Hp} {d : Addr} {o o' : HO} (h : H d = some o) (n : ∀ xs, o ≠ .tup xs) : KeepT H (upd H d o') := fun b xs e => by
  rw [upd_ne (fun z => by rw [z, h] at e; exact n xs (Option.some.inj e))]; exact e
theorem KeepT.trans {H H1 H2 : Hp} (a : KeepT H H1) (b : KeepT H1 H2) : KeepT H H2 := fun c xs e => b c xs (a c xs e)
theorem LnTd.kt {H H' : Hp} {v : V} {l : Ln} (h : LnTd H v l) (s : KeepT H H') : LnTd H' v l := by
  obtain ⟨t, f, e, h1, h2⟩ := h
  exact ⟨t, f, e, s _ _ h1, s _ _ h2⟩
theorem PtTd.kt {H H' : Hp} {v : V} {p : Pt} (h : PtTd H v p) (s : KeepT H H') : PtTd H' v p := by
  obtain ⟨t, n, i, o, e, h1, h2, h3, h4⟩ := h
  exact ⟨t, n, i, o, e, s _ _ h1, s _ _ h2, s _ _ h3, s _ _ h4⟩
/-- what is told: a tuple of two new lists -/
def ToldAt (H : Hp) (t la pa : Addr) (lanes : List Ln) (parts : List Pt) : Prop := H t = some (.tup [.ref la, .ref pa]) ∧ (∃ vs, H la = some (.lst vs) ∧ AllB (LnTd H) vs lanes) ∧ (∃ vs, H pa = some (.lst vs) ∧ AllB (PtTd H) vs parts)
def spTold (kA : Kd → Addr) (CN : Addr) : Sp := fun vs H Q _ => ∃ (n : Addr) (lanes : List Ln) (parts : List Pt), vs = [.ref n] ∧ NetAt kA CN H n lanes parts ∧ (nms lanes).Nodup ∧ lanes.length ≤ 100 ∧ parts.length ≤ 100 ∧
  ∀ (H' : Hp) (t la pa : Addr), H la = none → H pa = none → la ≠ pa → Same H H' → ToldAt H' t la pa lanes parts → Q (.ref t) H'
section
variable {P : Program} {w : World} {K : PySem.W.Frag} {mg : Str → Option Value} {base : Heap} {kA : Kd → Addr} {CN : Addr}
theorem scOfKinds : FnScope ["self", "words", "name", "one"] ["self", "words"] (defScope sOfKinds) := ⟨rfl, rfl, rfl, by decide +kernel, rfl, by decide +kernel, by decide +kernel⟩
theorem ok_ofkinds (G : MF K CN "of_kinds" "Net.of_kinds" sOfKinds) (T : NCls K mg CN) (FK : ∀ kd, Cls K (kA kd) ∧ MCal P w K mg base CX0 (kA kd) 1 "kind" ["self"] (spKind kd)) : MCal P w K mg base CX0 CN 2 "of_kinds" ["self", "words"] (spOfKinds kA CN) := by
  refine G.cal scOfKinds (fun _ _ _ _ _ _ us hl => match us, hl with | [_, _], _ => rfl) (fun vs H Q E h => by obtain ⟨_, _, _, _, _, rfl, _⟩ := h; rfl) (fun fa cdv A0 outer s H vs Q E hr h => ?_)
  obtain ⟨n, wl, ws, lanes, parts, rfl, N, hsz, hwl, q⟩ := h
  obtain ⟨r, f, g, t, m, kf, km, B, af, am⟩ := N.ex
  obtain ⟨dx, hn⟩ := B.ob
  have nm : n ≠ m := fun e => by rw [e, B.hm] at hn; cases hn
  have nwm : wl ≠ m := fun e => by rw [e, B.hm] at hwl; cases hwl
  refine ⟨_, (pss_one (ps_ret (pe_lock (pe_lc (own := [("name", 2), ("one", 3)]) (g := (gTup K 2 (gCons (gName 2) (gCons (gName 3) gNil)))) (tt := tTest (tOp (rIn K false) (tMethI kA "kind" spKind E0 (tVar 3)) (tVar 1))) rfl scOfKinds.nd (pi_items (pe_fld (pv 0) rfl)) (blkOk_by (own := [("name", 2), ("one", 3)]) (N := ["self", "words", "name", "one"]) (sc := defScope sOfKinds) (by decide +kernel)) (fun _ _ _ _ _ => (pg_tup (by rfl) (pgs_cons (pg_name (i := 2) scOfKinds.nd rfl (.inl rfl)) (pgs_cons (pg_name (i := 3) scOfKinds.nd rfl (.inl rfl)) pgs_nil)))) (fun _ _ _ _ _ => (pts_one (pt_cmpR op_in_seq (pe_methI FK (pv 3) (hr.mono (by decide)) pass0) (pv 1) (by rfl)))) (fun _ _ _ _ _ => (pv 2)))))), ?_⟩
  refine ⟨m, .dK km, B.hm, trivial, fun om => ?_⟩
  refine ⟨_, rfl, n, CN, dx, _, _, rfl, by rw [upd_ne nm]; exact hn, T.cl, T.n5, nf_members, m, om, km, rfl, upd_same, fun D hD => ?_⟩
  have Dm : D ≠ m := fun e => by rw [e, upd_same] at hD; cases hD
  have hD0 : H D = none := by rw [upd_ne Dm] at hD; exact hD
  have kml : km.length = parts.length := am.1
  refine lc_it walk_items (fun i H' => H' m = some (.frz om (.dK km)) ∧ (∀ b o, H b = some o → b ≠ m → H' b = some o) ∧ H' D = some (.lst (selN ws (parts.take i)))) ⟨by rw [upd_ne Dm.symm, upd_same], fun b o e ne => by rw [upd_ne (ne_of_none e hD0), upd_ne ne]; exact e, by rw [upd_same]; rfl⟩ (fun i H' _ h => h.1) ?_ ?_
  · rintro i x H1 H2 hi ⟨h1, h2, h3⟩ ⟨T1, k, v, rfl, hT, rfl, e1, e2⟩
    obtain ⟨kv, hkv⟩ : ∃ kv, km[i]? = some kv := ⟨km[i], List.getElem?_eq_getElem hi⟩
    obtain ⟨p, hp, hk1, x, hk2, po⟩ := am.get hkv
    have f1 : Option.map (fun kv => kV kv.1) km[i]? = some k := e1
    have f2 : Option.map Prod.snd km[i]? = some v := e2
    rw [hkv] at f1 f2
    have e1' : kV kv.1 = k := Option.some.inj f1
    have e2' : kv.2 = v := Option.some.inj f2
    rw [hk1] at e1'
    rw [hk2] at e2'
    subst e1' e2'
    obtain ⟨dy, tn, ti, to, hx, _⟩ := po
    have hx2 : (upd H1 T1 (.tup [kV (Sum.inr p.name), V.ref x])) x = some (.ins (kA p.kd) dy (pflds p.name tn ti to)) := by
      have z := h2 x _ hx (fun e => by rw [e, B.hm] at hx; cases hx)
      rw [upd_ne (ne_of_none z hT)]; exact z
    have hwl2 : (upd H1 T1 (.tup [kV (Sum.inr p.name), V.ref x])) wl = some (.lst (ws.map V.str)) := by
      have z := h2 wl _ hwl nwm
      rw [upd_ne (ne_of_none z hT)]; exact z
    have k2 : ∀ b o, H b = some o → b ≠ m → (upd H1 T1 (.tup [kV (Sum.inr p.name), V.ref x])) b = some o := fun b o e ne => by
      have z := h2 b o e ne
      rw [upd_ne (ne_of_none z hT)]; exact z
    have hm2 : (upd H1 T1 (.tup [kV (Sum.inr p.name), V.ref x])) m = some (.frz om (.dK km)) := by rw [upd_ne (ne_of_none h1 hT)]; exact h1
    have hD2 : (upd H1 T1 (.tup [kV (Sum.inr p.name), V.ref x])) D = some (.lst (selN ws (parts.take i))) := by rw [upd_ne (ne_of_none h3 hT)]; exact h3
    refine ⟨T1, _, rfl, SqT.of upd_same, rfl, _, _, rfl, _, _, rfl, rfl, rfl, ?_⟩
    refine ⟨_, rfl, p.kd, x, dy, _, rfl, hx2, pf_no (by decide +kernel) (by decide +kernel) (by decide +kernel) (by decide +kernel), x, rfl, _, rfl, wl, _, rfl, .inl (SqL.of hwl2), rfl, flat_strs ws, _, rfl, ?_⟩
    have hsl : (selN ws (parts.take i)).length ≤ 100 := by
      unfold selN selP
      rw [List.length_map]
      have z1 := List.length_filter_le (fun p : Pt => inV (.str p.kd.word) (ws.map V.str)) (parts.take i)
      have z2 : (parts.take i).length ≤ parts.length := by rw [List.length_take]; omega
      omega
    rw [if_neg
        Bool.false_ne_true]
    by_cases hc : inV (.str p.kd.word) (ws.map V.str) = true
    · refine ifT hc ?_
      refine ⟨_, rfl, _, hD2, small1000 (by omega), by rw [upd_ne Dm.symm]; exact hm2, fun b o e ne => by rw [upd_ne (ne_of_none e hD0)]; exact k2 b o e ne, ?_⟩
      rw [upd_same, take_more hp, selN_snoc, if_pos hc]
      rfl
    · refine ifF hc ?_
      refine ⟨hm2, k2, ?_⟩
      rw [hD2, take_more hp, selN_snoc, if_neg hc]
  · rintro H1 ⟨h1, h2, h3⟩
    rw [kml, List.take_length] at h3
    refine ⟨h1, q D _ hD0 (fun b o e => ?_) (by rw [upd_ne Dm]; exact h3)⟩
    by_cases hb : b = m
    · rw [hb, upd_same, ← B.hm, ← hb]; exact e
    · rw [upd_ne hb]; exact h2 b o e hb
theorem scGives : FnScope ["self"] ["self"] (defScope sGives) := ⟨rfl, rfl, rfl, by decide +kernel, rfl, by decide +kernel, by decide +kernel⟩
theorem ok_gives (G : MF K CN "gives" "Net.gives" sGives) (T : NCls K mg CN) (MO : MCal P w K mg base CX0 CN 2 "of_kinds" ["self", "words"] (spOfKinds kA CN)) : MCal P w K mg base CX0 CN 3 "gives" ["self"] (spSel kA CN ["give"]) := by
  refine G.cal scGives (fun _ _ _ _ _ _ us hl => match us, hl with | [_], _ => rfl) (fun vs H Q E h => by obtain ⟨_, _, _, rfl, _⟩ := h; rfl) (fun fa cdv A0 outer s H vs Q E hr h => ?_)
  obtain ⟨n, lanes, parts, rfl, N, hsz, q⟩ := h
  obtain ⟨r, f, g, t, m, kf, km, B, af, am⟩ := N.ex
  obtain ⟨dx, hn⟩ := B.ob
  refine ⟨_, (pss_one (ps_ret (pe_methG MO (pv 0) T.cl (hr.mono (by decide)) pass0 (pa_cons (pe_lst (pa_cons pe_str pa_nil)) pa_nil)))), ?_⟩
  refine ⟨_, rfl, n, dx, _, rfl, hn, nf_no (by decide +kernel) (by decide +kernel) (by decide +kernel) (by decide +kernel) (by decide +kernel), (by show 1 ≤ sizeLine; decide), fun l hl => ?_⟩
  have sl := same_new (o := .lst [V.str "give"]) hl
  exact ⟨n, l, ["give"], lanes, parts, rfl, N.same sl, hsz, upd_same, fun qa H' hq s' hq' => q qa H' (sl.free hq) (sl.trans s') hq'⟩
theorem scTakes : FnScope ["self"] ["self"] (defScope sTakes) := ⟨rfl, rfl, rfl, by decide +kernel, rfl, by decide +kernel, by decide +kernel⟩
theorem ok_takes (G : MF K CN "takes" "Net.takes" sTakes) (T : NCls K mg CN) (MO : MCal P w K mg base CX0 CN 2 "of_kinds" ["self", "words"] (spOfKinds kA CN)) : MCal P w K mg base CX0 CN 3 "takes" ["self"] (spSel kA CN ["take"]) := by
  refine G.cal scTakes (fun _ _ _ _ _ _ us hl => match us, hl with | [_], _ => rfl) (fun vs H Q E h => by obtain ⟨_, _, _, rfl, _⟩ := h; rfl) (fun fa cdv A0 outer s H vs Q E hr h => ?_)
  obtain ⟨n, lanes, parts, rfl, N, hsz, q⟩ := h
  obtain ⟨r, f, g, t, m, kf, km, B, af, am⟩ := N.ex
  obtain ⟨dx, hn⟩ := B.ob
  refine ⟨_, (pss_one (ps_ret (pe_methG MO (pv 0) T.cl (hr.mono (by decide)) pass0 (pa_cons (pe_lst (pa_cons pe_str pa_nil)) pa_nil)))), ?_⟩
  refine ⟨_, rfl, n, dx, _, rfl, hn, nf_no (by decide +kernel) (by decide +kernel) (by decide +kernel) (by decide +kernel) (by decide +kernel), (by show 1 ≤ sizeLine; decide), fun l hl => ?_⟩
  have sl := same_new (o := .lst [V.str "take"]) hl
  exact ⟨n, l, ["take"], lanes, parts, rfl, N.same sl, hsz, upd_same, fun qa H' hq s' hq' => q qa H' (sl.free hq) (sl.trans s') hq'⟩
end
end K21
/-! the program: the odd part, what a net tells whole; equal data -/
namespace K21
open PySem PySem.Spec PyProof.Rows L2 TL
/-! ### data that can be compared -/
structure Nice (n : Nat) (d : PyData) : Prop where
  lay : d.canLay0 = true
  dp : d.depth ≤ n
theorem nice_non {n : Nat} : Nice n .none := ⟨by simp [PyData.canLay0], by simp [PyData.depth]⟩
theorem nice_int {n : Nat} {i : Int} : Nice n (.int i) := ⟨by simp [PyData.canLay0], by simp [PyData.depth]⟩
theorem nice_str {n : Nat} {z : Str} (h : PyData.strOk z = true) : Nice n (.str z) := ⟨by rw [PyData.canLay0]; exact h, by simp [PyData.depth]⟩
theorem nice_all {n : Nat} : ∀ {ds : List PyData}, (∀ d ∈ ds, Nice n d) → PyData.canLayAll0 ds = true ∧ PyData.depthAll ds ≤ n
  | [], _ => ⟨by simp [PyData.canLayAll0], by simp [PyData.depthAll]⟩
  | d :: ds, h => by
    have h1 := h d (List.mem_cons_self ..)
    have h2 := nice_all (ds := ds) fun e he => h e (List.mem_cons_of_mem _ he)
    refine ⟨by rw [PyData.canLayAll0, h1.lay, h2.1]; rfl, ?_⟩
    rw [PyData.depthAll]
    exact Nat.max_le.mpr ⟨h1.dp, h2.2⟩
theorem nice_lst {n : Nat} {ds : List PyData} (h : ∀ d ∈ ds, Nice n d) : Nice (n + 1) (.list ds) :=
  ⟨by rw [PyData.canLay0]; exact (nice_all h).1, by rw [PyData.depth]; exact Nat.succ_le_succ (nice_all h).2⟩
theorem nice_tup {n : Nat} {ds : List PyData} (h : ∀ d ∈ ds, Nice n d) : Nice (n + 1) (.tuple ds) :=
  ⟨by rw [PyData.canLay0]; exact (nice_all h).1, by rw [PyData.depth]; exact Nat.succ_le_succ (nice_all h).2⟩
theorem Nice.shaped {n : Nat} {d : PyData} (h : Nice n d) (hn : n ≤ 64) : SeqAt.shaped d = true := by
  unfold SeqAt.shaped
  rw [h.lay, decide_eq_true (Nat.le_trans h.dp hn)]; rfl
theorem Nice.mono {n m : Nat} {d : PyData} (h : Nice n d) (hn : n ≤ m) : Nice m d := ⟨h.lay, Nat.le_trans h.dp hn⟩
theorem nice_ints {n : Nat} {xs : List Int} : ∀ d ∈ xs.map PyData.int, Nice n d := fun d h => by
  obtain ⟨i, _, rfl⟩ := List.mem_map.mp h
  exact nice_int
theorem nice_strs {n : Nat} {xs : List Str} (ok : ∀ x ∈ xs, PyData.strOk x = true) : ∀ d ∈ xs.map PyData.str, Nice n d := fun d h => by
  obtain ⟨i, hi, rfl⟩ :=
      List.mem_map.mp h
  exact nice_str (ok i hi)
theorem dp_ints {K : PySem.W.Frag} {H : Hp} : ∀ {xs : List Int}, DpAll K H (xs.map V.int) (xs.map PyData.int)
  | [] => .nil
  | x :: xs => .cons (.int x) dp_ints
theorem dp_strs {K : PySem.W.Frag} {H : Hp} : ∀ {xs : List Str}, DpAll K H (xs.map V.str) (xs.map PyData.str)
  | [] => .nil
  | x :: xs => .cons (.str x) dp_strs
theorem dp_all {K : PySem.W.Frag} {H : Hp} {α : Type} {R : V → α → Prop} {f : α → PyData} : ∀ {vs : List V} {ls : List α}, AllB R vs ls → (∀ v l, R v l → Dp K H v (f l)) → DpAll K H vs (ls.map f)
  | [], [], _, _ => .nil
  | [], _ :: _, h, _ => absurd h.1 (by simp)
  | _ :: _, [], h, _ => absurd h.1 (by simp)
  | v :: vs, l :: ls, h, g => .cons (g v l (h.2 0 v l rfl rfl)) (dp_all (R := R) ⟨by simpa using h.1, fun i x y a b => h.2 (i + 1) x y (by simpa using a) (by simpa using b)⟩ g)
theorem eqD_same {K : PySem.W.Frag} {x y : V} {H : Hp} {Q : VK} {n : Nat} {d : PyData} (hx : Dp K H x d) (hy : Dp K H y d) (hd : Nice n d) (hn : n ≤ 64) (q : Q (.bl true) H) : rEqD K x y H Q :=
  ⟨d, d, hx, hy, hd.shaped hn, hd.shaped hn, by rw [SeqAt.eqv_refl d hd.lay]; exact q⟩
theorem neD_same {K : PySem.W.Frag} {x y : V} {H : Hp} {Q : VK} {n : Nat} {d : PyData} (hx : Dp K H x d) (hy : Dp K H y d) (hd : Nice n d) (hn : n ≤ 64) (q : Q (.bl false) H) : rNeD K x y H Q :=
  ⟨d, d, hx, hy, hd.shaped hn, hd.shaped hn, by rw [SeqAt.eqv_refl d hd.lay]; exact q⟩
theorem strOk_of {z : Str} (h : NameOk z) : PyData.strOk z = true := by
  show z.cps.all (· < 0x110000) = true
  rw [Array.all_eq_true_iff_forall_mem]
  intro c hc
  have := h.all c (Array.mem_toList_iff.mpr hc)
  exact decide_eq_true
      (by omega)
theorem strOk_word (kd : Kd) : PyData.strOk kd.word = true := by cases kd <;> decide +kernel
def lnD (l : Ln) : PyData := .tuple [.str l.name, .int l.room, .tuple (l.first.map PyData.int)]
def ptD (p : Pt) : PyData := .tuple [.str p.kd.word, .str p.name, .tuple (p.nums.map PyData.int), .tuple (p.ins.map PyData.str), .tuple (p.outs.map PyData.str)]
def toldD (lanes : List Ln) (parts : List Pt) : PyData := .tuple [.list (lanes.map lnD), .list (parts.map ptD)]
theorem LnTd.dp {K : PySem.W.Frag} {H : Hp} {v : V} {l : Ln} (h : LnTd H v l) : Dp K H v (lnD l) := by
  obtain ⟨t, f, rfl, h1, h2⟩ := h
  exact .tup (SqT.of h1) (.cons (.str _) (.cons (.int _) (.cons (.tup (SqT.of h2) dp_ints) .nil)))
theorem PtTd.dp {K : PySem.W.Frag} {H : Hp} {v : V} {p : Pt} (h : PtTd H v p) : Dp K H v (ptD p) := by
  obtain ⟨t, n, i, o, rfl, h1, h2, h3, h4⟩ := h
  exact .tup (SqT.of h1) (.cons (.str _) (.cons (.str _) (.cons (.tup (SqT.of h2) dp_ints) (.cons (.tup (SqT.of h3) dp_strs) (.cons (.tup (SqT.of h4) dp_strs) .nil)))))
theorem ToldAt.dp {K : PySem.W.Frag} {H : Hp} {t la pa : Addr} {lanes : List Ln} {parts : List Pt} (h : ToldAt H t la pa lanes parts) : Dp K H (.ref t) (toldD lanes parts) := by
  obtain ⟨h1, ⟨vs, h2, h3⟩, ⟨us, h4, h5⟩⟩ := h
  exact .tup (SqT.of h1) (.cons (.lst (SqL.of h2) (dp_all h3 fun v l r => r.dp)) (.cons (.lst (SqL.of h4) (dp_all h5 fun v l r => r.dp)) .nil))
theorem nok_in {lanes : List Ln} {parts : List Pt} {one other : Int} (ok : NetOk lanes parts one other) {p : Pt} (hp : p ∈ parts) : (∀ x ∈ p.ins, PyData.strOk x = true) ∧ ∀ x ∈ p.outs, PyData.strOk x = true := by
  have key : ∀ x, x ∈ nms lanes → PyData.strOk x = true := fun x hx => by
    obtain ⟨l, hl, rfl⟩ := List.mem_map.mp hx
    exact strOk_of (ok.lok l hl).1
  exact ⟨fun x hx => key x (ok.pi.mem_iff.mp (List.mem_flatMap.mpr ⟨p, hp, hx⟩)), fun x hx => key x (ok.po.mem_iff.mp (List.mem_flatMap.mpr ⟨p, hp, hx⟩))⟩
theorem nice_told {lanes : List Ln} {parts : List Pt} {one other : Int} (ok : NetOk lanes parts one other) : Nice 4 (toldD lanes parts) := by
  refine nice_tup fun d hd => ?_
  rcases List.mem_cons.mp
      hd with rfl | hd
  · refine nice_lst fun d hd => ?_
    obtain ⟨l, hl, rfl⟩ := List.mem_map.mp hd
    refine nice_tup fun d hd => ?_
    rcases List.mem_cons.mp
        hd with rfl | hd
    · exact nice_str (strOk_of (ok.lok l hl).1)
    rcases List.mem_cons.mp
        hd with rfl | hd
    · exact nice_int
    obtain rfl := List.mem_singleton.mp hd
    exact nice_tup nice_ints
  · obtain rfl := List.mem_singleton.mp hd
    refine nice_lst fun d hd => ?_
    obtain ⟨p, hp, rfl⟩ := List.mem_map.mp hd
    refine nice_tup fun d hd => ?_
    rcases List.mem_cons.mp
        hd with rfl | hd
    · exact nice_str (strOk_word p.kd)
    rcases List.mem_cons.mp
        hd with rfl | hd
    · exact nice_str (strOk_of (ok.pok p hp).1)
    rcases List.mem_cons.mp
        hd with rfl | hd
    · exact nice_tup nice_ints
    rcases List.mem_cons.mp
        hd with rfl | hd
    · exact nice_tup (nice_strs (nok_in ok hp).1)
    obtain rfl := List.mem_singleton.mp hd
    exact nice_tup (nice_strs (nok_in ok hp).2)
section
variable {P : Program} {w : World} {K : PySem.W.Frag} {mg : Str → Option Value} {base : Heap} {kA : Kd → Addr} {CN : Addr}
theorem scOdd : FnScope ["self", "some"] ["self"] (defScope sOdd) := ⟨rfl, rfl, rfl, by decide +kernel, rfl, by decide +kernel, by decide +kernel⟩
theorem ok_odd (G : MF K CN "odd" "Net.odd" sOdd) (T : NCls K mg CN) (MO : MCal P w K mg base CX0 CN 2 "of_kinds" ["self", "words"] (spOfKinds kA CN)) : MCal P w K mg base CX0 CN 3 "odd" ["self"] (spOdd kA CN) := by
  refine G.cal scOdd (fun _ _ _ _ _ _ us hl => match us, hl with | [_], _ => rfl) (fun vs H Q E h => by obtain ⟨_, _, _, rfl, _⟩ := h; rfl) (fun fa cdv A0 outer s H vs Q E hr h => ?_)
  obtain ⟨n, lanes, parts, rfl, N, hsz, hnm, q⟩ := h
  obtain ⟨r, f, g, t, m, kf, km, B, af, am⟩ := N.ex
  obtain ⟨dx, hn⟩ := B.ob
  refine ⟨_, (pss_cons (ps_set (i := 1) scOdd.nd rfl (.inl rfl) (pe_methG MO (pv 0) T.cl (hr.mono (by decide)) pass0 (pa_cons (pe_lst (pa_cons pe_str (pa_cons pe_str pa_nil))) pa_nil)))
    (pss_cons (ps_if (pt_cmpR (op_eqD hr.units) (pv 1) (pe_lst pa_nil) (nomark _)) (pss_one (ps_ret pe_non)) pss_nil)
    (pss_one (ps_ret (pe_ix ix_list (pv 1) pe_int (fun _ _ => rfl)))))), ?_⟩
  refine ⟨_, rfl, n, dx, _, rfl, hn, nf_no (by decide +kernel) (by decide +kernel) (by decide +kernel) (by decide +kernel) (by decide +kernel), (by show 2 ≤ sizeLine; decide), fun l hl => ?_⟩
  have sl := same_new (o := .lst [V.str "choose", V.str "split"]) hl
  refine ⟨n, l, ["choose", "split"], lanes, parts, rfl, N.same sl, hsz, upd_same, fun qa H' hq s' hq' => ?_⟩
  refine ⟨_, rfl, (by show 0 ≤ sizeLine; decide), fun e he => ?_⟩
  have se := same_new (o := .lst []) he
  have s2 := (sl.trans s').trans se
  have hqe : (upd H' e (.lst [])) qa = some (.lst (selN ["choose", "split"] parts)) := se _ _ hq'
  unfold selN at hqe
  have ho : oddV parts = match selP ["choose", "split"] parts with | [] => V.non | p :: _ => .str p.name := rfl
  cases hs : selP ["choose", "split"] parts with
  | nil =>
    rw [hs] at hqe ho
    refine eqD_same (d := .list []) (n := 1) (.lst (SqL.of hqe) .nil) (.lst (SqL.of upd_same) .nil) (nice_lst fun d h => by cases h) (by decide) ⟨true, rfl, ?_⟩
    have q0 := q _ s2
    rw [ho] at q0
    exact q0
  | cons p ps =>
    rw [hs] at hqe ho
    have hm : (p :: ps).map (fun p => V.str p.name) = ((p :: ps).map fun p : Pt => p.name).map V.str := by rw [List.map_map]; rfl
    rw [hm] at hqe
    have sok : ∀ x ∈ (p :: ps).map (fun p : Pt => p.name), PyData.strOk x = true := fun x hx => by
      obtain ⟨u, hu, rfl⟩ := List.mem_map.mp hx
      rw [← hs] at hu
      exact strOk_of (hnm u (List.mem_filter.mp hu).1)
    have n0 : Nice 1 (.list []) := nice_lst fun d h => by cases h
    refine ⟨.list (((p :: ps).map fun p : Pt => p.name).map PyData.str), .list [], .lst (SqL.of hqe) dp_strs, .lst (SqL.of upd_same) .nil, (nice_lst (n := 0) (nice_strs sok)).shaped (by decide), n0.shaped (by decide), ?_⟩
    refine ⟨false, rfl, ?_⟩
    have q0 := q _ s2
    rw [ho] at q0
    exact ⟨_, rfl, qa, _, 0, _, rfl, rfl, SqL.of hqe, atI_nat (j := 0) rfl, q0⟩
theorem scTold : FnScope ["self", "name", "lanes", "parts", "one"] ["self"] (defScope sTold) := ⟨rfl, rfl, rfl, by decide +kernel, rfl, by decide +kernel, by decide +kernel⟩
theorem ok_told (G : MF K CN "told" "Net.told" sTold) (T : NCls K mg CN) (FK : ∀ kd, Cls K (kA kd) ∧ MCal P w K mg base CX0 (kA kd) 1 "kind" ["self"] (spKind kd)) (FP : ∀ kd, PCls K (kA kd)) : MCal P w K mg base CX0 CN 2 "told" ["self"] (spTold kA CN) := by
  refine G.cal scTold (fun _ _ _ _ _ _ us hl => match us, hl with | [_], _ => rfl) (fun vs H Q E h => by obtain ⟨_, _, _, rfl, _⟩ := h; rfl) (fun fa cdv A0 outer s H vs Q E hr h => ?_)
  obtain ⟨n, lanes, parts, rfl, N, lnd, hl0, hsz, q⟩ := h
  have hu := hu_of hr
  obtain ⟨r, f, g, t, m, kf, km, B, af, am⟩ := N.ex
  obtain ⟨dx, hn⟩ := B.ob
  have nr : n ≠ r := fun e => by rw [e, B.hr] at hn; cases hn
  have nm : n ≠ m := fun e => by rw [e, B.hm] at hn; cases hn
  obtain ⟨r1, r2, r3, r4, r5, r6, r7, r8, r9, r10⟩ := B.nd
  refine ⟨_, (pss_cons (ps_lock (ps_setLc (i := 2) (own := [("name", 1)]) (g := (gName 1)) (tt := tYes) (te := tTup (tCons (tVar 1) (tCons (tDGet (tFld K (tVar 0) "rooms") (tVar 1)) (tCons (tDGet (tFld K (tVar 0) "firsts") (tVar 1)) tNil)))) rfl scTold.nd rfl rfl (sw_true rfl rfl rfl (by decide +kernel)) (pi_keys (pe_fld (pv 0) rfl)) (blkOk_by (own := [("name", 1)]) (N := ["self", "name", "lanes", "parts", "one"]) (sc := defScope sTold) (by decide +kernel)) (fun _ _ _ _ _ => (pg_name (i := 1) scTold.nd rfl (.inl rfl))) (fun _ _ _ _ _ => pts_nil) (fun _ _ _ _ _ => (pe_tup (pa_cons (pv 1) (pa_cons (pe_dget hu (pe_fld (pv 0) rfl) (pv 1) (fun _ _ => rfl)) (pa_cons (pe_dget hu (pe_fld (pv 0) rfl) (pv 1) (fun _ _ => rfl)) pa_nil)))))))
    (pss_cons (ps_set (i := 3) scTold.nd rfl (.inl rfl) (pe_lst pa_nil))
    (pss_cons (ps_lock (ps_for PassesOwn.never rfl (pi_items (pe_fld (pv 0) rfl)) (pg_tup (by rfl) (pgs_cons (pg_name (i := 1) scTold.nd rfl (.inl rfl)) (pgs_cons (pg_name (i := 4) scTold.nd rfl (.inl rfl)) pgs_nil))) (pss_one (ps_expr (pe_bm PySem.F.plainAttrs_list PySem.F.slot_list_append PySem.F.type_list_append mt_append (pv 3) (pa_cons (pe_tup (pa_cons (pe_methI FK (pv 4) (hr.mono (by decide)) pass0) (pa_cons (pv 1) (pa_cons (pe_fld (pv 4) rfl) (pa_cons (pe_fld (pv 4) rfl) (pa_cons (pe_fld (pv 4) rfl) pa_nil)))))) pa_nil))))))
    (pss_one (ps_ret (pe_tup (pa_cons (pv 2) (pa_cons (pv 3) pa_nil)))))))), ?_⟩
  have dn : ∀ {b D : Addr} {o : HO}, H b = some o → H D = none → b ≠ D := fun e z => ne_of_none e z
  refine ⟨r, .dK (roomsK lanes), B.hr, trivial, fun or => ?_⟩
  refine ⟨_, rfl, n, CN, dx, _, _, rfl, by rw [upd_ne nr]; exact hn, T.cl, T.n1, nf_rooms, r, or, rfl, .inl ⟨roomsK lanes, upd_same, fun D hD => ?_⟩⟩
  have Dr : D ≠ r := fun e => by rw [e, upd_same] at hD; cases hD
  have hD0 : H D = none := by rw [upd_ne Dr] at hD; exact hD
  have rl : (roomsK lanes).length = lanes.length := by unfold roomsK; rw [List.length_map]
  refine lc_it walk_keys (fun i H' => H' r = some (.frz or (.dK (roomsK lanes))) ∧ (∀ b o, H b = some o → b ≠ r → H' b = some o) ∧ ∃ vs, H' D = some (.lst vs) ∧ AllB (LnTd H') vs (lanes.take i)) ⟨by rw [upd_ne Dr.symm, upd_same], fun b o e ne => by rw [upd_ne (ne_of_none e hD0), upd_ne ne]; exact e, [], by rw [upd_same], AllB.nil⟩ (fun i H' _ h => h.1) ?_ ?_
  · rintro i x H1 H2 hi ⟨h1, h2, vs, h3, h4⟩ ⟨rfl, k, v, hk, rfl⟩
    have hil : i < lanes.length := by omega
    have hk0 := hk
    unfold roomsK at hk
    rw [List.getElem?_map, List.getElem?_eq_getElem hil] at hk
    have hk' : ((Sum.inr lanes[i].name, V.int lanes[i].room) : Key × V) = (k, v) := Option.some.inj hk
    obtain rfl : Sum.inr lanes[i].name = k := congrArg Prod.fst hk'
    have vr := rooms_val lnd (List.getElem_mem hil)
    obtain ⟨kv, hkv, hk1, tu, hk2, htu⟩ := af.of (i := i) (l := lanes[i]) (List.getElem?_eq_getElem hil)
    have vf : valV kf (Sum.inr lanes[i].name : Key) = some (.ref tu) := by
      refine valV_mem (by rw [keysF af]; exact nd_inr lnd) ?_
      have z := List.mem_of_getElem? hkv
      rw [← hk1, ← hk2]; exact z
    have hn2 := h2 _ _ hn nr
    refine ⟨rfl, ?_⟩
    refine ⟨_, rfl, _, rfl, n, CN, dx, _, _, rfl, hn2, T.cl, T.n1, nf_rooms, _, rfl, r, _, rfl, DGet.frzS (k := Sum.inr lanes[i].name) h1 vr, ?_⟩
    refine ⟨_, rfl, n, CN, dx, _, _, rfl, hn2, T.cl, T.n2, nf_firsts, _, rfl, f, _, rfl, DGet.some_ (k := Sum.inr lanes[i].name) (h2 _ _ B.hf r1.symm) vf, ?_⟩
    refine ⟨(by show 3 ≤ sizeLine; decide), fun p hp => ?_⟩
    have sp := same_new (o := .tup [kV (Sum.inr lanes[i].name), V.int lanes[i].room, V.ref tu]) hp
    have hD2 := sp _ _ h3
    have htu2 : H2 tu = some (.tup (lanes[i].first.map V.int)) := h2 _ _ htu (fun e => by rw [e, B.hr] at htu; cases htu)
    have kt := KeepT.upd (o' := .lst (vs ++ [V.ref p])) hD2 (fun xs e => by cases e)
    refine ⟨vs, hD2, small1000 (by have := h4.1; rw [List.length_take] at this; omega), by rw [upd_ne Dr.symm]; exact sp _ _ h1, fun b o e ne => by rw [upd_ne (ne_of_none e hD0)]; exact sp _ _ (h2 b o e ne), _, upd_same, ?_⟩
    rw [take_more (List.getElem?_eq_getElem hil)]
    refine (h4.imp fun v l z => (z.same sp).kt kt).snoc ?_
    exact ⟨p, tu, rfl, kt _ _ upd_same, kt _ _ (sp _ _ htu2)⟩
  · rintro H1 ⟨h1, h2, vs, h3, h4⟩
    rw [rl, List.take_length] at h4
    -- the lock is off
    have sH : Same H (upd H1 r (.dK (roomsK lanes))) := fun b o e => by
      by_cases hb : b = r
      · rw [hb, upd_same, ← B.hr, ← hb]; exact e
      · rw [upd_ne hb]; exact h2 b o e hb
    have ktr := KeepT.upd (o' := .dK (roomsK lanes)) h1 (fun xs e => by cases e)
    have hD1 : (upd H1 r (.dK (roomsK lanes))) D = some (.lst vs) := by rw [upd_ne Dr]; exact h3
    have h4' := h4.imp fun v l z => z.kt ktr
    refine ⟨h1, ?_⟩
    generalize upd H1 r (.dK (roomsK lanes)) = H3 at sH hD1 h4' ⊢
    refine ⟨(by show 0 ≤ sizeLine; decide), fun pa hpa => ?_⟩
    have hpa0 : H pa = none := sH.free hpa
    have Dpa : D ≠ pa := ne_of_none hD1 hpa
    have snew := same_new (o := .lst []) hpa
    have hm3 : (upd H3 pa (.lst [])) m = some (.dK km) := snew _ _ (sH _ _ B.hm)
    refine ⟨m, .dK km, hm3, trivial, fun om => ?_⟩
    refine ⟨_, rfl, n, CN, dx, _, _, rfl, by rw [upd_ne nm]; exact snew _ _ (sH _ _ hn), T.cl, T.n5, nf_members, m, om, km, rfl, upd_same, ?_⟩
    have Dm : D ≠ m := fun e => by rw [e, (sH _ _ B.hm)] at hD1; cases hD1
    have pam : pa ≠ m := fun e => by rw [e, sH _ _ B.hm] at hpa; cases hpa
    have kml : km.length = parts.length := am.1
    refine for_it walk_items (fun i σ H' => ∃ (v1 v4 : Option V) (us : List V), σ = [some (.ref n), v1, some (.ref D), some (.ref pa), v4] ∧ H' m = some (.frz om (.dK km)) ∧ (∀ b o, H b = some o → b ≠ m → H' b = some o) ∧ H' D = some (.lst vs) ∧ AllB (LnTd H') vs lanes ∧ H' pa = some (.lst us) ∧ AllB (PtTd H') us (parts.take i))
      ⟨_, _, [], rfl, upd_same, fun b o e ne => by rw [upd_ne ne]; exact snew _ _ (sH _ _ e), by rw [upd_ne Dm]; exact snew _ _ hD1, (h4'.imp fun v l z => z.same snew).imp fun v l z => z.kt (KeepT.upd hm3 fun xs e => by cases e), by rw [upd_ne pam, upd_same], AllB.nil⟩ (by rintro i σ H' _ ⟨_, _, _, _, h, _⟩; exact h) ?_ ?_
    · rintro i x σ H4 H5 hi ⟨v1, v4, us, rfl, g1, g2, g3, g4, g5, g6⟩ ⟨T1, k, v, rfl, hT, rfl, e1, e2⟩
      obtain ⟨kv, hkv⟩ : ∃ kv, km[i]? = some kv := ⟨km[i], List.getElem?_eq_getElem hi⟩
      obtain ⟨p, hp, hk1, x, hk2, po⟩ := am.get hkv
      have f1 : Option.map (fun kv => kV kv.1) km[i]? = some k := e1
      have f2 : Option.map Prod.snd km[i]? = some v := e2
      rw [hkv] at f1 f2
      have e1' : kV kv.1 = k := Option.some.inj f1
      have e2' : kv.2 = v := Option.some.inj f2
      rw [hk1] at e1'
      rw [hk2] at e2'
      subst e1' e2'
      obtain ⟨dy, tn, ti, to, hx, htn, hti, hto⟩ := po
      have sT := same_new (o := .tup [kV (Sum.inr p.name), V.ref x]) hT
      have hx4 := g2 x _ hx (fun e => by rw [e, B.hm] at hx; cases hx)
      have tn4 := g2 tn _ htn (fun e => by rw [e, B.hm] at htn; cases htn)
      have ti4 := g2 ti _ hti (fun e => by rw [e, B.hm] at hti; cases hti)
      have to4 := g2 to _ hto (fun e => by rw [e, B.hm] at hto; cases hto)
      have hT6 : (upd H4 T1 (.tup [kV (Sum.inr p.name), V.ref x])) T1 = some (.tup [kV (Sum.inr p.name), V.ref x]) := upd_same
      generalize upd H4 T1 (.tup [kV (Sum.inr p.name), V.ref x]) = H6 at sT hT6 ⊢
      have hx6 := sT _ _ hx4
      have hil : i < parts.length := by omega
      refine ⟨T1, _, rfl, SqT.of hT6, rfl, _, _, rfl, _, _, rfl, rfl, ?_⟩
      have pc := FP p.kd
      refine ⟨_, rfl, .inl ⟨rfl, _, SqL.of (sT _ _ g5)⟩, ?_⟩
      refine ⟨_, rfl, p.kd, x, dy, _, rfl, hx6, pf_no (by decide +kernel) (by decide +kernel) (by decide +kernel) (by decide +kernel), x, rfl, ?_⟩
      refine ⟨_, rfl, _, rfl, x, _, dy, _, _, rfl, hx6, pc.cl, pc.n2, pf_numbers, _, rfl, x, _, dy, _, _, rfl, hx6, pc.cl, pc.n3, pf_ins, _, rfl, x, _, dy, _, _, rfl, hx6, pc.cl, pc.n4, pf_outs, (by show 5 ≤ sizeLine; decide), fun e he => ?_⟩
      have se := same_new (o := .tup [V.str p.kd.word, kV (Sum.inr p.name), .ref tn, .ref ti, .ref to]) he
      have s6 := sT.trans se
      have hpa6 := s6 _ _ g5
      have kt := KeepT.upd (o' := .lst (us ++ [V.ref e])) hpa6 (fun xs z => by cases z)
      refine ⟨pa, us, _, rfl, rfl, hpa6, small1000 (by have := g6.1; rw [List.length_take] at this; omega), ?_⟩
      refine ⟨_, _, _, rfl, by rw [upd_ne pam.symm]; exact s6 _ _ g1, fun b o z ne => by rw [upd_ne (ne_of_none z hpa0)]; exact s6 _ _ (g2 b o z ne), by rw [upd_ne Dpa]; exact s6 _ _ g3, (g4.imp fun v l z => z.same s6).imp fun v l z => z.kt kt, upd_same, ?_⟩
      rw [take_more hp]
      exact ((g6.imp fun v l z => z.same s6).imp fun v l z => z.kt kt).snoc ⟨e, tn, ti, to, rfl, kt _ _ upd_same, kt _ _ (s6 _ _ tn4), kt _ _ (s6 _ _ ti4), kt _ _ (s6 _ _ to4)⟩
    · rintro σ H4 ⟨v1, v4, us, rfl, g1, g2, g3, g4, g5, g6⟩
      rw [kml, List.take_length] at g6
      have ktm := KeepT.upd (o' := .dK km) g1 (fun xs e => by cases e)
      refine ⟨g1, _, rfl, _, rfl, (by show 2 ≤ sizeLine; decide), fun tt htt => ?_⟩
      have stt := same_new (o := .tup [V.ref D, V.ref pa]) htt
      refine q _ tt D pa hD0 hpa0 Dpa (fun b o e => stt _ _ ?_) ⟨upd_same, ⟨vs, stt _ _ (by rw [upd_ne Dm]; exact g3), (g4.imp fun v l z => z.kt ktm).imp fun v l z => z.same stt⟩, ⟨us, stt _ _ (by rw [upd_ne pam]; exact g5), (g6.imp fun v l z => z.kt ktm).imp fun v l z => z.same stt⟩⟩
      by_cases hb : b = m
      · rw [hb, upd_same, ← B.hm, ← hb]; exact e
      · rw [upd_ne hb]; exact g2 b o e hb
end
end K21
/-! the law: what is to be told -/
namespace K21
open PySem PySem.Spec PyProof.Rows L2 TL
abbrev sLTold : Stmt := top 56
abbrev sEnds : Stmt := top 57
def spLTold : Sp := fun vs H Q _ => ∃ (A B : Addr) (lanes : List Ln) (parts : List Pt), vs = [.ref A, .ref B] ∧ LanesAt H A lanes ∧ PartsAt H B parts ∧ lanes.length ≤ 100 ∧ parts.length ≤ 100 ∧
  ∀ (H' : Hp) (t la pa : Addr), Same H H' → ToldAt H' t la pa lanes parts → Q (.ref t) H'
abbrev rTupS : List V → Hp → VK → Prop := fun xs H Q => ∃ p ys, xs = [.ref p] ∧ SeqAt' H p ys ∧ ∀ (t : Addr) (H' : Hp), Same H H' → H' t = some (.tup ys) → Q (.ref t) H'
def selOf : Int → Pt → List Str := fun k p => if k = 3 then p.ins else p.outs
def spEnds : Sp := fun vs H Q _ => ∃ (B : Addr) (k : Int) (parts : List Pt), vs = [.ref B, .int k] ∧ (k = 3 ∨ k = 4) ∧ PartsAt H B parts ∧ (parts.flatMap (selOf k)).Nodup ∧ (parts.flatMap (selOf k)).length ≤ 100 ∧
  ∀ (H' : Hp) (d : Addr), Same H H' → H d = none → H' d = some (.dK (endsK (selOf k) parts)) → Q (.ref d) H'
theorem ends_cut {sel : Pt → List Str} {ps : List Pt} {i j : Nat} {p : Pt} {x : Str} (hp : ps[i]? = some p) (hx : (sel p)[j]? = some x) : ∃ r, ps.flatMap sel = (((ps.take i).flatMap sel ++ (sel p).take j) ++ [x]) ++ r := by
  have e1 : ps = ps.take (i + 1) ++ ps.drop (i + 1) := (List.take_append_drop _ _).symm
  have e2 : sel p = (sel p).take (j + 1) ++ (sel p).drop (j + 1) := (List.take_append_drop _ _).symm
  refine ⟨(sel p).drop (j + 1) ++ (ps.drop (i + 1)).flatMap sel, ?_⟩
  calc ps.flatMap sel = (ps.take (i + 1) ++ ps.drop (i + 1)).flatMap sel := by rw [← e1]
    _ = ((ps.take i).flatMap sel ++ sel p) ++ (ps.drop (i + 1)).flatMap sel := by rw [List.flatMap_append, take_more hp, List.flatMap_append]; simp
    _ = ((ps.take i).flatMap sel ++ ((sel p).take (j + 1) ++ (sel p).drop (j + 1))) ++ (ps.drop (i + 1)).flatMap sel := by rw [← e2]
    _ = _ := by rw [take_more hx]; simp [List.append_assoc]
theorem ends_new {sel : Pt → List Str} {ps : List Pt} {i j : Nat} {p : Pt} {x : Str} (nd : (ps.flatMap sel).Nodup) (hp : ps[i]? = some p) (hx : (sel p)[j]? = some x) : x ∉ (ps.take i).flatMap sel ++ (sel p).take j := by
  obtain ⟨r, e⟩ := ends_cut hp hx
  rw [e, List.nodup_append, List.nodup_append] at nd
  intro h
  exact nd.1.2.2 x h x (List.mem_singleton.mpr rfl) rfl
theorem ends_len {sel : Pt → List Str} {ps : List Pt} {i j : Nat} {p : Pt} {x : Str} (hp : ps[i]? = some p) (hx : (sel p)[j]? = some x) : ((ps.take i).flatMap sel ++ (sel p).take j).length ≤ (ps.flatMap sel).length := by
  obtain ⟨r, e⟩ := ends_cut hp hx
  have z := congrArg List.length e
  rw [List.length_append, List.length_append] at z
  omega
/-! ### slots that a comprehension wipes -/
theorem wipe_get {σ : L2.St} : ∀ {vs : List Nat} {i : Nat}, (wipe σ vs)[i]? = if i ∈ vs then (σ[i]?).map (fun _ => none) else σ[i]?
  | [], i => by simp [wipe]
  | v :: vs, i => by
    unfold wipe
    rw [List.getElem?_set, wipe_length, wipe_get (vs := vs)]
    by_cases h : v = i
    · subst h
      rw [if_pos rfl, if_pos (List.mem_cons_self ..)]
      by_cases hl : v < σ.length
      · rw [if_pos hl, List.getElem?_eq_getElem hl]; rfl
      · rw [if_neg hl, List.getElem?_eq_none (by omega)]; rfl
    · rw [if_neg h]
      have e : (i ∈ v :: vs) ↔ i ∈ vs := by rw [List.mem_cons]; exact ⟨fun z => z.resolve_left fun q => h q.symm, .inr⟩
      by_cases q : i ∈ vs
      · rw [if_pos q, if_pos (e.mpr q)]
      · rw [if_neg q, if_neg (fun z => q (e.mp z))]
theorem wipe_set {σ : L2.St} {vs : List Nat} {i : Nat} {v : Option V} (h : i ∈ vs) : wipe (σ.set i v) vs = wipe σ vs := by
  refine List.ext_getElem?
      fun j => ?_
  rw [wipe_get, wipe_get]
  by_cases q : j ∈ vs
  · rw [if_pos q, if_pos q, List.getElem?_set]
    by_cases e : i = j
    · subst e
      rw [if_pos rfl]
      by_cases hl : i < σ.length
      · rw [if_pos hl, List.getElem?_eq_getElem hl]; rfl
      · rw [if_neg hl, List.getElem?_eq_none (by omega)]
    · rw [if_neg e]
  · rw [if_neg q, if_neg q, List.getElem?_set, if_neg (fun e => q (by rw [← e]; exact h))]
theorem wipe_wipe {σ : L2.St} {vs : List Nat} : wipe (wipe σ vs) vs = wipe σ vs := by
  refine List.ext_getElem?
      fun j => ?_
  rw [wipe_get, wipe_get]
  by_cases q : j ∈ vs
  · rw [if_pos q, if_pos q]
    cases σ[j]? <;> rfl
  · rw [if_neg q, if_neg q]
theorem wipe1 {σ : L2.St} {vs : List Nat} {a : Nat} {x : Option V} (ha : a ∈ vs) : wipe ((wipe σ vs).set a x) vs = wipe σ vs := by rw [wipe_set ha, wipe_wipe]
theorem wipe3 {σ : L2.St} {vs : List Nat} {a b c : Nat} {x y z : Option V} (ha : a ∈ vs) (hb : b ∈ vs) (hc : c ∈ vs) : wipe ((((wipe σ vs).set a x).set b y).set c z) vs = wipe σ vs := by
  rw [wipe_set hc, wipe_set hb, wipe_set ha, wipe_wipe]
theorem wipe5 {σ : L2.St} {vs : List Nat} {a b c d e : Nat} {x y z u v : Option V} (ha : a ∈ vs) (hb : b ∈ vs) (hc : c ∈ vs) (hd : d ∈ vs) (he : e ∈ vs) : wipe ((((((wipe σ vs).set a x).set b y).set c z).set d u).set e v) vs = wipe σ vs := by
  rw [wipe_set he, wipe_set hd, wipe_set hc, wipe_set hb, wipe_set ha, wipe_wipe]
section
variable {P : Program} {w : World} {K : PySem.W.Frag}
    {mg : Str → Option Value} {base : Heap}
theorem scLTold : FnScope ["_law_lanes", "_law_parts", "_law_first", "_law_second", "_law_name", "_law_room", "_law_values", "_law_kind", "_law_numbers", "_law_ins", "_law_outs"] ["_law_lanes", "_law_parts"] (defScope sLTold) := ⟨rfl, rfl, rfl, by decide +kernel, rfl, by decide +kernel, by decide +kernel⟩
theorem ok_ltold (G : GF K mg "_law_told" sLTold) (htuple : mg "tuple" = none) : Cal P w K mg base CX0 1 "_law_told" ["_law_lanes", "_law_parts"] spLTold := by
  refine G.cal scLTold (fun _ _ _ _ _ _ us hl => match us, hl with | [_, _], _ => rfl) (fun vs H Q E h => by obtain ⟨_, _, _, _, rfl, _⟩ := h; rfl) (fun f cdv A0 outer s H vs Q E hr h => ?_)
  obtain ⟨A, B, lanes, parts, rfl, ⟨vl, hA, al⟩, ⟨vp, hB, ap⟩, hl, hp, q⟩ := h
  refine ⟨_, (pss_cons (ps_setLc (i := 2) (own := [("_law_name", 4), ("_law_room", 5), ("_law_values", 6)]) (g := (gTup K 3 (gCons (gName 4) (gCons (gName 5) (gCons (gName 6) gNil))))) (tt := tYes) (te := tTup (tCons (tVar 4) (tCons (tVar 5) (tCons (tCB rTupS (tCons (tVar 6) tNil)) tNil)))) rfl scLTold.nd rfl rfl (sw_true rfl rfl rfl (by decide +kernel)) (pi_list (pv 0)) (blkOk_by (own := [("_law_name", 4), ("_law_room", 5), ("_law_values", 6)]) (N := ["_law_lanes", "_law_parts", "_law_first", "_law_second", "_law_name", "_law_room", "_law_values", "_law_kind", "_law_numbers", "_law_ins", "_law_outs"]) (sc := defScope sLTold) (by decide +kernel)) (fun _ _ _ _ _ => (pg_tup (by rfl) (pgs_cons (pg_name (i := 4) scLTold.nd rfl (.inl rfl)) (pgs_cons (pg_name (i := 5) scLTold.nd rfl (.inl rfl)) (pgs_cons (pg_name (i := 6) scLTold.nd rfl (.inl rfl)) pgs_nil))))) (fun _ _ _ _ _ => pts_nil) (fun _ _ _ _ _ => (pe_tup (pa_cons (pv 4) (pa_cons (pv 5) (pa_cons (pe_callTy call_tupleS (by rfl) htuple (by decide +kernel) (pa_cons (pv 6) pa_nil)) pa_nil))))))
    (pss_cons (ps_setLc (i := 3) (own := [("_law_kind", 7), ("_law_name", 4), ("_law_numbers", 8), ("_law_ins", 9), ("_law_outs", 10)]) (g := (gTup K 5 (gCons (gName 7) (gCons (gName 4) (gCons (gName 8) (gCons (gName 9) (gCons (gName 10) gNil))))))) (tt := tYes) (te := tTup (tCons (tVar 7) (tCons (tVar 4) (tCons (tCB rTupS (tCons (tVar 8) tNil)) (tCons (tCB rTupS (tCons (tVar 9) tNil)) (tCons (tCB rTupS (tCons (tVar 10) tNil)) tNil)))))) rfl scLTold.nd rfl rfl (sw_true rfl rfl rfl (by decide +kernel)) (pi_list (pv 1)) (blkOk_by (own := [("_law_kind", 7), ("_law_name", 4), ("_law_numbers", 8), ("_law_ins", 9), ("_law_outs", 10)]) (N := ["_law_lanes", "_law_parts", "_law_first", "_law_second", "_law_name", "_law_room", "_law_values", "_law_kind", "_law_numbers", "_law_ins", "_law_outs"]) (sc := defScope sLTold) (by decide +kernel)) (fun _ _ _ _ _ => (pg_tup (by rfl) (pgs_cons (pg_name (i := 7) scLTold.nd rfl (.inl rfl)) (pgs_cons (pg_name (i := 4) scLTold.nd rfl (.inl rfl)) (pgs_cons (pg_name (i := 8) scLTold.nd rfl (.inl rfl)) (pgs_cons (pg_name (i := 9) scLTold.nd rfl (.inl rfl)) (pgs_cons (pg_name (i := 10) scLTold.nd rfl (.inl rfl)) pgs_nil))))))) (fun _ _ _ _ _ => pts_nil) (fun _ _ _ _ _ => (pe_tup (pa_cons (pv 7) (pa_cons (pv 4) (pa_cons (pe_callTy call_tupleS (by rfl) htuple (by decide +kernel) (pa_cons (pv 8) pa_nil)) (pa_cons (pe_callTy call_tupleS (by rfl) htuple (by decide +kernel) (pa_cons (pv 9) pa_nil)) (pa_cons (pe_callTy call_tupleS (by rfl) htuple (by decide +kernel) (pa_cons (pv 10) pa_nil)) pa_nil))))))))
    (pss_one (ps_ret (pe_tup (pa_cons (pv 2) (pa_cons (pv 3) pa_nil))))))), ?_⟩
  refine ⟨_, rfl, A, rfl, ⟨_, SqL.of hA⟩, fun D hD => ?_⟩
  have hvl : vl.length = lanes.length := al.1
  have hvp : vp.length = parts.length := ap.1
  refine lc_it walk_list (fun i H' => Same H H' ∧ ∃ us, H' D = some (.lst us) ∧ AllB (LnTd H') us (lanes.take i)) ⟨same_new hD, [], upd_same, AllB.nil⟩ (fun i H' _ h => SqL.of (h.1 _ _ hA)) ?_ ?_
  · rintro i x H1 H2 hi ⟨s1, us, h3, h4⟩ ⟨rfl, hx⟩
    obtain ⟨l, hl', t, f, rfl, ht, hf⟩ := al.get hx
    refine ⟨t, _, rfl, SqT.of (s1 _ _ ht), rfl, _, _, rfl, _, _, rfl, _, _, rfl, rfl, wipe3 (by decide) (by decide) (by decide), ?_⟩
    refine ⟨_, rfl, _, rfl, _, rfl, f, _, rfl, .inl (s1 _ _ hf), fun t' H3 s3 ht' => ⟨(by show 3 ≤ sizeLine; decide), fun e he => ?_⟩⟩
    have se := same_new (o := .tup [V.str l.name, V.int l.room, V.ref t']) he
    have s4 := s3.trans se
    have kt := KeepT.upd (o' := .lst (us ++ [V.ref e])) (s4 _ _ h3) (fun xs z => by cases z)
    refine ⟨us, s4 _ _ h3, small1000 (by have := h4.1; rw [List.length_take] at this; omega), fun b o z => ?_, _, upd_same, ?_⟩
    · rw [upd_ne (ne_of_none z hD)]; exact s4 _ _ (s1 _ _ z)
    · rw [take_more hl']
      exact ((h4.imp fun v l z => z.same s4).imp fun v l z => z.kt kt).snoc ⟨e, t', rfl, kt _ _ upd_same, kt _ _ (se _ _ ht')⟩
  rintro H1 ⟨s1, us, h3, h4⟩
  rw [hvl, List.take_length] at h4
  refine ⟨_, rfl, B, rfl, ⟨_, SqL.of (s1 _ _ hB)⟩, fun D2 hD2 => ?_⟩
  have hD20 := s1.free hD2
  refine lc_it walk_list (fun i H' => Same H1 H' ∧ ∃ us, H' D2 = some (.lst us) ∧ AllB (PtTd H') us (parts.take i)) ⟨same_new hD2, [], upd_same, AllB.nil⟩ (fun i H' _ h => SqL.of (h.1 _ _ (s1 _ _ hB))) ?_ ?_
  · rintro i x H2 H3 hi ⟨s2, us2, g3, g4⟩ ⟨rfl, hx⟩
    obtain ⟨p, hp', t, n, i', o, rfl, ht, hn, hi', ho⟩ := ap.get hx
    have s12 := s1.trans s2
    refine ⟨t, _, rfl, SqT.of (s12 _ _ ht), rfl, _, _, rfl, _, _, rfl, _, _, rfl, _, _, rfl, _, _, rfl, rfl, wipe5 (by decide) (by decide) (by decide) (by decide) (by decide), ?_⟩
    refine ⟨_, rfl, _, rfl, _, rfl, n, _, rfl, .inl (s12 _ _ hn), fun tn H4 s4 htn => ?_⟩
    refine ⟨_, rfl, i', _, rfl, .inl (s4 _ _ (s12 _ _ hi')), fun ti H5 s5 hti => ?_⟩
    refine ⟨_, rfl, o, _, rfl, .inl (s5 _ _ (s4 _ _ (s12 _ _ ho))), fun to H6 s6 hto => ⟨(by show 5 ≤ sizeLine; decide), fun e he => ?_⟩⟩
    have se := same_new (o := .tup [V.str p.kd.word, V.str p.name, V.ref tn, V.ref ti, V.ref to]) he
    have s7 := (s4.trans (s5.trans s6)).trans se
    have kt := KeepT.upd (o' := .lst (us2 ++ [V.ref e])) (s7 _ _ g3) (fun xs z => by cases z)
    refine ⟨us2, s7 _ _ g3, small1000 (by have := g4.1; rw [List.length_take] at this; omega), fun b o z => ?_, _, upd_same, ?_⟩
    · rw [upd_ne (ne_of_none z hD2)]; exact s7 _ _ (s2 _ _ z)
    · rw [take_more hp']
      exact ((g4.imp fun v l z => z.same s7).imp fun v l z => z.kt kt).snoc ⟨e, tn, ti, to, rfl, kt _ _ upd_same, kt _ _ (se _ _ (s6 _ _ (s5 _ _ htn))), kt _ _ (se _ _ (s6 _ _ hti)), kt _ _ (se _ _ hto)⟩
  rintro H2 ⟨s2, us2, g3, g4⟩
  rw [hvp, List.take_length] at g4
  refine ⟨_, rfl, _, rfl, (by show 2 ≤ sizeLine; decide), fun t ht => ?_⟩
  have st := same_new (o := .tup [V.ref D, V.ref D2]) ht
  exact q _ t D D2 ((s1.trans s2).trans st) ⟨upd_same, ⟨us, st _ _ (s2 _ _ h3), h4.imp fun v l z => z.same (s2.trans st)⟩, ⟨us2, st _ _ g3, g4.imp fun v l z => z.same st⟩⟩
theorem scEnds : FnScope ["_law_parts", "_law_place", "_law_found", "_law_one", "_law_lane_here"] ["_law_parts", "_law_place"] (defScope sEnds) := ⟨rfl, rfl, rfl, by decide +kernel, rfl, by decide +kernel, by decide +kernel⟩
theorem ok_ends (G : GF K mg "_law_ends" sEnds) : Cal P w K mg base CX0 1 "_law_ends" ["_law_parts", "_law_place"] spEnds := by
  refine G.cal scEnds (fun _ _ _ _ _ _ us hl => match us, hl with | [_, _], _ => rfl) (fun vs H Q E h => by obtain ⟨_, _, _, rfl, _⟩ := h; rfl) (fun f cdv A0 outer s H vs Q E hr h => ?_)
  obtain ⟨B, k, parts, rfl, hk, ⟨vp, hB, ap⟩, nd, hsz, q⟩ := h
  have hu := hu_of hr
  refine ⟨_, (pss_cons (ps_set (i := 2) scEnds.nd rfl (.inl rfl) pe_dnewK)
    (pss_cons (ps_for PassesOwn.never rfl (pi_list (pv 0)) (pg_name (i := 3) scEnds.nd rfl (.inl rfl)) (pss_one (ps_for PassesOwn.never rfl (pi_list (pe_ix ix_tup (pv 3) (pv 1) (fun _ _ => rfl))) (pg_name (i := 4) scEnds.nd rfl (.inl rfl)) (pss_one (ps_dput hu (pv 2) (pv 4) (pe_ix ix_tup (pv 3) pe_int (fun _ _ => rfl)) rfl)))))
    (pss_one (ps_ret (pv 2))))), ?_⟩
  have hvp : vp.length = parts.length := ap.1
  intro d hd
  refine ⟨_, rfl, B, rfl, ⟨_, SqL.of (same_new hd _ _ hB)⟩, ?_⟩
  refine for_it walk_list (fun i σ H' => ∃ v3 v4, σ = [some (.ref B), some (.int k), some (.ref d), v3, v4] ∧ Same H H' ∧ H' d = some (.dK (endsK (selOf k) (parts.take i)))) ⟨_, _, rfl, same_new hd, upd_same⟩ (by rintro i σ H' _ ⟨_, _, _, h, _⟩; exact SqL.of (h _ _ hB)) ?_ ?_
  · rintro i x σ H1 H2 hi ⟨v3, v4, rfl, s1, h1⟩ ⟨rfl, hx⟩
    obtain ⟨p, hp', t, n, ii, o, rfl, ht, hn, hii, ho⟩ := ap.get hx
    obtain ⟨sa, hsa, hat⟩ : ∃ sa, H sa = some (.lst ((selOf k p).map V.str)) ∧ atI [V.str p.kd.word, V.str p.name, V.ref n, V.ref ii, V.ref o] k = some (V.ref sa) := by
      rcases hk with rfl | rfl
      · exact ⟨ii, hii, at3⟩
      · exact ⟨o, ho, at4⟩
    refine ⟨_, rfl, _, rfl, t, _, k, _, rfl, rfl, SqT.of (s1 _ _ ht), hat, sa, rfl, ⟨_, SqL.of (s1 _ _ hsa)⟩, ?_⟩
    refine for_it walk_list (fun j σ H' => ∃ v4, σ = [some (.ref B), some (.int k), some (.ref d), some (.ref t), v4] ∧ Same H H' ∧ H' d = some (.dK (endsK (selOf k) (parts.take i) ++ ((selOf k p).take j).map fun l => (Sum.inr l, V.str p.name)))) ⟨_, rfl, s1, by rw [h1]; simp⟩ (by rintro i σ H' _ ⟨_, _, h, _⟩; exact SqL.of (h _ _ hsa)) ?_ ?_
    · rintro j y σ H3 H4 hj ⟨v4, rfl, s3, h3⟩ ⟨rfl, hy⟩
      rw [List.getElem?_map] at hy
      obtain ⟨z, hz, rfl⟩ : ∃ z, (selOf k p)[j]? = some z ∧ V.str z = y := by
        cases e : (selOf k p)[j]? with
        | none => rw [e] at hy; cases hy
        | some z => rw [e] at hy; exact ⟨z, rfl, Option.some.inj hy⟩
      have hnew := ends_new nd hp' hz
      have hlen := ends_len (sel := selOf k) hp' hz
      have ekeys : (endsK (selOf k) (parts.take i) ++ ((selOf k p).take j).map fun l => ((Sum.inr l, V.str p.name) : Key × V)).map (·.1) = ((parts.take i).flatMap (selOf k) ++ (selOf k p).take j).map Sum.inr := by
        rw [List.map_append, endsK_keys, List.map_append, List.map_map]; rfl
      have hv : valV (endsK (selOf k) (parts.take i) ++ ((selOf k p).take j).map fun l => ((Sum.inr l, V.str p.name) : Key × V)) (Sum.inr z) = none := by
        rw [valV_none_iff, ekeys, mem_inr]; exact hnew
      have hll : (endsK (selOf k) (parts.take i) ++ ((selOf k p).take j).map fun l => ((Sum.inr l, V.str p.name) : Key × V)).length ≤ 100 := by
        have e := congrArg List.length ekeys
        rw [List.length_map,
            List.length_map] at e
        omega
      refine ⟨_, rfl, t, _, 1, _, rfl, rfl, SqT.of (s3 _ _ ht), at1, _, rfl, _, rfl, d, _, rfl, DPut.k (k := Sum.inr z) h3 (small1000 (by omega)), ?_⟩
      rw [putK_new _ hv]
      refine ⟨_, rfl, fun b o e => by rw [upd_ne (ne_of_none e hd)]; exact s3 _ _ e, ?_⟩
      rw [upd_same, take_more hz, List.map_append, List.append_assoc]
      rfl
    · rintro σ H3 ⟨v4, rfl, s3, h3⟩
      refine ⟨_, _, rfl, s3, ?_⟩
      rw [List.length_map, List.take_length] at h3
      rw [h3, take_more hp', endsK_snoc]
  · rintro σ H1 ⟨v3, v4, rfl, s1, h1⟩
    rw [hvp, List.take_length] at h1
    exact ⟨_, rfl, q H1 d s1 hd h1⟩
end
end K21
/-! the law: a name that is not there -/
namespace K21
open PySem PySem.Spec PyProof.Rows L2 TL
abbrev sMissing : Stmt := top 58
/-- o.m(..) where what is raised is wished for at the slots -/
def tMthAt (C : Addr) (m : Str) (sp : Sp) (E : L2.St → XK) (ta : TE) (t : TA) : TE := fun σ H Q => ta σ H fun x H1 => ∃ a dx fs, x = .ref a ∧ H1 a = some (.ins C dx fs) ∧ fs.lookup m = none ∧ t σ H1 fun vs H2 => sp (x :: vs) H2 Q (E σ)
section
variable {X : Cx} {CX : CXT} {k : Nat} {C : Addr} {ps : List Str} {sp : Sp} {E : L2.St → XK} {m : Str} {pos apos : Pos} {e o : Expr} {es : List Expr} {ta : TE} {t : TA}
theorem pe_methGS {pl : Sem Bool} (F : MCal X.prog X.w X.K X.mg X.base CX C k m ps sp) (he : PE X o ta) (c : Cls X.K C) (hr : Room k X.A) (hx : ∀ σ, PassesAt CX X σ (E σ)) (ha : PA X (e :: es) t)
    (hst : starEach (e :: es) X.env = (false, eval e X.env) :: starEach es X.env := by rfl)
        (hpl : (backTo pos (starEach es X.env)).any (·.1) = false := by rfl)
    (ht : eval (.Call (.Attribute o m apos)
        (e :: es) [] pos) X.env = (do
      let ov ← eval o X.env
      standAt apos.atName
      let (f, first) ← holding [ov]
          (getMethod ov m pl)
      callWith pos f first (backTo pos (starEach (e :: es) X.env))
          (backToKw pos (keywordEach [] X.env))) := by rfl) :
    PE X (.Call (.Attribute o m apos) (e :: es) [] pos) (tMthAt C m sp E ta t) := by
  obtain ⟨f, fd, hm, b, G⟩ := F.ex
  refine ⟨fun pins s σ
      H Q I h => ?_⟩
  refine PySem.W.methodCall_KW (pl := pl) (thn (he.run pins s σ H _ I h) fun u s1 hh => ?_) ht
  obtain ⟨x, H1, I1, rx, a, dx, fs, ex, ea, l, q⟩ := hh
  subst ex
  obtain rfl : u =
      Value.ref a := rx
  refine getmeth_ok
      I1 ea c hm l ?_
  refine PySem.W.callWith_K (first := [.ref a]) (h₀ := X.base) I.ok.mod.kin hm.kp (thn (ha.run pos pins s1 σ H1 _ I1 q) fun us s2 hh => ?_) hst hpl
  obtain ⟨vs, H2, I2, r, q2⟩ := hh
  exact ⟨I2.kIn, run_fnS (us := .ref a :: us) (vs := .ref a :: vs) G hr b (hx σ) I2 (.cons rfl r) q2⟩
end
def spMissing (kA : Kd → Addr) (CN : Addr) : Sp := fun vs H Q _ => ∃ (n : Addr) (way : Int) (nm : Str) (lanes : List Ln) (parts : List Pt) (one other : Int), vs = [.ref n, .int way, .str nm] ∧ (0 ≤ way ∧ way ≤ 4) ∧ NetAt kA CN H n lanes parts ∧ NetOk lanes parts one other ∧
  (way < 4 → nm ∉ nms lanes) ∧ (way = 4 → nm ∉ parts.map (fun p : Pt => p.name)) ∧ ∀ H', Same H H' → Q (.bl true) H'
section
variable {P : Program} {w : World} {K : PySem.W.Frag} {mg : Str → Option Value} {base : Heap} {kA : Kd → Addr} {CN CS LE : Addr}
theorem scMissing : FnScope ["_law_net_here", "_law_way", "_law_name", "_law_told_here", "e"] ["_law_net_here", "_law_way", "_law_name"] (defScope sMissing) := ⟨rfl, rfl, rfl, by decide +kernel, rfl, by decide +kernel, by decide +kernel⟩
theorem ok_missing (G : GF K mg "_law_missing" sMissing) (T : NCls K mg CN) (NS : NSFacts K mg CS LE)
    (M0 : MCal P w K mg base (L2.CX P w) CN 4 "room_of" ["self", "name"] (spLane_ kA CN CS hitRoom)) (M1 : MCal P w K mg base (L2.CX P w) CN 4 "first_of" ["self", "name"] (spLane_ kA CN CS hitFirst))
    (M2 : MCal P w K mg base (L2.CX P w) CN 4 "giver_of" ["self", "name"] (spLane_ kA CN CS hitGiver)) (M3 : MCal P w K mg base (L2.CX P w) CN 4 "taker_of" ["self", "name"] (spLane_ kA CN CS hitTaker))
    (M4 : MCal P w K mg base (L2.CX P w) CN 3 "part_of" ["self", "name"] (spPartOf kA CN CS)) :
    Cal P w K mg base CX0 5 "_law_missing" ["_law_net_here", "_law_way", "_law_name"] (spMissing kA CN) := by
  refine G.cal scMissing (fun _ _ _ _ _ _ us hl => match us, hl with | [_, _, _], _ => rfl) (fun vs H Q E h => by obtain ⟨_, _, _, _, _, _, _, rfl, _⟩ := h; rfl) (fun f cdv A0 outer s H vs Q E hr h => ?_)
  obtain ⟨n, way, nm, lanes, parts, one, other, rfl, hw, N, ok, a1, a2, q⟩ := h
  refine ⟨_, pss_cons (ps_set (i := 3) scMissing.nd rfl (.inl rfl) pe_non)
    (pss_cons (ps_try_as (i := 4) (Wout := fun _ _ _ _ => False) rfl rfl scMissing.nd rfl rfl ⟨rfl, by decide, Or.inl NS.gl⟩ takes0
      (fun W pn xe tk _ => pss_one (ps_if (pt_cmpR op_eq (pv 1) pe_int (nomark _)) (pss_one (ps_expr (pe_methGS M0 (pv 0) T.cl (hr.mono (by decide)) (fun σ => passAt tk σ) (pa_cons (pv 2) pa_nil))))
        (pss_one (ps_if (pt_cmpR op_eq (pv 1) pe_int (nomark _)) (pss_one (ps_expr (pe_methGS M1 (pv 0) T.cl (hr.mono (by decide)) (fun σ => passAt tk σ) (pa_cons (pv 2) pa_nil))))
        (pss_one (ps_if (pt_cmpR op_eq (pv 1) pe_int (nomark _)) (pss_one (ps_expr (pe_methGS M2 (pv 0) T.cl (hr.mono (by decide)) (fun σ => passAt tk σ) (pa_cons (pv 2) pa_nil))))
        (pss_one (ps_if (pt_cmpR op_eq (pv 1) pe_int (nomark _)) (pss_one (ps_expr (pe_methGS M3 (pv 0) T.cl (hr.mono (by decide)) (fun σ => passAt tk σ) (pa_cons (pv 2) pa_nil))))
        (pss_one (ps_expr (pe_methGS M4 (pv 0) T.cl (hr.mono (by decide)) (fun σ => passAt tk σ) (pa_cons (pv 2) pa_nil))))))))))))
      (fun a oe cls d pn hz hf => pss_one (ps_set (i := 3) scMissing.nd rfl (.inl rfl) (pe_xf NS.xf NS.noN hz hf (pv 4)))))
    (pss_one (ps_ret (pe_cmpR op_eq (pv 3) (pv 2) (nomark _))))), ?_⟩
  obtain ⟨r, g1, g2, t, m, kf, km, B, af, am⟩ := N.ex
  obtain ⟨dx, hn⟩ := B.ob
  have nf : ∀ x : Str, x ≠ "rooms" → x ≠ "firsts" → x ≠ "givers" → x ≠ "takers" → x ≠ "members" → (nflds r g1 g2 t m).lookup x = none := fun x h1 h2 h3 h4 h5 => nf_no h1 h2 h3 h4 h5
  have done : ∀ (d : Addr) (H' : Hp), Same H H' → H' d = some (.xd [(("name" : Str), V.str nm)]) → ∃ b, PySem.W.exmOne K (.ref CS) (.ref CS) = some b ∧ (b = true → ∀ a, H' a = none → tAsg (tXf a (.ref CS) (some d) CS "name" (tVar 4)) (gName 3)
      { nx := fun σ' H2 => (tRet (tOp rEq (tVar 3) (tVar 2)) { nx := fun _ H' => Q V.non H', rt := Q }) (σ'.set 4 none) H2, rt := Q } [some (.ref n), some (.int way), some (.str nm), some .non, some (.ref a)] H') ∧ (b = false → False) := fun d H' sm hd => by
    refine ⟨true, NS.te, fun _ a ha => ?_, fun z => by cases z⟩
    refine ⟨_, rfl, rfl, rfl, d, _, .str nm, rfl, hd, lookup_hit, ?_⟩
    refine ⟨_, rfl, _, rfl, rfl, ?_⟩
    rw [decide_eq_true rfl]
    exact q H' sm
  obtain rfl | rfl | rfl | rfl | rfl : way = 0 ∨ way = 1 ∨ way = 2 ∨ way = 3 ∨ way = 4 := by omega
  · refine ⟨_, rfl, rfl, _, rfl, ifT (by decide +kernel) ?_⟩
    exact ⟨_, rfl, n, dx, _, rfl, hn, nf _ (by decide +kernel) (by decide +kernel) (by decide +kernel) (by decide +kernel) (by decide +kernel), _, rfl, n, nm, lanes, parts, one, other, rfl, N, ok, fun h => absurd h (a1 (by decide)), fun _ d H' _ sm hd => done d H' sm hd⟩
  · refine ⟨_, rfl, rfl, _, rfl, ifF (by decide +kernel) ?_⟩
    refine ⟨_, rfl, rfl, _, rfl, ifT (by decide +kernel) ?_⟩
    exact ⟨_, rfl, n, dx, _, rfl, hn, nf _ (by decide +kernel) (by decide +kernel) (by decide +kernel) (by decide +kernel) (by decide +kernel), _, rfl, n, nm, lanes, parts, one, other, rfl, N, ok, fun h => absurd h (a1 (by decide)), fun _ d H' _ sm hd => done d H' sm hd⟩
  · refine ⟨_, rfl, rfl, _, rfl, ifF (by decide +kernel) ?_⟩
    refine ⟨_, rfl, rfl, _, rfl, ifF (by decide +kernel) ?_⟩
    refine ⟨_, rfl, rfl, _, rfl, ifT (by decide +kernel) ?_⟩
    exact ⟨_, rfl, n, dx, _, rfl, hn, nf _ (by decide +kernel) (by decide +kernel) (by decide +kernel) (by decide +kernel) (by decide +kernel), _, rfl, n, nm, lanes, parts, one, other, rfl, N, ok, fun h => absurd h (a1 (by decide)), fun _ d H' _ sm hd => done d H' sm hd⟩
  · refine ⟨_, rfl, rfl, _, rfl, ifF (by decide +kernel) ?_⟩
    refine ⟨_, rfl, rfl, _, rfl, ifF (by decide +kernel) ?_⟩
    refine ⟨_, rfl, rfl, _, rfl, ifF (by decide +kernel) ?_⟩
    refine ⟨_, rfl, rfl, _, rfl, ifT (by decide +kernel) ?_⟩
    exact ⟨_, rfl, n, dx, _, rfl, hn, nf _ (by decide +kernel) (by decide +kernel) (by decide +kernel) (by decide +kernel) (by decide +kernel), _, rfl, n, nm, lanes, parts, one, other, rfl, N, ok, fun h => absurd h (a1 (by decide)), fun _ d H' _ sm hd => done d H' sm hd⟩
  · refine ⟨_, rfl, rfl, _, rfl, ifF (by decide +kernel) ?_⟩
    refine ⟨_, rfl, rfl, _, rfl, ifF (by decide +kernel) ?_⟩
    refine ⟨_, rfl, rfl, _, rfl, ifF (by decide +kernel) ?_⟩
    refine ⟨_, rfl, rfl, _, rfl, ifF (by decide +kernel) ?_⟩
    refine ⟨_, rfl, n, dx, _, rfl, hn, nf _ (by decide +kernel) (by decide +kernel) (by decide +kernel) (by decide +kernel) (by decide +kernel), _, rfl, n, nm, lanes, parts, one, other, rfl, N, ok, fun p hp e => absurd (List.mem_map.mpr ⟨p, hp, e⟩) (a2 rfl), fun _ d H' _ sm hd => done d H' sm hd⟩
end
end K21
/-! the law: the lanes are as handed in -/
namespace K21
open PySem PySem.Spec PyProof.Rows L2 TL
abbrev sLanesGood : Stmt := top 59
/-- the net and the law's own lists -/
def spGood (kA : Kd → Addr) (CN : Addr) : Sp := fun vs H Q _ => ∃ (n A B : Addr) (lanes : List Ln) (parts : List Pt) (one other : Int), vs = [.ref n, .ref A, .ref B] ∧ NetAt kA CN H n lanes parts ∧ LanesAt H A lanes ∧ PartsAt H B parts ∧ NetOk lanes parts one other ∧
  ∀ H', Same H H' → Q (.bl true) H'
theorem uniq_of {α β : Type} {f : α → β} : ∀ {ls : List α}, (ls.map f).Nodup → ∀ {a b : α}, a ∈ ls → b ∈ ls → f a = f b → a = b
  | [], _, _, _, h, _, _ => by cases h
  | x :: xs, nd, a, b, ha, hb, e => by
    rw [List.map_cons,
        List.nodup_cons] at nd
    by_cases ea : a = x
    · by_cases eb : b = x
      · rw [ea, eb]
      · have hb' := (List.mem_cons.mp hb).resolve_left eb
        exact absurd (List.mem_map.mpr ⟨b, hb', by rw [← e, ea]⟩) nd.1
    · have ha' := (List.mem_cons.mp ha).resolve_left ea
      by_cases eb : b = x
      · exact absurd (List.mem_map.mpr ⟨a, ha', by rw [e, eb]⟩) nd.1
      · exact uniq_of nd.2 ha' ((List.mem_cons.mp hb).resolve_left eb) e
section
variable {P : Program} {w : World} {K : PySem.W.Frag} {mg : Str → Option Value} {base : Heap} {kA : Kd → Addr} {CN CS LE : Addr}
theorem scLanesGood : FnScope ["_law_net_here", "_law_lanes", "_law_parts", "_law_takers", "_law_givers", "_law_name", "_law_room", "_law_first", "_law_found"] ["_law_net_here", "_law_lanes", "_law_parts"] (defScope sLanesGood) := ⟨rfl, rfl, rfl, by decide +kernel, rfl, by decide +kernel, by decide +kernel⟩
theorem ok_lanesgood (G : GF K mg "_law_lanes_good" sLanesGood) (T : NCls K mg CN) (ME : Cal P w K mg base CX0 1 "_law_ends" ["_law_parts", "_law_place"] spEnds)
    (M0 : MCal P w K mg base (L2.CX P w) CN 4 "room_of" ["self", "name"] (spLane_ kA CN CS hitRoom)) (M1 : MCal P w K mg base (L2.CX P w) CN 4 "first_of" ["self", "name"] (spLane_ kA CN CS hitFirst))
    (M2 : MCal P w K mg base (L2.CX P w) CN 4 "giver_of" ["self", "name"] (spLane_ kA CN CS hitGiver)) (M3 : MCal P w K mg base (L2.CX P w) CN 4 "taker_of" ["self", "name"] (spLane_ kA CN CS hitTaker))
    (hlist : mg "list" = none) (hisi : mg "isinstance" = none) :
    Cal P w K mg base CX0 5 "_law_lanes_good" ["_law_net_here", "_law_lanes", "_law_parts"] (spGood kA CN) := by
  refine G.cal scLanesGood (fun _ _ _ _ _ _ us hl => match us, hl with | [_, _, _], _ => rfl) (fun vs H Q E h => by obtain ⟨_, _, _, _, _, _, _, rfl, _⟩ := h; rfl) (fun f cdv A0 outer s H vs Q E hr h => ?_)
  obtain ⟨n, A, B, lanes, parts, one, other, rfl, N, LA, PA_, ok, q⟩ := h
  have hu := hu_of hr
  refine ⟨_, (pss_cons (ps_set (i := 3) scLanesGood.nd rfl (.inl rfl) (pe_callG ME (hr.mono (by decide)) (by rfl) pass0 (pa_cons (pv 2) (pa_cons pe_int pa_nil))))
    (pss_cons (ps_set (i := 4) scLanesGood.nd rfl (.inl rfl) (pe_callG ME (hr.mono (by decide)) (by rfl) pass0 (pa_cons (pv 2) (pa_cons pe_int pa_nil))))
    (pss_cons (ps_for PassesOwn.never rfl (pi_list (pv 1)) (pg_tup (by rfl) (pgs_cons (pg_name (i := 5) scLanesGood.nd rfl (.inl rfl)) (pgs_cons (pg_name (i := 6) scLanesGood.nd rfl (.inl rfl)) (pgs_cons (pg_name (i := 7) scLanesGood.nd rfl (.inl rfl)) pgs_nil)))) (pss_cons (ps_if (PW.pt (pw_or (pt_cmpR op_ne (pe_methG M0 (pv 0) T.cl (hr.mono (by decide)) passL (pa_cons (pv 5) pa_nil)) (pv 6) (nomark _)) (pw_or (pt_cmpR op_ne (pe_methG M2 (pv 0) T.cl (hr.mono (by decide)) passL (pa_cons (pv 5) pa_nil)) (pe_dget hu (pv 4) (pv 5) (fun _ _ => rfl)) (nomark _)) (pw_or1 (pt_cmpR op_ne (pe_methG M3 (pv 0) T.cl (hr.mono (by decide)) passL (pa_cons (pv 5) pa_nil)) (pe_dget hu (pv 3) (pv 5) (fun _ _ => rfl)) (nomark _)))))) (pss_one (ps_ret pe_bl)) pss_nil)
    (pss_cons (ps_set (i := 8) scLanesGood.nd rfl (.inl rfl) (pe_methG M1 (pv 0) T.cl (hr.mono (by decide)) passL (pa_cons (pv 5) pa_nil)))
    (pss_cons (ps_if (PW.pt (pw_or (pt_not (pt_val (pe_callB call_isi (by rfl) hisi (by decide +kernel) (pa_cons (pv 8) (pa_cons (pe_bltn (v := .ty "list") (by rfl) hlist (by decide +kernel) rfl) pa_nil))))) (pw_or1 (pt_cmpR (op_neD hr.units) (pv 8) (pe_callTy call_list_of (by rfl) hlist (by decide +kernel) (pa_cons (pv 7) pa_nil)) (nomark _))))) (pss_one (ps_ret pe_bl)) pss_nil)
    (pss_one (ps_expr (pe_bm PySem.F.plainAttrs_list PySem.F.slot_list_append PySem.F.type_list_append mt_append (pv 8) (pa_cons pe_int pa_nil))))))))
    (pss_one (ps_ret pe_bl))))), ?_⟩
  obtain ⟨r, g1, g2, t, m, kf, km, Bn, af, am⟩ := id N.ex
  obtain ⟨dx, hn⟩ := Bn.ob
  obtain ⟨vl, hA, al⟩ := LA
  have nf : ∀ x : Str, x ≠ "rooms" → x ≠ "firsts" → x ≠ "givers" → x ≠ "takers" → x ≠ "members" → (nflds r g1 g2 t m).lookup x = none := fun x h1 h2 h3 h4 h5 => nf_no h1 h2 h3 h4 h5
  have e3 : selOf 3 = fun p : Pt => p.ins := rfl
  have e4 : selOf 4 = fun p : Pt => p.outs := rfl
  have nd3 : (parts.flatMap (fun p : Pt => p.ins)).Nodup := ok.pi.nodup_iff.mpr ok.lnd
  have nd4 : (parts.flatMap (fun p : Pt => p.outs)).Nodup := ok.po.nodup_iff.mpr ok.lnd
  have ll1 := ok.l1
  have hl3 : (parts.flatMap (fun p : Pt => p.ins)).length ≤ 100 := by rw [ok.pi.length_eq, List.length_map]; omega
  have hl4 : (parts.flatMap (fun p : Pt => p.outs)).length ≤ 100 := by rw [ok.po.length_eq, List.length_map]; omega
  refine ⟨_, rfl, B, 3, parts, rfl, .inl rfl, PA_, nd3, hl3, fun H1 d1 s1 _ h1 => ?_⟩
  rw [e3] at h1
  refine ⟨_, rfl, B, 4, parts, rfl, .inr rfl, PA_.same s1, nd4, hl4, fun H2 d2 s2 _ h2 => ?_⟩
  rw [e4] at h2
  have S := s1.trans s2
  have h1' := s2 _ _ h1
  refine ⟨_, rfl, A, rfl, ⟨vl, SqL.of (S _ _ hA)⟩, ?_⟩
  have hvl : vl.length = lanes.length := al.1
  refine for_it walk_list (fun i σ H' => ∃ v5 v6 v7 v8, σ = [some (.ref n), some (.ref A), some (.ref B), some (.ref d1), some (.ref d2), v5, v6, v7, v8] ∧ Same H2 H') ⟨_, _, _, _, rfl, Same.refl H2⟩ (by rintro i σ H' _ ⟨_, _, _, _, _, h⟩; exact SqL.of (h _ _ (S _ _ hA))) ?_ ?_
  · rintro i x σ H3 H4 hi ⟨v5, v6, v7, v8, rfl, s3⟩ ⟨rfl, hx⟩
    obtain ⟨l, hl', tt, f, rfl, ht, hf⟩ := al.get hx
    have hlm : l ∈ lanes := List.mem_of_getElem? hl'
    have hnm : l.name ∈ nms lanes := List.mem_map.mpr ⟨l, hlm, rfl⟩
    have lok := (ok.lok l hlm).2.2
    have S4 : Same H H4 := S.trans s3
    refine ⟨tt, _, rfl, SqT.of (S4 _ _ ht), rfl, _, _, rfl, _, _, rfl, _, _, rfl, rfl, ?_⟩
    have N4 := N.same S4
    have hn4 := S4 _ _ hn
    refine ⟨_, rfl, n, dx, _, rfl, hn4, nf _ (by decide +kernel) (by decide +kernel) (by decide +kernel) (by decide +kernel) (by decide +kernel), _, rfl, n, l.name, lanes, parts, one, other, rfl, N4, ok, fun _ l2 hl2 en => ?_, fun h => absurd hnm h⟩
    obtain rfl := uniq_of ok.lnd hl2 hlm en
    refine ⟨_, rfl, rfl, _, rfl, ifF (by rw [decide_eq_true rfl]; decide) ?_⟩
    refine ⟨_, rfl, n, dx, _, rfl, hn4, nf _ (by decide +kernel) (by decide +kernel) (by decide +kernel) (by decide +kernel) (by decide +kernel), _, rfl, n, l2.name, lanes, parts, one, other, rfl, N4, ok, fun _ p hp hpl => ?_, fun h => absurd hnm h⟩
    refine ⟨_, rfl, _, rfl, d2, _, rfl, DGet.some_ (k := Sum.inr l2.name) (s3 _ _ h2) (ends_val nd4 hp hpl), rfl, _, rfl, ifF (by rw [decide_eq_true rfl]; decide) ?_⟩
    refine ⟨_, rfl, n, dx, _, rfl, hn4, nf _ (by decide +kernel) (by decide +kernel) (by decide +kernel) (by decide +kernel) (by decide +kernel), _, rfl, n, l2.name, lanes, parts, one, other, rfl, N4, ok, fun _ p hp hpl => ?_, fun h => absurd hnm h⟩
    refine ⟨_, rfl, _, rfl, d1, _, rfl, DGet.some_ (k := Sum.inr l2.name) (s3 _ _ h1') (ends_val nd3 hp hpl), rfl, _, rfl, ifF (by rw [decide_eq_true rfl]; decide) ?_⟩
    -- the first values
    refine ⟨_, rfl, n, dx, _, rfl, hn4, nf _ (by decide +kernel) (by decide +kernel) (by decide +kernel) (by decide +kernel) (by decide +kernel), _, rfl, n, l2.name, lanes, parts, one, other, rfl, N4, ok, fun _ l3 hl3 en2 u hu' => ?_, fun h => absurd hnm h⟩
    obtain rfl := uniq_of ok.lnd hl3 hlm en2
    have su := same_new (o := .lst (l3.first.map V.int)) hu'
    refine ⟨_, rfl, .ref u, .ty "list", _, _, true, rfl, .ty _, .base (.lst upd_same), kit_ty (by decide +kernel), true, rfl, ifF (by decide) ?_⟩
    refine ⟨_, rfl, _, rfl, f, _, rfl, .inl (SqL.of (su _ _ (S4 _ _ hf))), fun l4 hl4' => ?_⟩
    have sl := same_new (o := .lst (l3.first.map V.int)) hl4'
    have hu4 := sl _ _ (show (upd H4 u (.lst (l3.first.map V.int))) u = some (.lst (l3.first.map V.int)) from upd_same)
    refine neD_same (d := .list (l3.first.map PyData.int)) (n := 1) (.lst (SqL.of hu4) dp_ints) (.lst (SqL.of upd_same) dp_ints) (nice_lst nice_ints) (by decide) ⟨false, rfl, ifF (by decide) ?_⟩
    have f1 := lok.fit
    have f2 := lok.hi
    refine ⟨_, rfl, .inl ⟨rfl, _, SqL.of hu4⟩, u, _, _, rfl, rfl, hu4, small1000 (by rw [List.length_map]; omega), ?_⟩
    refine ⟨_, _, _, _, rfl, fun b o e => ?_⟩
    rw [upd_ne (ne_of_none (s3 _ _ e) hu')]
    exact sl _ _ (su _ _ (s3 _ _ e))
  · rintro σ H3 ⟨v5, v6, v7, v8, rfl, s3⟩
    exact q H3 (S.trans s3)
end
end K21
/-! the law: the parts are as handed in -/
namespace K21
open PySem PySem.Spec PyProof.Rows L2 TL
abbrev sPartsGood : Stmt := top 60
theorem in_one {kd kd' : Kd} : inV (.str kd.word) [V.str kd'.word] = decide (V.str kd.word = V.str kd'.word) := by
  cases kd <;> cases kd' <;> decide +kernel
theorem selN_take {ws : List Str} {ps : List Pt} (i : Nat) : (selN ws (ps.take i)).length ≤ ps.length := by
  unfold selN selP
  rw [List.length_map]
  have z1 := List.length_filter_le (fun p : Pt => inV (.str p.kd.word) (ws.map V.str)) (ps.take i)
  have z2 : (ps.take i).length ≤ ps.length := by rw [List.length_take]; omega
  omega
theorem selN_dp {K : PySem.W.Frag} {H : Hp} {ws : List Str} {ps : List Pt} {a : Addr} (e : H a = some (.lst (selN ws ps))) : Dp K H (.ref a) (.list ((selP ws ps).map fun p => PyData.str p.name)) := by
  refine .lst (SqL.of e) ?_
  have h1 : selN ws ps = ((selP ws ps).map fun p : Pt => p.name).map V.str := by unfold selN; rw [List.map_map]; rfl
  have h2 : ((selP ws ps).map fun p => PyData.str p.name) = ((selP ws ps).map fun p : Pt => p.name).map PyData.str := by rw [List.map_map]; rfl
  rw [h1, h2]
  exact dp_strs
theorem selP_nice {ws : List Str} {ps : List Pt} (h : ∀ p ∈ ps, NameOk p.name) : Nice 1 (.list ((selP ws ps).map fun p => PyData.str p.name)) := by
  refine nice_lst (n := 0) fun d hd => ?_
  obtain ⟨p, hp, rfl⟩ := List.mem_map.mp hd
  exact nice_str (strOk_of (h p (List.mem_filter.mp hp).1))
theorem odd_at {ps : List Pt} : atI (selN ["choose", "split"] ps ++ [V.non]) 0 = some (oddV ps) := by
  have ho : oddV ps = match selP ["choose", "split"] ps with | [] => V.non | p :: _ => .str p.name := rfl
  have hs : selN ["choose", "split"] ps = (selP ["choose", "split"] ps).map fun p => V.str p.name := rfl
  rw [ho, hs]
  cases selP ["choose", "split"] ps with
  | nil => exact atI_nat (j := 0) rfl
  | cons p r => exact atI_nat (j := 0) rfl
theorem odd_dp {K : PySem.W.Frag} {ps : List Pt} (h : ∀ p ∈ ps, NameOk p.name) : ∃ d, Nice 0 d ∧ ∀ H : Hp, Dp K H (oddV ps) d := by
  have ho : oddV ps = match selP ["choose", "split"] ps with | [] => V.non | p :: _ => .str p.name := rfl
  rw [ho]
  cases hs : selP ["choose", "split"] ps with
  | nil => exact ⟨.none, nice_non, fun H => .non⟩
  | cons p r =>
    have hm : p ∈ selP ["choose", "split"] ps := by rw [hs]; exact List.mem_cons_self ..
    exact ⟨.str p.name, nice_str (strOk_of (h p (List.mem_filter.mp hm).1)), fun H => .str _⟩
def spPGood (kA : Kd → Addr) (CN : Addr) : Sp := fun vs H Q _ => ∃ (n B : Addr) (lanes : List Ln) (parts : List Pt) (one other : Int), vs = [.ref n, .ref B] ∧ NetAt kA CN H n lanes parts ∧ PartsAt H B parts ∧ NetOk lanes parts one other ∧
  ∀ H', Same H H' → Q (.bl true) H'
section
variable {P : Program} {w : World} {K : PySem.W.Frag} {mg : Str → Option Value} {base : Heap} {kA : Kd → Addr} {CN CS LE : Addr}
theorem scPartsGood : FnScope ["_law_net_here", "_law_parts", "_law_kind", "_law_name", "_law_numbers", "_law_ins", "_law_outs", "_law_one", "_law_odds"] ["_law_net_here", "_law_parts"] (defScope sPartsGood) := ⟨rfl, rfl, rfl, by decide +kernel, rfl, by decide +kernel, by decide +kernel⟩
theorem ok_partsgood (G : GF K mg "_law_parts_good" sPartsGood) (T : NCls K mg CN) (FP : ∀ kd, PCls K (kA kd)) (FK : ∀ kd, Cls K (kA kd) ∧ MCal P w K mg base CX0 (kA kd) 1 "kind" ["self"] (spKind kd))
    (M4 : MCal P w K mg base (L2.CX P w) CN 3 "part_of" ["self", "name"] (spPartOf kA CN CS)) (MG : MCal P w K mg base CX0 CN 3 "gives" ["self"] (spSel kA CN ["give"])) (MT : MCal P w K mg base CX0 CN 3 "takes" ["self"] (spSel kA CN ["take"]))
    (MO : MCal P w K mg base CX0 CN 3 "odd" ["self"] (spOdd kA CN)) (htuple : mg "tuple" = none) :
    Cal P w K mg base CX0 4 "_law_parts_good" ["_law_net_here", "_law_parts"] (spPGood kA CN) := by
  refine G.cal scPartsGood (fun _ _ _ _ _ _ us hl => match us, hl with | [_, _], _ => rfl) (fun vs H Q E h => by obtain ⟨_, _, _, _, _, _, rfl, _⟩ := h; rfl) (fun f cdv A0 outer s H vs Q E hr h => ?_)
  obtain ⟨n, B, lanes, parts, one, other, rfl, N, PA_, ok, q⟩ := h
  have hu := hu_of hr
  refine ⟨_, (pss_cons (ps_for PassesOwn.never rfl (pi_list (pv 1)) (pg_tup (by rfl) (pgs_cons (pg_name (i := 2) scPartsGood.nd rfl (.inl rfl)) (pgs_cons (pg_name (i := 3) scPartsGood.nd rfl (.inl rfl)) (pgs_cons (pg_name (i := 4) scPartsGood.nd rfl (.inl rfl)) (pgs_cons (pg_name (i := 5) scPartsGood.nd rfl (.inl rfl)) (pgs_cons (pg_name (i := 6) scPartsGood.nd rfl (.inl rfl)) pgs_nil)))))) (pss_cons (ps_set (i := 7) scPartsGood.nd rfl (.inl rfl) (pe_methG M4 (pv 0) T.cl (hr.mono (by decide)) passL (pa_cons (pv 3) pa_nil)))
    (pss_cons (ps_if (PW.pt (pw_or (pt_cmpR op_ne (pe_methI FK (pv 7) (hr.mono (by decide)) pass0) (pv 2) (nomark _)) (pw_or1 (pt_cmpR op_ne (pe_fld (pv 7) rfl) (pv 3) (nomark _))))) (pss_one (ps_ret pe_bl)) pss_nil)
    (pss_one (ps_if (pt_cmpR (op_neD hr.units) (pe_tup (pa_cons (pe_fld (pv 7) rfl) (pa_cons (pe_fld (pv 7) rfl) (pa_cons (pe_fld (pv 7) rfl) pa_nil)))) (pe_tup (pa_cons (pe_callTy call_tupleS (by rfl) htuple (by decide +kernel) (pa_cons (pv 4) pa_nil)) (pa_cons (pe_callTy call_tupleS (by rfl) htuple (by decide +kernel) (pa_cons (pv 5) pa_nil)) (pa_cons (pe_callTy call_tupleS (by rfl) htuple (by decide +kernel) (pa_cons (pv 6) pa_nil)) pa_nil)))) (nomark _)) (pss_one (ps_ret pe_bl)) pss_nil)))))
    (pss_cons (ps_setLc (i := 8) (own := [("_law_one", 7)]) (g := (gName 7)) (tt := tTest (tOp (rIn K false) (tOp (rIxT K) (tVar 7) (tC (V.int 0))) (tLst (tCons (tC (V.str "choose")) (tCons (tC (V.str "split")) tNil))))) (te := tOp (rIxT K) (tVar 7) (tC (V.int 1))) rfl scPartsGood.nd rfl rfl (sw_true rfl rfl rfl (by decide +kernel)) (pi_list (pv 1)) (blkOk_by (own := [("_law_one", 7)]) (N := ["_law_net_here", "_law_parts", "_law_kind", "_law_name", "_law_numbers", "_law_ins", "_law_outs", "_law_one", "_law_odds"]) (sc := defScope sPartsGood) (by decide +kernel)) (fun _ _ _ _ _ => (pg_name (i := 7) scPartsGood.nd rfl (.inl rfl))) (fun _ _ _ _ _ => (pts_one (pt_cmpR op_in_seq (pe_ix ix_tup (pv 7) pe_int (fun _ _ => rfl)) (pe_lst (pa_cons pe_str (pa_cons pe_str pa_nil))) (by rfl)))) (fun _ _ _ _ _ => (pe_ix ix_tup (pv 7) pe_int (fun _ _ => rfl))))
    (pss_cons (ps_if (PW.pt (pw_or (pt_cmpR (op_neD hr.units) (pe_methG0 MG (pv 0) T.cl (hr.mono (by decide)) pass0) (pe_lc (own := [("_law_one", 7)]) (g := (gName 7)) (tt := tTest (tOp rEq (tOp (rIxT K) (tVar 7) (tC (V.int 0))) (tC (V.str "give")))) (te := tOp (rIxT K) (tVar 7) (tC (V.int 1))) rfl scPartsGood.nd (pi_list (pv 1)) (blkOk_by (own := [("_law_one", 7)]) (N := ["_law_net_here", "_law_parts", "_law_kind", "_law_name", "_law_numbers", "_law_ins", "_law_outs", "_law_one", "_law_odds"]) (sc := defScope sPartsGood) (by decide +kernel)) (fun _ _ _ _ _ => (pg_name (i := 7) scPartsGood.nd rfl (.inl rfl))) (fun _ _ _ _ _ => (pts_one (pt_cmpR op_eq (pe_ix ix_tup (pv 7) pe_int (fun _ _ => rfl)) pe_str (nomark _)))) (fun _ _ _ _ _ => (pe_ix ix_tup (pv 7) pe_int (fun _ _ => rfl)))) (nomark _)) (pw_or1 (pt_cmpR (op_neD hr.units) (pe_methG0 MO (pv 0) T.cl (hr.mono (by decide)) pass0) (pe_ix ix_list (pe_op op_cat (pv 8) (pe_lst (pa_cons pe_non pa_nil))) pe_int (fun _ _ => rfl)) (nomark _))))) (pss_one (ps_ret pe_bl)) pss_nil)
    (pss_one (ps_ret (pe_cmpR (op_eqD hr.units) (pe_methG0 MT (pv 0) T.cl (hr.mono (by decide)) pass0) (pe_lc (own := [("_law_one", 7)]) (g := (gName 7)) (tt := tTest (tOp rEq (tOp (rIxT K) (tVar 7) (tC (V.int 0))) (tC (V.str "take")))) (te := tOp (rIxT K) (tVar 7) (tC (V.int 1))) rfl scPartsGood.nd (pi_list (pv 1)) (blkOk_by (own := [("_law_one", 7)]) (N := ["_law_net_here", "_law_parts", "_law_kind", "_law_name", "_law_numbers", "_law_ins", "_law_outs", "_law_one", "_law_odds"]) (sc := defScope sPartsGood) (by decide +kernel)) (fun _ _ _ _ _ => (pg_name (i := 7) scPartsGood.nd rfl (.inl rfl))) (fun _ _ _ _ _ => (pts_one (pt_cmpR op_eq (pe_ix ix_tup (pv 7) pe_int (fun _ _ => rfl)) pe_str (nomark _)))) (fun _ _ _ _ _ => (pe_ix ix_tup (pv 7) pe_int (fun _ _ => rfl)))) (nomark _))))))), ?_⟩
  obtain ⟨r, g1, g2, t, m, kf, km, Bn, af, am⟩ := id N.ex
  obtain ⟨dx, hn⟩ := Bn.ob
  obtain ⟨vp, hB, ap⟩ := PA_
  have nf : ∀ x : Str, x ≠ "rooms" → x ≠ "firsts" → x ≠ "givers" → x ≠ "takers" → x ≠ "members" → (nflds r g1 g2 t m).lookup x = none := fun x h1 h2 h3 h4 h5 => nf_no h1 h2 h3 h4 h5
  have hvp : vp.length = parts.length := ap.1
  have pp1 := ok.p1
  have nmk : ∀ p ∈ parts, NameOk p.name := fun p hp => (ok.pok p hp).1
  refine ⟨_, rfl, B, rfl, ⟨vp, SqL.of hB⟩, ?_⟩
  refine for_it walk_list (fun i σ H' => ∃ v2 v3 v4 v5 v6 v7, σ = [some (.ref n), some (.ref B), v2, v3, v4, v5, v6, v7, none] ∧ Same H H') ⟨_, _, _, _, _, _, rfl, Same.refl H⟩ (by rintro i σ H' _ ⟨_, _, _, _, _, _, _, h⟩; exact SqL.of (h _ _ hB)) ?_ ?_
  · rintro i x σ H3 H4 hi ⟨v2, v3, v4, v5, v6, v7, rfl, s3⟩ ⟨rfl, hx⟩
    obtain ⟨p, hp', tt, pn, pi, po, rfl, ht, hpn, hpi, hpo⟩ := ap.get hx
    have hpm : p ∈ parts := List.mem_of_getElem? hp'
    have N4 := N.same s3
    refine ⟨tt, _, rfl, SqT.of (s3 _ _ ht), rfl, _, _, rfl, _, _, rfl, _, _, rfl, _, _, rfl, _, _, rfl, rfl, ?_⟩
    refine ⟨_, rfl, n, dx, _, rfl, s3 _ _ hn, nf _ (by decide +kernel) (by decide +kernel) (by decide +kernel) (by decide +kernel) (by decide +kernel), _, rfl, n, p.name, lanes, parts, one, other, rfl, N4, ok, fun p2 hp2 en x po2 => ?_, fun h => absurd (List.mem_map.mpr ⟨p, hpm, rfl⟩) h⟩
    obtain rfl := uniq_of ok.pnd hp2 hpm en
    have pc := FP p2.kd
    obtain ⟨dy, tn, ti, to, hx4, htn, hti, hto⟩ := po2
    refine ⟨_, rfl, p2.kd, x, dy, _, rfl, hx4, pf_no (by decide +kernel) (by decide +kernel) (by decide +kernel) (by decide +kernel), x, rfl, ?_⟩
    refine ⟨_, rfl, rfl, _, rfl, ifF (by rw [decide_eq_true rfl]; decide) ?_⟩
    refine ⟨_, rfl, x, _, dy, _, _, rfl, hx4, pc.cl, pc.n1, pf_name, _, rfl, rfl, _, rfl, ifF (by rw [decide_eq_true rfl]; decide) ?_⟩
    -- three tuples
    refine ⟨_, rfl, x, _, dy, _, _, rfl, hx4, pc.cl, pc.n2, pf_numbers, _, rfl, x, _, dy, _, _, rfl, hx4, pc.cl, pc.n3, pf_ins, _, rfl, x, _, dy, _, _, rfl, hx4, pc.cl, pc.n4, pf_outs, (by show 3 ≤ sizeLine; decide), fun e he => ?_⟩
    have se := same_new (o := .tup [V.ref tn, V.ref ti, V.ref to]) he
    refine ⟨_, rfl, pn, _, rfl, .inl (se _ _ (s3 _ _ hpn)), fun un H5 s5 hun => ?_⟩
    refine ⟨_, rfl, pi, _, rfl, .inl (s5 _ _ (se _ _ (s3 _ _ hpi))), fun ui H6 s6 hui => ?_⟩
    refine ⟨_, rfl, po, _, rfl, .inl (s6 _ _ (s5 _ _ (se _ _ (s3 _ _ hpo)))), fun uo H7 s7 huo => ⟨(by show 3 ≤ sizeLine; decide), fun e2 he2 => ?_⟩⟩
    have s8 := same_new (o := .tup [V.ref un, V.ref ui, V.ref uo]) he2
    have S8 := ((s5.trans s6).trans s7).trans s8
    have D1 : Dp K (upd H7 e2 (.tup [V.ref un, V.ref ui, V.ref uo])) (.ref e) (.tuple [.tuple (p2.nums.map PyData.int), .tuple (p2.ins.map PyData.str), .tuple (p2.outs.map PyData.str)]) :=
      .tup (SqT.of (S8 _ _ upd_same)) (.cons (.tup (SqT.of (S8 _ _ (se _ _ htn))) dp_ints) (.cons (.tup (SqT.of (S8 _ _ (se _ _ hti))) dp_strs) (.cons (.tup (SqT.of (S8 _ _ (se _ _ hto))) dp_strs) .nil)))
    have D2 : Dp K (upd H7 e2 (.tup [V.ref un, V.ref ui, V.ref uo])) (.ref e2) (.tuple [.tuple (p2.nums.map PyData.int), .tuple (p2.ins.map PyData.str), .tuple (p2.outs.map PyData.str)]) :=
      .tup (SqT.of upd_same) (.cons (.tup (SqT.of (s8 _ _ (s7 _ _ (s6 _ _ hun)))) dp_ints) (.cons (.tup (SqT.of (s8 _ _ (s7 _ _ hui))) dp_strs) (.cons (.tup (SqT.of (s8 _ _ huo)) dp_strs) .nil)))
    have NI : Nice 2 (.tuple [.tuple (p2.nums.map PyData.int), .tuple (p2.ins.map PyData.str), .tuple (p2.outs.map PyData.str)]) := by
      refine nice_tup fun d hd => ?_
      rcases List.mem_cons.mp
          hd with rfl | hd
      · exact nice_tup nice_ints
      rcases List.mem_cons.mp
          hd with rfl | hd
      · exact nice_tup (nice_strs (nok_in ok hpm).1)
      obtain rfl := List.mem_singleton.mp hd
      exact nice_tup (nice_strs (nok_in ok hpm).2)
    refine neD_same D1 D2 NI (by decide) ⟨false, rfl, ifF (by decide) ?_⟩
    exact ⟨_, _, _, _, _, _, rfl, s3.trans (se.trans S8)⟩
  rintro σ H1 ⟨v2, v3, v4, v5, v6, v7, rfl, s1⟩
  -- the odd ones
  refine ⟨_, rfl, B, rfl, ⟨vp, SqL.of (s1 _ _ hB)⟩, fun D hD => ?_⟩
  refine lc_it walk_list (fun i H' => Same H1 H' ∧ H' D = some (.lst (selN ["choose", "split"] (parts.take i)))) ⟨same_new hD, upd_same⟩ (fun i H' _ h => SqL.of (h.1 _ _ (s1 _ _ hB))) ?_ ?_
  · rintro i x H2 H3 hi ⟨s2, h2⟩ ⟨rfl, hx⟩
    obtain ⟨p, hp', tt, pn, pi, po, rfl, ht, _⟩ := ap.get hx
    have ht3 := s2 _ _ (s1 _ _ ht)
    refine ⟨rfl, _, rfl, tt, _, 0, _, rfl, rfl, SqT.of ht3, at0, (by show 2 ≤ sizeLine; decide), fun e he => ?_⟩
    have se := same_new (o := .lst [V.str "choose", V.str "split"]) he
    refine ⟨e, _, rfl, .inl (SqL.of upd_same), rfl, rfl, _, rfl, ?_⟩
    rw [if_neg
        Bool.false_ne_true]
    by_cases hc : inV (.str p.kd.word) ((["choose", "split"] : List Str).map V.str) = true
    · refine ifT hc ?_
      refine ⟨_, rfl, tt, _, 1, _, rfl, rfl, SqT.of (se _ _ ht3), at1, _, se _ _ h2, small1000 (by have := selN_take (ws := ["choose", "split"]) (ps := parts) i; omega), fun b o z => by rw [upd_ne (ne_of_none z hD)]; exact se _ _ (s2 _ _ z), ?_⟩
      rw [upd_same, take_more hp', selN_snoc, if_pos hc]
    · refine ifF hc ?_
      refine ⟨s2.trans se, ?_⟩
      rw [se _ _ h2, take_more hp', selN_snoc, if_neg hc]
  rintro H2 ⟨s2, h2⟩
  rw [hvp, List.take_length] at h2
  have S2 := s1.trans s2
  -- gives
  refine ⟨_, rfl, n, dx, _, rfl, S2 _ _ hn, nf _ (by decide +kernel) (by decide +kernel) (by decide +kernel) (by decide +kernel) (by decide +kernel), n, lanes, parts, rfl, N.same S2, by omega, fun ga H3 hga s3 h3 => ?_⟩
  have S3 := S2.trans s3
  refine ⟨_, rfl, B, rfl, ⟨vp, SqL.of (S3 _ _ hB)⟩, fun D4 hD4 => ?_⟩
  refine lc_it walk_list (fun i H' => Same H3 H' ∧ H' D4 = some (.lst (selN ["give"] (parts.take i)))) ⟨same_new hD4, upd_same⟩ (fun i H' _ h => SqL.of (h.1 _ _ (S3 _ _ hB))) ?_ ?_
  · rintro i x H8 H9 hi ⟨s8, h8⟩ ⟨rfl, hx⟩
    obtain ⟨p, hp', tt, pn, pi, po, rfl, ht, _⟩ := ap.get hx
    have ht3 := s8 _ _ (S3 _ _ ht)
    refine ⟨rfl, _, rfl, tt, _, 0, _, rfl, rfl, SqT.of ht3, at0, rfl, _, rfl, ?_⟩
    have ei : inV (.str p.kd.word) ((["give"] : List Str).map V.str) = decide (V.str p.kd.word = V.str "give") := in_one (kd' := .give)
    by_cases hc : decide (V.str p.kd.word = V.str "give") = true
    · refine ifT hc ?_
      refine ⟨_, rfl, tt, _, 1, _, rfl, rfl, SqT.of ht3, at1, _, h8, small1000 (by have := selN_take (ws := ["give"]) (ps := parts) i; omega), fun b o z => by rw [upd_ne (ne_of_none z hD4)]; exact s8 _ _ z, ?_⟩
      rw [upd_same, take_more hp', selN_snoc, if_pos (ei.trans hc)]
    · refine ifF hc ?_
      refine ⟨s8, ?_⟩
      rw [h8, take_more hp', selN_snoc, if_neg (fun z => hc (ei.symm.trans z))]
  rintro H4 ⟨s4, h4⟩
  rw [hvp, List.take_length] at h4
  have S4 := S3.trans s4
  refine neD_same (selN_dp (s4 _ _ h3)) (selN_dp h4) (selP_nice nmk) (by decide) ⟨false, rfl, ifF (by decide) ?_⟩
  -- odd
  refine ⟨_, rfl, n, dx, _, rfl, S4 _ _ hn, nf _ (by decide +kernel) (by decide +kernel) (by decide +kernel) (by decide +kernel) (by decide +kernel), n, lanes, parts, rfl, N.same S4, by omega, nmk, fun H5 s5 => ?_⟩
  have S5 := S4.trans s5
  have h5 : H5 D = some (.lst (selN ["choose", "split"] parts)) := s5 _ _ (s4 _ _ (s3 _ _ h2))
  refine ⟨_, rfl, (by show 1 ≤ sizeLine; decide), fun e he => ?_⟩
  have se := same_new (o := .lst [V.non]) he
  obtain ⟨od, on, odp⟩ := odd_dp (K := K) nmk
  refine ⟨D, e, _, _, rfl, rfl, se _ _ h5, upd_same, (by have := selN_take (ws := ["choose", "split"]) (ps := parts) parts.length; rw [List.take_length] at this; exact line_small (by show _ + 1 ≤ 1000000; omega)), fun e2 he2 => ?_⟩
  have se2 := same_new (o := .lst (selN ["choose", "split"] parts ++ [V.non])) he2
  have S6 := (S5.trans se).trans se2
  refine ⟨e2, _, 0, _, rfl, rfl, SqL.of upd_same, odd_at, ?_⟩
  refine neD_same (odp _) (odp _) on (by decide) ⟨false, rfl, ifF (by decide) ?_⟩
  -- takes
  refine ⟨_, rfl, n, dx, _, rfl, S6 _ _ hn, nf _ (by decide +kernel) (by decide +kernel) (by decide +kernel) (by decide +kernel) (by decide +kernel), n, lanes, parts, rfl, N.same S6, by omega, fun ta H6 hta s6 h6 => ?_⟩
  have S7 := S6.trans s6
  refine ⟨_, rfl, B, rfl, ⟨vp, SqL.of (S7 _ _ hB)⟩, fun D7 hD7 => ?_⟩
  refine lc_it walk_list (fun i H' => Same H6 H' ∧ H' D7 = some (.lst (selN ["take"] (parts.take i)))) ⟨same_new hD7, upd_same⟩ (fun i H' _ h => SqL.of (h.1 _ _ (S7 _ _ hB))) ?_ ?_
  · rintro i x H8 H9 hi ⟨s8, h8⟩ ⟨rfl, hx⟩
    obtain ⟨p, hp', tt, pn, pi, po, rfl, ht, _⟩ := ap.get hx
    have ht3 := s8 _ _ (S7 _ _ ht)
    refine ⟨rfl, _, rfl, tt, _, 0, _, rfl, rfl, SqT.of ht3, at0, rfl, _, rfl, ?_⟩
    have ei : inV (.str p.kd.word) ((["take"] : List Str).map V.str) = decide (V.str p.kd.word = V.str "take") := in_one (kd' := .take)
    by_cases hc : decide (V.str p.kd.word = V.str "take") = true
    · refine ifT hc ?_
      refine ⟨_, rfl, tt, _, 1, _, rfl, rfl, SqT.of ht3, at1, _, h8, small1000 (by have := selN_take (ws := ["take"]) (ps := parts) i; omega), fun b o z => by rw [upd_ne (ne_of_none z hD7)]; exact s8 _ _ z, ?_⟩
      rw [upd_same, take_more hp', selN_snoc, if_pos (ei.trans hc)]
    · refine ifF hc ?_
      refine ⟨s8, ?_⟩
      rw [h8, take_more hp', selN_snoc, if_neg (fun z => hc (ei.symm.trans z))]
  rintro H7 ⟨s7, h7⟩
  rw [hvp, List.take_length] at h7
  exact eqD_same (selN_dp (s7 _ _ h6)) (selN_dp h7) (selP_nice nmk) (by decide) (q _ (S7.trans s7))
end
end K21
/-! the law: all is as handed in -/
namespace K21
open PySem PySem.Spec PyProof.Rows L2 TL
abbrev sGood : Stmt := top 61
theorem map_snoc_str {α : Type} {f : α → Str} {l : List α} {i : Nat} {x : α} (h : l[i]? = some x) : ((l.take (i + 1)).map f).map V.str = ((l.take i).map f).map V.str ++ [V.str (f x)] := by
  rw [take_more h, List.map_append, List.map_append]; rfl
section
variable {P : Program} {w : World} {K : PySem.W.Frag} {mg : Str → Option Value} {base : Heap} {kA : Kd → Addr} {CN CS LE : Addr}
theorem scGood : FnScope ["_law_net_here", "_law_lanes", "_law_parts", "_law_found", "_law_told_here", "_law_some", "_law_lane_here", "_law_one"] ["_law_net_here", "_law_lanes", "_law_parts"] (defScope sGood) := ⟨rfl, rfl, rfl, by decide +kernel, rfl, by decide +kernel, by decide +kernel⟩
theorem ok_good (G : GF K mg "_law_good" sGood) (T : NCls K mg CN) (ML : Cal P w K mg base CX0 5 "_law_lanes_good" ["_law_net_here", "_law_lanes", "_law_parts"] (spGood kA CN)) (MP : Cal P w K mg base CX0 4 "_law_parts_good" ["_law_net_here", "_law_parts"] (spPGood kA CN))
    (MLN : MCal P w K mg base CX0 CN 1 "lane_names" ["self"] (spLaneNames kA CN)) (MPN : MCal P w K mg base CX0 CN 1 "part_names" ["self"] (spPartNames kA CN))
    (MG : MCal P w K mg base CX0 CN 3 "gives" ["self"] (spSel kA CN ["give"])) (MT : MCal P w K mg base CX0 CN 3 "takes" ["self"] (spSel kA CN ["take"])) (MTD : MCal P w K mg base CX0 CN 2 "told" ["self"] (spTold kA CN))
    (MLT : Cal P w K mg base CX0 1 "_law_told" ["_law_lanes", "_law_parts"] spLTold) (htuple : mg "tuple" = none) (hisi : mg "isinstance" = none) :
    Cal P w K mg base CX0 6 "_law_good" ["_law_net_here", "_law_lanes", "_law_parts"] (spGood kA CN) := by
  refine G.cal scGood (fun _ _ _ _ _ _ us hl => match us, hl with | [_, _, _], _ => rfl) (fun vs H Q E h => by obtain ⟨_, _, _, _, _, _, _, rfl, _⟩ := h; rfl) (fun f cdv A0 outer s H vs Q E hr h => ?_)
  obtain ⟨n, A, B, lanes, parts, one, other, rfl, N, LA, PA_, ok, q⟩ := h
  refine ⟨_, (pss_cons (ps_if (PW.pt (pw_or (pt_not (pt_val (pe_callG ML (hr.mono (by decide)) (by rfl) pass0 (pa_cons (pv 0) (pa_cons (pv 1) (pa_cons (pv 2) pa_nil)))))) (pw_or1 (pt_not (pt_val (pe_callG MP (hr.mono (by decide)) (by rfl) pass0 (pa_cons (pv 0) (pa_cons (pv 2) pa_nil)))))))) (pss_one (ps_ret pe_bl)) pss_nil)
    (pss_cons (ps_set (i := 3) scGood.nd rfl (.inl rfl) (pe_lst (pa_cons (pe_methG0 MLN (pv 0) T.cl (hr.mono (by decide)) pass0) (pa_cons (pe_methG0 MPN (pv 0) T.cl (hr.mono (by decide)) pass0) (pa_cons (pe_methG0 MG (pv 0) T.cl (hr.mono (by decide)) pass0) (pa_cons (pe_methG0 MT (pv 0) T.cl (hr.mono (by decide)) pass0) pa_nil))))))
    (pss_cons (ps_if (PW.pt (pw_or (pt_cmpR (op_neD hr.units) (pe_ix ix_list (pv 3) pe_int (fun _ _ => rfl)) (pe_lc (own := [("_law_lane_here", 6)]) (g := (gName 6)) (tt := tYes) (te := tOp (rIxT K) (tVar 6) (tC (V.int 0))) rfl scGood.nd (pi_list (pv 1)) (blkOk_by (own := [("_law_lane_here", 6)]) (N := ["_law_net_here", "_law_lanes", "_law_parts", "_law_found", "_law_told_here", "_law_some", "_law_lane_here", "_law_one"]) (sc := defScope sGood) (by decide +kernel)) (fun _ _ _ _ _ => (pg_name (i := 6) scGood.nd rfl (.inl rfl))) (fun _ _ _ _ _ => pts_nil) (fun _ _ _ _ _ => (pe_ix ix_tup (pv 6) pe_int (fun _ _ => rfl)))) (nomark _)) (pw_or1 (pt_cmpR (op_neD hr.units) (pe_ix ix_list (pv 3) pe_int (fun _ _ => rfl)) (pe_lc (own := [("_law_one", 7)]) (g := (gName 7)) (tt := tYes) (te := tOp (rIxT K) (tVar 7) (tC (V.int 1))) rfl scGood.nd (pi_list (pv 2)) (blkOk_by (own := [("_law_one", 7)]) (N := ["_law_net_here", "_law_lanes", "_law_parts", "_law_found", "_law_told_here", "_law_some", "_law_lane_here", "_law_one"]) (sc := defScope sGood) (by decide +kernel)) (fun _ _ _ _ _ => (pg_name (i := 7) scGood.nd rfl (.inl rfl))) (fun _ _ _ _ _ => pts_nil) (fun _ _ _ _ _ => (pe_ix ix_tup (pv 7) pe_int (fun _ _ => rfl)))) (nomark _))))) (pss_one (ps_ret pe_bl)) pss_nil)
    (pss_cons (ps_set (i := 4) scGood.nd rfl (.inl rfl) (pe_methG0 MTD (pv 0) T.cl (hr.mono (by decide)) pass0))
    (pss_cons (ps_if (PW.pt (pw_or (pt_not (pt_val (pe_callB call_isi (by rfl) hisi (by decide +kernel) (pa_cons (pv 4) (pa_cons (pe_bltn (v := .ty "tuple") (by rfl) htuple (by decide +kernel) rfl) pa_nil))))) (pw_or1 (pt_cmpR (op_neD hr.units) (pv 4) (pe_callG MLT (hr.mono (by decide)) (by rfl) pass0 (pa_cons (pv 1) (pa_cons (pv 2) pa_nil))) (nomark _))))) (pss_one (ps_ret pe_bl)) pss_nil)
    (pss_cons (ps_for PassesOwn.never rfl (pi_list (pe_op op_cat (pv 3) (pe_lst (pa_cons (pe_ix ix_tup (pv 4) pe_int (fun _ _ => rfl)) (pa_cons (pe_ix ix_tup (pv 4) pe_int (fun _ _ => rfl)) pa_nil))))) (pg_name (i := 5) scGood.nd rfl (.inl rfl)) (pss_one (ps_expr (pe_bm0 PySem.F.plainAttrs_list PySem.F.slot_list_clear PySem.F.type_list_clear mt_clear (pv 5)))))
    (pss_one (ps_ret pe_bl)))))))), ?_⟩
  obtain ⟨r, g1, g2, t, m, kf, km, Bn, af, am⟩ := id N.ex
  obtain ⟨dx, hn⟩ := Bn.ob
  have nf : ∀ x : Str, x ≠ "rooms" → x ≠ "firsts" → x ≠ "givers" → x ≠ "takers" → x ≠ "members" → (nflds r g1 g2 t m).lookup x = none := fun x h1 h2 h3 h4 h5 => nf_no h1 h2 h3 h4 h5
  have nmk : ∀ p ∈ parts, NameOk p.name := fun p hp => (ok.pok p hp).1
  have l1 := ok.l1
  have p1 := ok.p1
  refine ⟨_, rfl, _, rfl, _, rfl, n, A, B, lanes, parts, one, other, rfl, N, LA, PA_, ok, fun H1 s1 => ⟨true, rfl, ifF (by decide) ?_⟩⟩
  refine ⟨_, rfl, _, rfl, n, B, lanes, parts, one, other, rfl, N.same s1, PA_.same s1, ok, fun H2 s2 => ⟨true, rfl, ifF (by decide) ?_⟩⟩
  have S2 := s1.trans s2
  -- four lists of names
  refine ⟨_, rfl, n, dx, _, rfl, S2 _ _ hn, nf _ (by decide +kernel) (by decide +kernel) (by decide +kernel) (by decide +kernel) (by decide +kernel), n, lanes, parts, rfl, N.same S2, fun a0 ha0 => ?_⟩
  have k0 := same_new (o := .lst ((nms lanes).map V.str)) ha0
  have u0 : (upd H2 a0 (.lst ((nms lanes).map V.str))) a0 = some (.lst ((nms lanes).map V.str)) := upd_same
  have S3 := S2.trans k0
  have z0 : H a0 = none := S2.free ha0
  generalize upd H2 a0 (.lst ((nms lanes).map V.str)) = H3 at k0 u0 S3 ⊢
  refine ⟨_, rfl, n, dx, _, rfl, S3 _ _ hn, nf _ (by decide +kernel) (by decide +kernel) (by decide +kernel) (by decide +kernel) (by decide +kernel), n, lanes, parts, rfl, N.same S3, fun a1 ha1 => ?_⟩
  have k1 := same_new (o := .lst ((parts.map fun p => p.name).map V.str)) ha1
  have u1 : (upd H3 a1 (.lst ((parts.map fun p => p.name).map V.str))) a1 = some (.lst ((parts.map fun p => p.name).map V.str)) := upd_same
  have S4 := S3.trans k1
  have z1 : H a1 = none := S3.free ha1
  generalize upd H3 a1 (.lst ((parts.map fun p => p.name).map V.str)) = H4 at k1 u1 S4 ⊢
  refine ⟨_, rfl, n, dx, _, rfl, S4 _ _ hn, nf _ (by decide +kernel) (by decide +kernel) (by decide +kernel) (by decide +kernel) (by decide +kernel), n, lanes, parts, rfl, N.same S4, by omega, fun a2 H5 ha2 k2 u2 => ?_⟩
  have S5 := S4.trans k2
  have z2 : H a2 = none := S4.free ha2
  refine ⟨_, rfl, n, dx, _, rfl, S5 _ _ hn, nf _ (by decide +kernel) (by decide +kernel) (by decide +kernel) (by decide +kernel) (by decide +kernel), n, lanes, parts, rfl, N.same S5, by omega, fun a3 H6 ha3 k3 u3 => ?_⟩
  have S6 := S5.trans k3
  have z3 : H a3 = none := S5.free ha3
  refine ⟨(by show 4 ≤ sizeLine; decide), fun F hF => ?_⟩
  have kF := same_new (o := .lst [V.ref a0, V.ref a1, V.ref a2, V.ref a3]) hF
  have uF : (upd H6 F (.lst [V.ref a0, V.ref a1, V.ref a2, V.ref a3])) F = some (.lst [V.ref a0, V.ref a1, V.ref a2, V.ref a3]) := upd_same
  have S7 := S6.trans kF
  have v0 := kF _ _ (k3 _ _ (k2 _ _ (k1 _ _ u0)))
  have v1 := kF _ _ (k3 _ _ (k2 _ _ u1))
  have v2 := kF _ _ (k3 _ _ u2)
  have v3 := kF _ _ u3
  have zF : H F = none := S6.free hF
  generalize upd H6 F (.lst [V.ref a0, V.ref a1, V.ref a2, V.ref a3]) = H7 at kF uF S7 v0 v1 v2 v3 ⊢
  -- the lanes' names
  obtain ⟨vl, hA, al⟩ := id LA
  obtain ⟨vp, hB, ap⟩ := id PA_
  have hvl : vl.length = lanes.length := al.1
  have hvp : vp.length = parts.length := ap.1
  refine ⟨_, rfl, F, _, 0, _, rfl, rfl, SqL.of uF, atI_nat (j := 0) rfl, ?_⟩
  refine ⟨_, rfl, A, rfl, ⟨vl, SqL.of (S7 _ _ hA)⟩, fun D hD => ?_⟩
  refine lc_it walk_list (fun i H' => Same H7 H' ∧ H' D = some (.lst (((lanes.take i).map fun l => l.name).map V.str))) ⟨same_new hD, upd_same⟩ (fun i H' _ h => SqL.of (h.1 _ _ (S7 _ _ hA))) ?_ ?_
  · rintro i x H8 H9 hi ⟨s8, h8⟩ ⟨rfl, hx⟩
    obtain ⟨l, hl', tt, f, rfl, ht, hf⟩ := al.get hx
    refine ⟨rfl, _, rfl, tt, _, 0, _, rfl, rfl, SqT.of (s8 _ _ (S7 _ _ ht)), atI_nat (j := 0) rfl, _, h8, small1000 (by rw [List.length_map, List.length_map, List.length_take]; omega), fun b o z => by rw [upd_ne (ne_of_none z hD)]; exact s8 _ _ z, ?_⟩
    rw [upd_same, map_snoc_str hl']
  rintro H8 ⟨s8, h8⟩
  rw [hvl, List.take_length] at h8
  have S8 := S7.trans s8
  have n1 : Nice 1 (.list ((nms lanes).map PyData.str)) := nice_lst (n := 0) (nice_strs fun x hx => by
    obtain ⟨l, hl, rfl⟩ := List.mem_map.mp hx
    exact strOk_of (ok.lok l hl).1)
  have n2 : Nice 1 (.list ((parts.map fun p => p.name).map PyData.str)) := nice_lst (n := 0) (nice_strs fun x hx => by
    obtain ⟨p, hp, rfl⟩ := List.mem_map.mp hx
    exact strOk_of (nmk p hp))
  refine neD_same (d := .list ((nms lanes).map PyData.str)) (.lst (SqL.of (s8 _ _ v0)) dp_strs) (.lst (SqL.of h8) dp_strs) n1 (by decide) ⟨false, rfl, ifF (by decide) ?_⟩
  -- the parts' names
  refine ⟨_, rfl, F, _, 1, _, rfl, rfl, SqL.of (s8 _ _ uF), atI_nat (j := 1) rfl, ?_⟩
  refine ⟨_, rfl, B, rfl, ⟨vp, SqL.of (S8 _ _ hB)⟩, fun D2 hD2 => ?_⟩
  refine lc_it walk_list (fun i H' => Same H8 H' ∧ H' D2 = some (.lst (((parts.take i).map fun p => p.name).map V.str))) ⟨same_new hD2, upd_same⟩ (fun i H' _ h => SqL.of (h.1 _ _ (S8 _ _ hB))) ?_ ?_
  · rintro i x H9 H10 hi ⟨s9, h9⟩ ⟨rfl, hx⟩
    obtain ⟨p, hp', tt, pn, pi, po, rfl, ht, _⟩ := ap.get hx
    refine ⟨rfl, _, rfl, tt, _, 1, _, rfl, rfl, SqT.of (s9 _ _ (S8 _ _ ht)), at1, _, h9, small1000 (by rw [List.length_map, List.length_map, List.length_take]; omega), fun b o z => by rw [upd_ne (ne_of_none z hD2)]; exact s9 _ _ z, ?_⟩
    rw [upd_same, map_snoc_str hp']
  rintro H9 ⟨s9, h9⟩
  rw [hvp, List.take_length] at h9
  have S9 := S8.trans s9
  refine neD_same (d := .list ((parts.map fun p => p.name).map PyData.str)) (.lst (SqL.of (s9 _ _ (s8 _ _ v1))) dp_strs) (.lst (SqL.of h9) dp_strs) n2 (by decide) ⟨false, rfl, ifF (by decide) ?_⟩
  -- what is told
  refine ⟨_, rfl, n, dx, _, rfl, S9 _ _ hn, nf _ (by decide +kernel) (by decide +kernel) (by decide +kernel) (by decide +kernel) (by decide +kernel), n, lanes, parts, rfl, N.same S9, ok.lnd, by omega, by omega, fun H10 td la pa hla hpa _ s10 TD => ?_⟩
  have S10 := S9.trans s10
  obtain ⟨td1, ⟨vla, td2, td3⟩, ⟨vpa, td4, td5⟩⟩ := id TD
  refine ⟨_, rfl, .ref td, .ty "tuple", _, _, true, rfl, .ty _, .base (.tup td1), kit_ty (by decide +kernel), true, rfl, ifF (by decide) ?_⟩
  refine ⟨_, rfl, _, rfl, _, rfl, A, B, lanes, parts, rfl, LA.same S10, PA_.same S10, by omega, by omega, fun H11 tl la' pa' s11 TL => ?_⟩
  have S11 := S10.trans s11
  have TD' : ToldAt H11 td la pa lanes parts := ⟨s11 _ _ td1, ⟨vla, s11 _ _ td2, td3.imp fun v l z => z.same s11⟩, ⟨vpa, s11 _ _ td4, td5.imp fun v l z => z.same s11⟩⟩
  refine neD_same TD'.dp TL.dp (nice_told ok) (by decide) ⟨false, rfl, ifF (by decide) ?_⟩
  -- all is emptied
  have K9 := (s9.trans s10).trans s11
  refine ⟨_, rfl, _, rfl, td, _, 0, _, rfl, rfl, SqT.of (s11 _ _ td1), atI_nat (j := 0) rfl, _, rfl, td, _, 1, _, rfl, rfl, SqT.of (s11 _ _ td1), atI_nat (j := 1) rfl, (by show 2 ≤ sizeLine; decide), fun e he => ?_⟩
  have ke := same_new (o := .lst [V.ref la, V.ref pa]) he
  refine ⟨F, e, _, _, rfl, rfl, ke _ _ (K9 _ _ (s8 _ _ uF)), upd_same, (by show 6 ≤ sizeLine; decide), fun W hW => ?_⟩
  have kW := same_new (o := .lst ([V.ref a0, V.ref a1, V.ref a2, V.ref a3] ++ [V.ref la, V.ref pa])) hW
  have kk := ke.trans kW
  have S12 := S11.trans kk
  have ze : H W = none := (S11.trans ke).free hW
  have cells : ∀ y ∈ [a0, a1, a2, a3, la, pa], H y = none ∧ y ≠ W ∧ ∃ xs, (upd (upd H11 e (.lst [V.ref la, V.ref pa])) W (.lst ([V.ref a0, V.ref a1, V.ref a2, V.ref a3] ++ [V.ref la, V.ref pa]))) y = some (.lst xs) := by
    have key : ∀ {y : Addr} {xs : List V}, H y = none → H11 y = some (.lst xs) → H y = none ∧ y ≠ W ∧ ∃ xs, (upd (upd H11 e (.lst [V.ref la, V.ref pa])) W (.lst ([V.ref a0, V.ref a1, V.ref a2, V.ref a3] ++ [V.ref la, V.ref pa]))) y = some (.lst xs) := fun h0 h1 =>
      ⟨h0, ne_of_none (ke _ _ h1) hW, _, kk _ _ h1⟩
    intro y hy
    rcases List.mem_cons.mp
        hy with rfl | hy
    · exact key z0 (K9 _ _ (s8 _ _ v0))
    rcases List.mem_cons.mp
        hy with rfl | hy
    · exact key z1 (K9 _ _ (s8 _ _ v1))
    rcases List.mem_cons.mp
        hy with rfl | hy
    · exact key z2 (K9 _ _ (s8 _ _ v2))
    rcases List.mem_cons.mp
        hy with rfl | hy
    · exact key z3 (K9 _ _ (s8 _ _ v3))
    rcases List.mem_cons.mp
        hy with rfl | hy
    · exact key (S9.free hla) (s11 _ _ td2)
    obtain rfl := List.mem_singleton.mp hy
    exact key (S9.free hpa) (s11 _ _ td4)
  have hW0 : (upd (upd H11 e (.lst [V.ref la, V.ref pa])) W (.lst ([V.ref a0, V.ref a1, V.ref a2, V.ref a3] ++ [V.ref la, V.ref pa]))) W = some (.lst ([a0, a1, a2, a3, la, pa].map V.ref)) := upd_same
  generalize upd (upd H11 e (.lst [V.ref la, V.ref pa])) W (.lst ([V.ref a0, V.ref a1, V.ref a2, V.ref a3] ++ [V.ref la, V.ref pa])) = H12 at cells hW0 S12 ⊢
  generalize [a0, a1, a2, a3, la, pa] = ys at cells hW0
  refine ⟨_, rfl, ⟨_, SqL.of hW0⟩, ?_⟩
  refine for_it walk_list (fun i σ H' => ∃ v5, σ = [some (.ref n), some (.ref A), some (.ref B), some (.ref F), some (.ref td), v5, none, none] ∧ Same H H' ∧ H' W = some (.lst (ys.map V.ref)) ∧ ∀ y ∈ ys, ∃ xs, H' y = some (.lst xs)) ⟨_, rfl, S12, hW0, fun y hy => (cells y hy).2.2⟩ (by rintro i σ H' _ ⟨_, _, _, h, _⟩; exact SqL.of h) ?_ ?_
  · rintro i x σ H13 H14 hi ⟨v5, rfl, s13, h13, c13⟩ ⟨rfl, hx⟩
    rw [List.getElem?_map] at hx
    obtain ⟨y, hy, rfl⟩ : ∃ y, ys[i]? = some y ∧ V.ref y = x := by
      cases e : ys[i]? with
      | none => rw [e] at hx; cases hx
      | some z => rw [e] at hx; exact ⟨z, rfl, Option.some.inj hx⟩
    have hym := List.mem_of_getElem? hy
    obtain ⟨y0, yW, _⟩ := cells y hym
    obtain ⟨xs, hxs⟩ := c13 y hym
    refine ⟨_, rfl, .inl ⟨rfl, _, SqL.of hxs⟩, y, _, rfl, rfl, hxs, _, rfl, fun b o z => by rw [upd_ne (ne_of_none z y0)]; exact s13 _ _ z, by rw [upd_ne yW.symm]; exact h13, fun u hu => ?_⟩
    by_cases eu : u = y
    · exact ⟨[], by rw [eu, upd_same]⟩
    · obtain ⟨xs', h'⟩ := c13 u hu
      exact ⟨xs', by rw [upd_ne eu]; exact h'⟩
  · rintro σ H13 ⟨v5, rfl, s13, _, _⟩
    exact q H13 s13
end
end K21
/-! the law: rows handed over, kept, emptied -/
namespace K21
open PySem PySem.Spec PyProof.Rows L2 TL
abbrev sLaw : Stmt := top 62
theorem ne_in {S : List Addr} {x D : Addr} (h : x ∉ S) (hD : D ∈ S) : x ≠ D := fun e => h (by rw [e]; exact hD)
/-- a row that is handed over: a new list of name, room, first values -/
def HdL (H0 : Hp) (S : List Addr) (H : Hp) (v : V) (l : Ln) : Prop := ∃ t f : Addr, v = .ref t ∧ H t = some (.lst [.str l.name, .int l.room, .ref f]) ∧ H f = some (.lst (l.first.map V.int)) ∧ H0 f = none ∧ t ∉ S ∧ f ∉ S
def HdP (H0 : Hp) (S : List Addr) (H : Hp) (v : V) (p : Pt) : Prop := ∃ t n i o : Addr, v = .ref t ∧ H t = some (.lst [.str p.kd.word, .str p.name, .ref n, .ref i, .ref o]) ∧ H n = some (.lst (p.nums.map V.int)) ∧ H i = some (.lst (p.ins.map V.str)) ∧ H o = some (.lst (p.outs.map V.str)) ∧
  H0 n = none ∧ H0 i = none ∧ H0 o = none ∧ t ∉ S ∧ n ∉ S ∧ i ∉ S ∧ o ∉ S
theorem HdL.same {H0 H H' : Hp} {S : List Addr} {v : V} {l : Ln} (h : HdL H0 S H v l) (s : Same H H') : HdL H0 S H' v l := by
  obtain ⟨t, f, e, h1, h2, h3⟩ := h
  exact ⟨t, f, e, s _ _ h1, s _ _ h2, h3⟩
theorem HdP.same {H0 H H' : Hp} {S : List Addr} {v : V} {p : Pt} (h : HdP H0 S H v p) (s : Same H H') : HdP H0 S H' v p := by
  obtain ⟨t, n, i, o, e, h1, h2, h3, h4, h5⟩ := h
  exact ⟨t, n, i, o, e, s _ _ h1, s _ _ h2, s _ _ h3, s _ _ h4, h5⟩
theorem HdL.upd {H0 H : Hp} {S : List Addr} {v : V} {l : Ln} {D : Addr} {u : HO} (h : HdL H0 S H v l) (hD : D ∈ S) : HdL H0 S (L2.upd H D u) v l := by
  obtain ⟨t, f, e, h1, h2, h3, h4, h5⟩ := h
  exact ⟨t, f, e, by rw [upd_ne (ne_in h4 hD)]; exact h1, by rw [upd_ne (ne_in h5 hD)]; exact h2, h3, h4, h5⟩
theorem HdP.upd {H0 H : Hp} {S : List Addr} {v : V} {p : Pt} {D : Addr} {u : HO} (h : HdP H0 S H v p) (hD : D ∈ S) : HdP H0 S (L2.upd H D u) v p := by
  obtain ⟨t, n, i, o, e, h1, h2, h3, h4, z1, z2, z3, m1, m2, m3, m4⟩ := h
  exact ⟨t, n, i, o, e, by rw [upd_ne (ne_in m1 hD)]; exact h1, by rw [upd_ne (ne_in m2 hD)]; exact h2, by rw [upd_ne (ne_in m3 hD)]; exact h3, by rw [upd_ne (ne_in m4 hD)]; exact h4, z1, z2, z3, m1, m2, m3, m4⟩
theorem HdL.more {H0 H : Hp} {S : List Addr} {v : V} {l : Ln} {D : Addr} (h : HdL H0 S H v l) (hD : H D = none) : HdL H0 (D :: S) H v l := by
  obtain ⟨t, f, e, h1, h2, h3, h4, h5⟩ := h
  refine ⟨t, f, e, h1, h2, h3, ?_, ?_⟩
  · rw [List.mem_cons]; exact fun z => z.elim (ne_of_none h1 hD) h4
  · rw [List.mem_cons]; exact fun z => z.elim (ne_of_none h2 hD) h5
/-- a new list whose items may change, none of S -/
def Flt (H0 : Hp) (S : List Addr) (N : Nat) (H : Hp) (f : Addr) : Prop := ∃ xs, H f = some (.lst xs) ∧ xs.all flatV = true ∧ xs.length ≤ N ∧ H0 f = none ∧ f ∉ S
def WkL (H0 : Hp) (S : List Addr) (N : Nat) (H : Hp) (v : V) : Prop := ∃ (t : Addr) (a b : V) (f : Addr), v = .ref t ∧ H t = some (.lst [a, b, .ref f]) ∧ Flt H0 S N H f
def WkP (H0 : Hp) (S : List Addr) (N : Nat) (H : Hp) (v : V) : Prop := ∃ (t : Addr) (a b : V) (n i o : Addr), v = .ref t ∧ H t = some (.lst [a, b, .ref n, .ref i, .ref o]) ∧ Flt H0 S N H n ∧ Flt H0 S N H i ∧ Flt H0 S N H o
theorem Flt.mono {H0 H : Hp} {S : List Addr} {N M : Nat} {f : Addr} (h : Flt H0 S N H f) (hm : N ≤ M) : Flt H0 S M H f := by
  obtain ⟨xs, h1, h2, h3, h4⟩ := h
  exact ⟨xs, h1, h2, Nat.le_trans h3 hm, h4⟩
theorem Flt.upd {H0 H : Hp} {S : List Addr} {N M : Nat} {f g : Addr} {ys : List V} (hf : Flt H0 S M H f) (hy : ys.all flatV = true) (hl : ys.length ≤ N) (h : Flt H0 S N H g) : Flt H0 S N (L2.upd H f (.lst ys)) g := by
  by_cases e : g = f
  · obtain ⟨xs, h1, h2, h3, h4, h5⟩ := hf
    exact ⟨ys, by rw [e, upd_same], hy, hl, by rw [e]; exact h4, by rw [e]; exact h5⟩
  · obtain ⟨xs, h1, h2⟩ := h
    exact ⟨xs, by rw [upd_ne e]; exact h1, h2⟩
theorem WkL.upd {H0 H : Hp} {S : List Addr} {N M : Nat} {f : Addr} {v : V} {ys : List V} (hf : Flt H0 S M H f) (hy : ys.all flatV = true) (hl : ys.length ≤ N) (h : WkL H0 S N H v) : WkL H0 S N (L2.upd H f (.lst ys)) v := by
  obtain ⟨t, a, b, g, e, h1, h2⟩ := h
  refine ⟨t, a, b, g, e, ?_, Flt.upd hf hy hl h2⟩
  obtain ⟨xs, k1, k2, _⟩ := hf
  rw [upd_ne]; exact h1
  intro z
  rw [z, k1] at h1
  injection h1 with h1
  injection h1 with h1
  rw [h1] at k2
  simp [flatV] at k2
theorem WkP.upd {H0 H : Hp} {S : List Addr} {N M : Nat} {f : Addr} {v : V} {ys : List V} (hf : Flt H0 S M H f) (hy : ys.all flatV = true) (hl : ys.length ≤ N) (h : WkP H0 S N H v) : WkP H0 S N (L2.upd H f (.lst ys)) v := by
  obtain ⟨t, a, b, n, i, o, e, h1, h2, h3, h4⟩ := h
  refine ⟨t, a, b, n, i, o, e, ?_, Flt.upd hf hy hl h2, Flt.upd hf hy hl h3, Flt.upd hf hy hl h4⟩
  obtain ⟨xs, k1, k2, _⟩ := hf
  rw [upd_ne]; exact h1
  intro z
  rw [z, k1] at h1
  injection h1 with h1
  injection h1 with h1
  rw [h1] at k2
  simp [flatV] at k2
theorem WkP.mono {H0 H : Hp} {S : List Addr} {N M : Nat} {v : V} (h : WkP H0 S N H v) (hm : N ≤ M) : WkP H0 S M H v := by
  obtain ⟨t, a, b, n, i, o, e, h1, h2, h3, h4⟩ := h
  exact ⟨t, a, b, n, i, o, e, h1, h2.mono hm, h3.mono hm, h4.mono hm⟩
theorem flat_ints (xs : List Int) : (xs.map V.int).all flatV = true := by
  rw [List.all_map, List.all_eq_true]
  intro x _; rfl
theorem HdL.wk {H0 H : Hp} {S : List Addr} {v : V} {l : Ln} (h : HdL H0 S H v l) (ok : LnOk l) : WkL H0 S 200 H v := by
  obtain ⟨t, f, e, h1, h2, h3, h4, h5⟩ := h
  have f1 := ok.fit
  have f2 := ok.hi
  exact ⟨t, _, _, f, e, h1, _, h2, flat_ints _, by rw [List.length_map]; omega, h3, h5⟩
theorem HdP.wk {H0 H : Hp} {S : List Addr} {v : V} {p : Pt} (h : HdP H0 S H v p) (hl : p.nums.length ≤ 100 ∧ p.ins.length ≤ 100 ∧ p.outs.length ≤ 100) : WkP H0 S 200 H v := by
  obtain ⟨t, n, i, o, e, h1, h2, h3, h4, z1, z2, z3, m1, m2, m3, m4⟩ := h
  exact ⟨t, _, _, n, i, o, e, h1, ⟨_, h2, flat_ints _, by rw [List.length_map]; omega, z1, m2⟩, ⟨_, h3, flat_strs _, by rw [List.length_map]; omega, z2, m3⟩, ⟨_, h4, flat_strs _, by rw [List.length_map]; omega, z3, m4⟩⟩
/-- a row for the net: a tuple; its lists are of H2 -/
def LnX (H2 H : Hp) (v : V) (l : Ln) : Prop := ∃ t f : Addr, v = .ref t ∧ H t = some (.tup [.str l.name, .int l.room, .ref f]) ∧ (H2 f = some (.lst (l.first.map V.int)) ∨ H f = some (.tup (l.first.map V.int)))
def PtX (H2 H : Hp) (v : V) (p : Pt) : Prop := ∃ t n i o : Addr, v = .ref t ∧ H t = some (.tup [.str p.kd.word, .str p.name, .ref n, .ref i, .ref o]) ∧ (H2 n = some (.lst (p.nums.map V.int)) ∨ H n = some (.tup (p.nums.map V.int))) ∧ (H2 i = some (.lst (p.ins.map V.str)) ∨ H i = some (.tup (p.ins.map V.str))) ∧
  (H2 o = some (.lst (p.outs.map V.str)) ∨ H o = some (.tup (p.outs.map V.str)))
theorem LnX.kt {H2 H H' : Hp} {v : V} {l : Ln} (h : LnX H2 H v l) (s : KeepT H H') : LnX H2 H' v l := by
  obtain ⟨t, f, e, h1, h2⟩ := h
  exact ⟨t, f, e, s _ _ h1, h2.imp id (s _ _)⟩
theorem PtX.kt {H2 H H' : Hp} {v : V} {p : Pt} (h : PtX H2 H v p) (s : KeepT H H') : PtX H2 H' v p := by
  obtain ⟨t, n, i, o, e, h1, h2, h3, h4⟩ := h
  exact ⟨t, n, i, o, e, s _ _ h1, h2.imp id (s _ _), h3.imp id (s _ _), h4.imp id (s _ _)⟩
theorem LnX.inn {H2 H : Hp} {v : V} {l : Ln} (h : LnX H2 H v l) (s : Same H2 H) : LnIn H v l := by
  obtain ⟨t, f, e, h1, h2⟩ := h
  exact ⟨t, f, e, h1, h2.imp (s _ _) id⟩
theorem PtX.inn {H2 H : Hp} {v : V} {p : Pt} (h : PtX H2 H v p) (s : Same H2 H) : PtIn H v p := by
  obtain ⟨t, n, i, o, e, h1, h2, h3, h4⟩ := h
  exact ⟨t, n, i, o, e, h1, h2.imp (s _ _) id, h3.imp (s _ _) id, h4.imp (s _ _) id⟩
theorem LnIn.same {H H' : Hp} {v : V} {l : Ln} (h : LnIn H v l) (s : Same H H') : LnIn H' v l := by
  obtain ⟨t, f, e, h1, h2⟩ := h
  exact ⟨t, f, e, s _ _ h1, h2.same s⟩
theorem PtIn.same {H H' : Hp} {v : V} {p : Pt} (h : PtIn H v p) (s : Same H H') : PtIn H' v p := by
  obtain ⟨t, n, i, o, e, h1, h2, h3, h4⟩ := h
  exact ⟨t, n, i, o, e, s _ _ h1, h2.same s, h3.same s, h4.same s⟩
theorem KeepT.of {H H' : Hp} (s : Same H H') : KeepT H H' := fun b xs e => s b _ e
/-- a net has no lists -/
theorem NetAt.nl {kA : Kd → Addr} {CN : Addr} {H H' : Hp} {n : Addr} {lanes : List Ln} {parts : List Pt} (h : NetAt kA CN H n lanes parts) (s : KeepNL H H') : NetAt kA CN H' n lanes parts := by
  obtain ⟨r, f, g, t, m, kf, km, B, h2, h3⟩ := h.ex
  obtain ⟨dx, e⟩ := B.ob
  refine ⟨r, f, g, t, m, kf, km, ⟨⟨dx, s _ _ (fun k z => by cases z) e⟩, s _ _ (fun k z => by cases z) B.hr, s _ _ (fun k z => by cases z) B.hf, s _ _ (fun k z => by cases z) B.hg, s _ _ (fun k z => by cases z) B.ht, s _ _ (fun k z => by cases z) B.hm, B.nd⟩, h2.imp fun v l z => ?_, h3.imp fun v l z => ?_⟩
  · exact ⟨z.1, z.2.elim fun t e => ⟨t, e.1, s _ _ (fun k z => by cases z) e.2⟩⟩
  · obtain ⟨z1, x, z2, dy, n, i, o, a1, a2, a3, a4⟩ := z
    exact ⟨z1, x, z2, dy, n, i, o, s _ _ (fun k z => by cases z) a1, s _ _ (fun k z => by cases z) a2, s _ _ (fun k z => by cases z) a3, s _ _ (fun k z => by cases z) a4⟩
theorem lens_ok {p : Pt} (ok : PtOk p) : p.nums.length ≤ 100 ∧ p.ins.length ≤ 100 ∧ p.outs.length ≤ 100 := by
  have w := ok.w
  have w1 : p.nums.length = p.kd.wants.1 := congrArg Prod.fst w
  have w2 : p.ins.length = p.kd.wants.2.1 := congrArg (fun q => q.2.1) w
  have w3 : p.outs.length = p.kd.wants.2.2 := congrArg (fun q => q.2.2) w
  rw [w1, w2, w3]
  cases p.kd <;> decide
abbrev rListS : List V → Hp → VK → Prop := fun xs H Q => ∃ p ys, xs = [.ref p] ∧ SeqAt' H p ys ∧ ∀ l, H l = none → Q (.ref l) (L2.upd H l (.lst ys))
theorem call_listS {X : Cx} : CallR X (.type "list") rListS := by
  intro pins s σ H
      xs us Q I r h
  obtain ⟨p, ys, e, h, k⟩ := h
  exact call_list_of pins s σ H xs us Q I r ⟨p, ys, e, h.imp SqL.of SqT.of, k⟩
end K21
/-! the law, whole -/
namespace K21
open PySem PySem.Spec PyProof.Rows L2 TL
def spLaw (K : PySem.W.Frag) : Sp := fun vs H Q _ => ∃ (a : Addr) (ns : List Int), vs = [.ref
    a] ∧ SqL K H a (ns.map V.int) ∧ ns.length ≤ 63 ∧ ∀ H', Q (.bl true) H'
section
variable {P : Program} {w : World} {K : PySem.W.Frag} {mg : Str → Option Value} {base : Heap} {kA : Kd → Addr} {CN : Addr}
theorem AllB.mem {α β : Type} {R : α → β → Prop} {vs : List α} {ls : List β} (h : AllB R vs ls) {v : α} (hv : v ∈ vs) : ∃ l ∈ ls, R v l := by
  obtain ⟨i, hi, e⟩ := List.mem_iff_getElem.mp hv
  obtain ⟨l, hl, r⟩ := h.get (i := i) (v := v) (by rw [List.getElem?_eq_getElem hi, e])
  exact ⟨l, List.mem_of_getElem? hl, r⟩
theorem scLaw : FnScope ["_law_script", "_law_steps", "_law_lanes", "_law_parts", "_law_lane_here", "_law_handed", "_law_one", "_law_known", "_law_some", "_law_others", "_law_net_here", "_law_strange", "_law_way"] ["_law_script"] (defScope sLaw) := ⟨rfl, rfl, rfl, by decide +kernel, rfl, by decide +kernel, by decide +kernel⟩
theorem law_body (MC : Cal P w K mg base CX0 1 "_law_cell" ["_law_script", "_law_k"] (spCell K)) (MNT : Cal P w K mg base CX0 7 "_law_net" ["_law_script", "_law_start", "_law_steps", "_law_odd"] (spNet K))
    (MN : KCal P w K mg base CX0 CN 6 "Net" ["self", "lanes", "parts"] (spNInit kA CN)) (MGD : Cal P w K mg base CX0 6 "_law_good" ["_law_net_here", "_law_lanes", "_law_parts"] (spGood kA CN))
    (MMS : Cal P w K mg base CX0 5 "_law_missing" ["_law_net_here", "_law_way", "_law_name"] (spMissing kA CN)) (MW : Cal P w K mg base CX0 2 "_law_word" ["_law_cell_here", "_law_k"] spWord)
    (hlist : mg "list" = none) (htuple : mg "tuple" = none) (hrange : mg "range" = none) : Body0 P w K mg base ["_law_script", "_law_steps", "_law_lanes", "_law_parts", "_law_lane_here", "_law_handed", "_law_one", "_law_known", "_law_some", "_law_others", "_law_net_here", "_law_strange", "_law_way"] "law" sLaw 7 (spLaw K) := by
  intro f cdv A0 outer s H vs Q E hr h
  obtain ⟨a, ns, rfl, hS, hns, q⟩ := h
  refine ⟨_, (pss_cons (ps_set (i := 1) scLaw.nd rfl (.inl rfl) (pe_op op_add pe_int (pe_op op_mod (pe_callG MC (hr.mono (by decide)) (by rfl) pass0 (pa_cons (pv 0) (pa_cons pe_int pa_nil))) pe_int)))
    (C8.pss_cut (ps_asg (pe_callG MNT (hr.mono (by decide)) (by rfl) pass0 (pa_cons (pv 0) (pa_cons pe_int (pa_cons (pv 1) (pa_cons pe_bl pa_nil))))) (pg_tup (by rfl) (pgs_cons (pg_name (i := 2) scLaw.nd rfl (.inl rfl)) (pgs_cons (pg_name (i := 3) scLaw.nd rfl (.inl rfl)) pgs_nil))))
    (C8.pss_cut (ps_setLc (i := 5) (own := [("_law_lane_here", 4)]) (g := (gName 4)) (tt := tYes) (te := tLst (tCons (tOp (rIx K) (tVar 4) (tC (V.int 0))) (tCons (tOp (rIx K) (tVar 4) (tC (V.int 1))) (tCons (tCB rListS (tCons (tOp (rIx K) (tVar 4) (tC (V.int 2))) tNil)) tNil)))) rfl scLaw.nd rfl rfl (sw_true rfl rfl rfl (by decide +kernel)) (pi_list (pv 2)) (blkOk_by (own := [("_law_lane_here", 4)]) (N := ["_law_script", "_law_steps", "_law_lanes", "_law_parts", "_law_lane_here", "_law_handed", "_law_one", "_law_known", "_law_some", "_law_others", "_law_net_here", "_law_strange", "_law_way"]) (sc := defScope sLaw) (by decide +kernel)) (fun _ _ _ _ _ => (pg_name (i := 4) scLaw.nd rfl (.inl rfl))) (fun _ _ _ _ _ => pts_nil) (fun _ _ _ _ _ => (pe_lst (pa_cons (pe_ix ix_seq (pv 4) pe_int (fun _ _ => rfl)) (pa_cons (pe_ix ix_seq (pv 4) pe_int (fun _ _ => rfl)) (pa_cons (pe_callTy call_listS (by rfl) hlist (by decide +kernel) (pa_cons (pe_ix ix_seq (pv 4) pe_int (fun _ _ => rfl)) pa_nil)) pa_nil))))))
    (C8.pss_cut (ps_setLc (i := 7) (own := [("_law_one", 6)]) (g := (gName 6)) (tt := tYes) (te := tLst (tCons (tOp (rIx K) (tVar 6) (tC (V.int 0))) (tCons (tOp (rIx K) (tVar 6) (tC (V.int 1))) (tCons (tCB rListS (tCons (tOp (rIx K) (tVar 6) (tC (V.int 2))) tNil)) (tCons (tCB rListS (tCons (tOp (rIx K) (tVar 6) (tC (V.int 3))) tNil)) (tCons (tCB rListS (tCons (tOp (rIx K) (tVar 6) (tC (V.int 4))) tNil)) tNil)))))) rfl scLaw.nd rfl rfl (sw_true rfl rfl rfl (by decide +kernel)) (pi_list (pv 3)) (blkOk_by (own := [("_law_one", 6)]) (N := ["_law_script", "_law_steps", "_law_lanes", "_law_parts", "_law_lane_here", "_law_handed", "_law_one", "_law_known", "_law_some", "_law_others", "_law_net_here", "_law_strange", "_law_way"]) (sc := defScope sLaw) (by decide +kernel)) (fun _ _ _ _ _ => (pg_name (i := 6) scLaw.nd rfl (.inl rfl))) (fun _ _ _ _ _ => pts_nil) (fun _ _ _ _ _ => (pe_lst (pa_cons (pe_ix ix_seq (pv 6) pe_int (fun _ _ => rfl)) (pa_cons (pe_ix ix_seq (pv 6) pe_int (fun _ _ => rfl)) (pa_cons (pe_callTy call_listS (by rfl) hlist (by decide +kernel) (pa_cons (pe_ix ix_seq (pv 6) pe_int (fun _ _ => rfl)) pa_nil)) (pa_cons (pe_callTy call_listS (by rfl) hlist (by decide +kernel) (pa_cons (pe_ix ix_seq (pv 6) pe_int (fun _ _ => rfl)) pa_nil)) (pa_cons (pe_callTy call_listS (by rfl) hlist (by decide +kernel) (pa_cons (pe_ix ix_seq (pv 6) pe_int (fun _ _ => rfl)) pa_nil)) pa_nil))))))))
    (C8.pss_cut (ps_setLc (i := 8) (own := [("_law_lane_here", 4)]) (g := (gName 4)) (tt := tYes) (te := tTup (tCons (tOp (rIx K) (tVar 4) (tC (V.int 0))) (tCons (tOp (rIx K) (tVar 4) (tC (V.int 1))) (tCons (tOp (rIx K) (tVar 4) (tC (V.int 2))) tNil)))) rfl scLaw.nd rfl rfl (sw_true rfl rfl rfl (by decide +kernel)) (pi_list (pv 5)) (blkOk_by (own := [("_law_lane_here", 4)]) (N := ["_law_script", "_law_steps", "_law_lanes", "_law_parts", "_law_lane_here", "_law_handed", "_law_one", "_law_known", "_law_some", "_law_others", "_law_net_here", "_law_strange", "_law_way"]) (sc := defScope sLaw) (by decide +kernel)) (fun _ _ _ _ _ => (pg_name (i := 4) scLaw.nd rfl (.inl rfl))) (fun _ _ _ _ _ => pts_nil) (fun _ _ _ _ _ => (pe_tup (pa_cons (pe_ix ix_seq (pv 4) pe_int (fun _ _ => rfl)) (pa_cons (pe_ix ix_seq (pv 4) pe_int (fun _ _ => rfl)) (pa_cons (pe_ix ix_seq (pv 4) pe_int (fun _ _ => rfl)) pa_nil))))))
    (C8.pss_cut (ps_setLc (i := 9) (own := [("_law_one", 6)]) (g := (gName 6)) (tt := tYes) (te := tTup (tCons (tOp (rIx K) (tVar 6) (tC (V.int 0))) (tCons (tOp (rIx K) (tVar 6) (tC (V.int 1))) (tCons (tOp (rIx K) (tVar 6) (tC (V.int 2))) (tCons (tOp (rIx K) (tVar 6) (tC (V.int 3))) (tCons (tOp (rIx K) (tVar 6) (tC (V.int 4))) tNil)))))) rfl scLaw.nd rfl rfl (sw_true rfl rfl rfl (by decide +kernel)) (pi_list (pv 7)) (blkOk_by (own := [("_law_one", 6)]) (N := ["_law_script", "_law_steps", "_law_lanes", "_law_parts", "_law_lane_here", "_law_handed", "_law_one", "_law_known", "_law_some", "_law_others", "_law_net_here", "_law_strange", "_law_way"]) (sc := defScope sLaw) (by decide +kernel)) (fun _ _ _ _ _ => (pg_name (i := 6) scLaw.nd rfl (.inl rfl))) (fun _ _ _ _ _ => pts_nil) (fun _ _ _ _ _ => (pe_tup (pa_cons (pe_ix ix_seq (pv 6) pe_int (fun _ _ => rfl)) (pa_cons (pe_ix ix_seq (pv 6) pe_int (fun _ _ => rfl)) (pa_cons (pe_ix ix_seq (pv 6) pe_int (fun _ _ => rfl)) (pa_cons (pe_ix ix_seq (pv 6) pe_int (fun _ _ => rfl)) (pa_cons (pe_ix ix_seq (pv 6) pe_int (fun _ _ => rfl)) pa_nil))))))))
    (C8.pss_cut (ps_if (pt_cmpR op_eq (pe_op op_mod (pe_op op_fdiv (pe_callG MC (hr.mono (by decide)) (by rfl) pass0 (pa_cons (pv 0) (pa_cons pe_int pa_nil))) pe_int) pe_int) pe_int (nomark _)) (C8.pss_cut (ps_setLc (i := 8) (own := [("_law_lane_here", 4)]) (g := (gName 4)) (tt := tYes) (te := tTup (tCons (tOp (rIx K) (tVar 4) (tC (V.int 0))) (tCons (tOp (rIx K) (tVar 4) (tC (V.int 1))) (tCons (tCB rTupS (tCons (tOp (rIx K) (tVar 4) (tC (V.int 2))) tNil)) tNil)))) rfl scLaw.nd rfl rfl (sw_true rfl rfl rfl (by decide +kernel)) (pi_list (pv 5)) (blkOk_by (own := [("_law_lane_here", 4)]) (N := ["_law_script", "_law_steps", "_law_lanes", "_law_parts", "_law_lane_here", "_law_handed", "_law_one", "_law_known", "_law_some", "_law_others", "_law_net_here", "_law_strange", "_law_way"]) (sc := defScope sLaw) (by decide +kernel)) (fun _ _ _ _ _ => (pg_name (i := 4) scLaw.nd rfl (.inl rfl))) (fun _ _ _ _ _ => pts_nil) (fun _ _ _ _ _ => (pe_tup (pa_cons (pe_ix ix_seq (pv 4) pe_int (fun _ _ => rfl)) (pa_cons (pe_ix ix_seq (pv 4) pe_int (fun _ _ => rfl)) (pa_cons (pe_callTy call_tupleS (by rfl) htuple (by decide +kernel) (pa_cons (pe_ix ix_seq (pv 4) pe_int (fun _ _ => rfl)) pa_nil)) pa_nil))))))
    (pss_one (ps_setLc (i := 9) (own := [("_law_one", 6)]) (g := (gName 6)) (tt := tYes) (te := tTup (tCons (tOp (rIx K) (tVar 6) (tC (V.int 0))) (tCons (tOp (rIx K) (tVar 6) (tC (V.int 1))) (tCons (tCB rTupS (tCons (tOp (rIx K) (tVar 6) (tC (V.int 2))) tNil)) (tCons (tCB rTupS (tCons (tOp (rIx K) (tVar 6) (tC (V.int 3))) tNil)) (tCons (tCB rTupS (tCons (tOp (rIx K) (tVar 6) (tC (V.int 4))) tNil)) tNil)))))) rfl scLaw.nd rfl rfl (sw_true rfl rfl rfl (by decide +kernel)) (pi_list (pv 7)) (blkOk_by (own := [("_law_one", 6)]) (N := ["_law_script", "_law_steps", "_law_lanes", "_law_parts", "_law_lane_here", "_law_handed", "_law_one", "_law_known", "_law_some", "_law_others", "_law_net_here", "_law_strange", "_law_way"]) (sc := defScope sLaw) (by decide +kernel)) (fun _ _ _ _ _ => (pg_name (i := 6) scLaw.nd rfl (.inl rfl))) (fun _ _ _ _ _ => pts_nil) (fun _ _ _ _ _ => (pe_tup (pa_cons (pe_ix ix_seq (pv 6) pe_int (fun _ _ => rfl)) (pa_cons (pe_ix ix_seq (pv 6) pe_int (fun _ _ => rfl)) (pa_cons (pe_callTy call_tupleS (by rfl) htuple (by decide +kernel) (pa_cons (pe_ix ix_seq (pv 6) pe_int (fun _ _ => rfl)) pa_nil)) (pa_cons (pe_callTy call_tupleS (by rfl) htuple (by decide +kernel) (pa_cons (pe_ix ix_seq (pv 6) pe_int (fun _ _ => rfl)) pa_nil)) (pa_cons (pe_callTy call_tupleS (by rfl) htuple (by decide +kernel) (pa_cons (pe_ix ix_seq (pv 6) pe_int (fun _ _ => rfl)) pa_nil)) pa_nil)))))))))) pss_nil)
    (pss_cons (ps_set (i := 10) scLaw.nd rfl (.inl rfl) (pe_makeG MN (hr.mono (by decide)) (by rfl) pass0 (pa_cons (pv 8) (pa_cons (pv 9) pa_nil))))
    (pss_cons (ps_expr (pe_bm0 PySem.F.plainAttrs_list PySem.F.slot_list_clear PySem.F.type_list_clear mt_clear (pv 8)))
    (pss_cons (ps_expr (pe_bm0 PySem.F.plainAttrs_list PySem.F.slot_list_clear PySem.F.type_list_clear mt_clear (pv 9)))
    (C8.pss_cut (ps_for PassesOwn.never rfl (pi_list (pv 5)) (pg_name (i := 4) scLaw.nd rfl (.inl rfl)) (pss_one (ps_expr (pe_bm0 PySem.F.plainAttrs_list PySem.F.slot_list_clear PySem.F.type_list_clear mt_clear (pe_ix ix_seq (pv 4) pe_int (fun _ _ => rfl))))))
    (C8.pss_cut (ps_if (pt_cmpR op_eq (pe_op op_mod (pe_op op_fdiv (pe_callG MC (hr.mono (by decide)) (by rfl) pass0 (pa_cons (pv 0) (pa_cons pe_int pa_nil))) pe_int) pe_int) pe_int (nomark _)) (pss_one (ps_for PassesOwn.never rfl (pi_list (pv 7)) (pg_name (i := 6) scLaw.nd rfl (.inl rfl)) (pss_cons (ps_expr (pe_bm PySem.F.plainAttrs_list PySem.F.slot_list_append PySem.F.type_list_append mt_append (pe_ix ix_seq (pv 6) pe_int (fun _ _ => rfl)) (pa_cons pe_int pa_nil)))
    (pss_cons (ps_expr (pe_bm0 PySem.F.plainAttrs_list PySem.F.slot_list_clear PySem.F.type_list_clear mt_clear (pe_ix ix_seq (pv 6) pe_int (fun _ _ => rfl))))
    (pss_one (ps_expr (pe_bm0 PySem.F.plainAttrs_list PySem.F.slot_list_clear PySem.F.type_list_clear mt_clear (pe_ix ix_seq (pv 6) pe_int (fun _ _ => rfl))))))))) pss_nil)
    (pss_cons (ps_if (PW.pt (pw_or (pt_not (pt_val (pe_callG MGD (hr.mono (by decide)) (by rfl) pass0 (pa_cons (pv 10) (pa_cons (pv 2) (pa_cons (pv 3) pa_nil)))))) (pw_or1 (pt_not (pt_val (pe_callG MGD (hr.mono (by decide)) (by rfl) pass0 (pa_cons (pv 10) (pa_cons (pv 2) (pa_cons (pv 3) pa_nil))))))))) (pss_one (ps_ret pe_bl)) pss_nil)
    (pss_cons (ps_set (i := 11) scLaw.nd rfl (.inl rfl) (pe_callG MW (hr.mono (by decide)) (by rfl) pass0 (pa_cons (pe_callG MC (hr.mono (by decide)) (by rfl) pass0 (pa_cons (pv 0) (pa_cons pe_int pa_nil))) (pa_cons pe_int pa_nil))))
    (pss_cons (ps_for PassesOwn.never rfl (pi_range1 (by rfl) hrange (pa_cons pe_int pa_nil)) (pg_name (i := 12) scLaw.nd rfl (.inl rfl)) (pss_one (ps_if (pt_not (pt_val (pe_callG MMS (hr.mono (by decide)) (by rfl) pass0 (pa_cons (pv 10) (pa_cons (pv 12) (pa_cons (pv 11) pa_nil)))))) (pss_one (ps_ret pe_bl)) pss_nil)))
    (pss_one (ps_ret (pe_callG MMS (hr.mono (by decide)) (by rfl) pass0 (pa_cons (pv 10) (pa_cons pe_int (pa_cons (pe_callG MW (hr.mono (by decide)) (by rfl) pass0 (pa_cons (pe_callG MC (hr.mono (by decide)) (by rfl) pass0 (pa_cons (pv 0) (pa_cons pe_int pa_nil))) (pa_cons pe_int pa_nil))) pa_nil))))))))))))))))))))), ?_⟩
  have s0 : 0 ≤ 3 + cellF ns 0 % 2 := by omega
  have s4 : 3 + cellF ns 0 % 2 ≤ 4 := by omega
  refine ⟨_, rfl, a, ns, 0, rfl, hS, by decide, _, _, rfl, rfl, (by show (0 : Int) < 2; decide), _, _, rfl, rfl, ?_⟩
  -- the net's rows
  refine ⟨fun σ H' => ∃ A B lanes parts, σ = [some (.ref a), some (.int (3 + cellF ns 0 % 2)), some (.ref A), some (.ref B), none, none, none, none, none, none, none, none, none] ∧ Same H H' ∧ LanesAt H' A lanes ∧ PartsAt H' B parts ∧ NetOk lanes parts (cellF ns 1) (cellF ns 2), ?_, ?_⟩
  · exact ⟨_, rfl, _, rfl, a, ns, _, rfl, hS, ⟨s0, s4⟩, fun H' t A B lanes parts sm LA PA_ ok ht => ⟨t, _, rfl, SqT.of ht, rfl, _, _, rfl, _, _, rfl, rfl, A, B, lanes, parts, rfl, sm, LA, PA_, ok⟩⟩
  rintro σ H0 ⟨A, B, lanes, parts, rfl, sm0, LA, PA_, ok⟩
  obtain ⟨vl, hA, al⟩ := id LA
  obtain ⟨vp, hB, ap⟩ := id PA_
  have hvl : vl.length = lanes.length := al.1
  have hvp : vp.length = parts.length := ap.1
  have l0 := ok.l0
  have l1 := ok.l1
  have p0 := ok.p0
  have p1 := ok.p1
  -- handed
  refine ⟨fun σ H' => ∃ D1 vs1, σ = [some (.ref a), some (.int (3 + cellF ns 0 % 2)), some (.ref A), some (.ref B), none, some (.ref D1), none, none, none, none, none, none, none] ∧ Same H0 H' ∧ H0 D1 = none ∧ H' D1 = some (.lst vs1) ∧ AllB (HdL H0 [D1] H') vs1 lanes, ?_, ?_⟩
  · refine ⟨_, rfl, A, rfl, ⟨vl, SqL.of hA⟩, fun D1 hD1 => ?_⟩
    refine lc_it walk_list (fun i H' => Same H0 H' ∧ ∃ us, H' D1 = some (.lst us) ∧ AllB (HdL H0 [D1] H') us (lanes.take i)) ⟨same_new hD1, [], upd_same, AllB.nil⟩ (fun i H' _ h => SqL.of (h.1 _ _ hA)) ?_ ?_
    · rintro i x H1 H2 hi ⟨s1, us, h3, h4⟩ ⟨rfl, hx⟩
      obtain ⟨l, hl', t, f, rfl, ht, hf⟩ := al.get hx
      have ht2 := s1 _ _ ht
      refine ⟨rfl, _, rfl, .inr (.inl ⟨t, _, 0, _, rfl, rfl, SqT.of ht2, atI_nat (j := 0) rfl, ?_⟩)⟩
      refine ⟨_, rfl, .inr (.inl ⟨t, _, 1, _, rfl, rfl, SqT.of ht2, atI_nat (j := 1) rfl, ?_⟩)⟩
      refine ⟨_, rfl, .inr (.inl ⟨t, _, 2, _, rfl, rfl, SqT.of ht2, atI_nat (j := 2) rfl, ?_⟩)⟩
      refine ⟨f, _, rfl, .inl (s1 _ _ hf), fun f2 hf2 => ⟨(by show 3 ≤ sizeLine; decide), fun t2 ht2 => ?_⟩⟩
      have k1 := same_new (o := .lst (l.first.map V.int)) hf2
      have k2 := same_new (o := .lst [V.str l.name, V.int l.room, V.ref f2]) ht2
      have kk := k1.trans k2
      have fD : f2 ≠ D1 := fun e => by rw [e, h3] at hf2; cases hf2
      have tD : t2 ≠ D1 := fun e => by rw [e, k1 _ _ h3] at ht2; cases ht2
      refine ⟨us, kk _ _ h3, small1000 (by have := h4.1; rw [List.length_take] at this; omega), fun b o z => by rw [upd_ne (ne_of_none z hD1)]; exact kk _ _ (s1 _ _ z), _, upd_same, ?_⟩
      rw [take_more hl']
      refine (h4.imp fun v l z => (z.same kk).upd (List.mem_singleton.mpr rfl)).snoc (HdL.upd ⟨t2, f2, rfl, upd_same, k2 _ _ upd_same, s1.free hf2, ?_, ?_⟩ (List.mem_singleton.mpr rfl))
      · exact fun e => tD (List.mem_singleton.mp e)
      · exact fun e => fD (List.mem_singleton.mp e)
    · rintro H1 ⟨s1, us, h3, h4⟩
      rw [hvl, List.take_length] at h4
      exact ⟨D1, us, rfl, s1, hD1, h3, h4⟩
  rintro σ H1 ⟨D1, vs1, rfl, s1, d10, hd1, hl1⟩
  -- known
  refine ⟨fun σ H' => ∃ D2 vs2, σ = [some (.ref a), some (.int (3 + cellF ns 0 % 2)), some (.ref A), some (.ref B), none, some (.ref D1), none, some (.ref D2), none, none, none, none, none] ∧ Same H1 H' ∧ H1 D2 = none ∧ H' D2 = some (.lst vs2) ∧ AllB (HdP H0 [D2, D1] H') vs2 parts, ?_, ?_⟩
  · refine ⟨_, rfl, B, rfl, ⟨vp, SqL.of (s1 _ _ hB)⟩, fun D2 hD2 => ?_⟩
    refine lc_it walk_list (fun i H' => Same H1 H' ∧ ∃ us, H' D2 = some (.lst us) ∧ AllB (HdP H0 [D2, D1] H') us (parts.take i)) ⟨same_new hD2, [], upd_same, AllB.nil⟩ (fun i H' _ h => SqL.of (h.1 _ _ (s1 _ _ hB))) ?_ ?_
    · rintro i x H2 H3 hi ⟨s2, us, h3, h4⟩ ⟨rfl, hx⟩
      obtain ⟨p, hp', t, n, ii, o, rfl, ht, hn, hii, ho⟩ := ap.get hx
      have S := s1.trans s2
      have ht3 := S _ _ ht
      refine ⟨rfl, _, rfl, .inr (.inl ⟨t, _, 0, _, rfl, rfl, SqT.of ht3, at0, ?_⟩)⟩
      refine ⟨_, rfl, .inr (.inl ⟨t, _, 1, _, rfl, rfl, SqT.of ht3, at1, ?_⟩)⟩
      refine ⟨_, rfl, .inr (.inl ⟨t, _, 2, _, rfl, rfl, SqT.of ht3, at2, ?_⟩)⟩
      refine ⟨n, _, rfl, .inl (S _ _ hn), fun n2 hn2 => ?_⟩
      have k1 := same_new (o := .lst (p.nums.map V.int)) hn2
      refine ⟨_, rfl, .inr (.inl ⟨t, _, 3, _, rfl, rfl, SqT.of (k1 _ _ ht3), at3, ?_⟩)⟩
      refine ⟨ii, _, rfl, .inl (k1 _ _ (S _ _ hii)), fun i2 hi2 => ?_⟩
      have k2 := same_new (o := .lst (p.ins.map V.str)) hi2
      refine ⟨_, rfl, .inr (.inl ⟨t, _, 4, _, rfl, rfl, SqT.of (k2 _ _ (k1 _ _ ht3)), at4, ?_⟩)⟩
      refine ⟨o, _, rfl, .inl (k2 _ _ (k1 _ _ (S _ _ ho))), fun o2 ho2 => ?_⟩
      have k3 := same_new (o := .lst (p.outs.map V.str)) ho2
      refine ⟨(by show 5 ≤ sizeLine; decide), fun t2 ht2 => ?_⟩
      have k4 := same_new (o := .lst [V.str p.kd.word, V.str p.name, V.ref n2, V.ref i2, V.ref o2]) ht2
      have kk := (k1.trans k2).trans (k3.trans k4)
      have hd13 := s2 _ _ hd1
      have out : ∀ {Hx : Hp} {y : Addr}, Same H3 Hx → Hx y = none → y ∉ [D2, D1] := fun sx hy e => by
        rcases List.mem_cons.mp e with rfl | e
        · rw [sx _ _ h3] at hy; cases hy
        · rw [List.mem_singleton.mp e, sx _ _ hd13] at hy; cases hy
      refine ⟨us, kk _ _ h3, small1000 (by have := h4.1; rw [List.length_take] at this; omega), fun b o z => by rw [upd_ne (ne_of_none z hD2)]; exact kk _ _ (s2 _ _ z), _, upd_same, ?_⟩
      rw [take_more hp']
      have mD : D2 ∈ [D2, D1] := List.mem_cons_self ..
      exact (h4.imp fun v l z => (z.same kk).upd mD).snoc (HdP.upd ⟨t2, n2, i2, o2, rfl, upd_same, k4 _ _ (k3 _ _ (k2 _ _ upd_same)), k4 _ _ (k3 _ _ upd_same), k4 _ _ upd_same, S.free hn2, (S.trans k1).free hi2, (S.trans (k1.trans k2)).free ho2,
        out (k1.trans (k2.trans k3)) ht2, out (Same.refl H3) hn2, out k1 hi2, out (k1.trans k2) ho2⟩ mD)
    · rintro H2 ⟨s2, us, h3, h4⟩
      rw [hvp, List.take_length] at h4
      exact ⟨D2, us, rfl, s2, hD2, h3, h4⟩
  rintro σ H2 ⟨D2, vs2, rfl, s2, d20, hd2, hl2⟩
  have hl1' : AllB (HdL H0 [D2, D1] H2) vs1 lanes := hl1.imp fun v l z => (z.more d20).same s2
  have hd1' := s2 _ _ hd1
  have S2 := s1.trans s2
  have hv1 : vs1.length = lanes.length := hl1.1
  have hv2 : vs2.length = parts.length := hl2.1
  -- the rows for the net
  refine ⟨fun σ H' => ∃ D3 vl3, σ = [some (.ref a), some (.int (3 + cellF ns 0 % 2)), some (.ref A), some (.ref B), none, some (.ref D1), none, some (.ref D2), some (.ref D3), none, none, none, none] ∧ Same H2 H' ∧ H2 D3 = none ∧ H' D3 = some (.lst vl3) ∧ AllB (LnX H2 H') vl3 lanes, ?_, ?_⟩
  · skip
    refine ⟨_, rfl, D1, rfl, ⟨vs1, SqL.of ((Same.refl H2) _ _ hd1')⟩, fun D3 hD3 => ?_⟩
    refine lc_it walk_list (fun i H' => Same H2 H' ∧ ∃ us, H' D3 = some (.lst us) ∧ AllB (LnX H2 H') us (lanes.take i)) ⟨same_new hD3, [], upd_same, AllB.nil⟩ (fun i H' _ h => SqL.of (h.1 _ _ ((Same.refl H2) _ _ hd1'))) ?_ ?_
    · rintro i x Ha Hb hi ⟨sa, us, h3, h4⟩ ⟨rfl, hx⟩
      obtain ⟨l, hl', t, f, rfl, ht, hf, _⟩ := hl1'.get hx
      have ht2 := sa _ _ ((Same.refl H2) _ _ ht)
      refine ⟨rfl, _, rfl, .inl ⟨t, _, 0, _, rfl, rfl, SqL.of ht2, atI_nat (j := 0) rfl, ?_⟩⟩
      refine ⟨_, rfl, .inl ⟨t, _, 1, _, rfl, rfl, SqL.of ht2, atI_nat (j := 1) rfl, ?_⟩⟩
      refine ⟨_, rfl, .inl ⟨t, _, 2, _, rfl, rfl, SqL.of ht2, atI_nat (j := 2) rfl, ?_⟩⟩
      refine ⟨(by show 3 ≤ sizeLine; decide), fun e he => ?_⟩
      have kk := same_new (o := .tup [V.str l.name, V.int l.room, V.ref f]) he
      have kt := KeepT.upd (o' := .lst (us ++ [V.ref e])) (kk _ _ h3) (fun xs z => by cases z)
      refine ⟨us, kk _ _ h3, small1000 (by have := h4.1; rw [List.length_take] at this; omega), fun b o z => by rw [upd_ne (ne_of_none z hD3)]; exact kk _ _ (sa _ _ z), _, upd_same, ?_⟩
      rw [take_more hl']
      exact (h4.imp fun v l z => (z.kt (KeepT.of kk)).kt kt).snoc ⟨e, f, rfl, kt _ _ upd_same, .inl hf⟩
    · rintro Ha ⟨sa, us, h3, h4⟩
      rw [hv1, List.take_length] at h4
      exact ⟨D3, us, rfl, sa, hD3, h3, h4⟩
  rintro σ H3 ⟨D3, vl3, rfl, s3, d30, hd3, hl3⟩
  refine ⟨fun σ H' => ∃ D3 D4 vl3 vp4, σ = [some (.ref a), some (.int (3 + cellF ns 0 % 2)), some (.ref A), some (.ref B), none, some (.ref D1), none, some (.ref D2), some (.ref D3), some (.ref D4), none, none, none] ∧ Same H2 H' ∧ H2 D3 = none ∧ H2 D4 = none ∧ D3 ≠ D4 ∧ H' D3 = some (.lst vl3) ∧ AllB (LnX H2 H') vl3 lanes ∧ H' D4 = some (.lst vp4) ∧ AllB (PtX H2 H') vp4 parts, ?_, ?_⟩
  · skip
    refine ⟨_, rfl, D2, rfl, ⟨vs2, SqL.of (s3 _ _ hd2)⟩, fun D4 hD4 => ?_⟩
    refine lc_it walk_list (fun i H' => Same H3 H' ∧ ∃ us, H' D4 = some (.lst us) ∧ AllB (PtX H2 H') us (parts.take i)) ⟨same_new hD4, [], upd_same, AllB.nil⟩ (fun i H' _ h => SqL.of (h.1 _ _ (s3 _ _ hd2))) ?_ ?_
    · rintro i x Ha Hb hi ⟨sa, us, h3, h4⟩ ⟨rfl, hx⟩
      obtain ⟨p, hp', t, n, ii, o, rfl, ht, hn, hii, ho, _⟩ := hl2.get hx
      have ht2 := sa _ _ (s3 _ _ ht)
      refine ⟨rfl, _, rfl, .inl ⟨t, _, 0, _, rfl, rfl, SqL.of ht2, at0, ?_⟩⟩
      refine ⟨_, rfl, .inl ⟨t, _, 1, _, rfl, rfl, SqL.of ht2, at1, ?_⟩⟩
      refine ⟨_, rfl, .inl ⟨t, _, 2, _, rfl, rfl, SqL.of ht2, at2, ?_⟩⟩
      refine ⟨_, rfl, .inl ⟨t, _, 3, _, rfl, rfl, SqL.of ht2, at3, ?_⟩⟩
      refine ⟨_, rfl, .inl ⟨t, _, 4, _, rfl, rfl, SqL.of ht2, at4, ?_⟩⟩
      refine ⟨(by show 5 ≤ sizeLine; decide), fun e he => ?_⟩
      have kk := same_new (o := .tup [V.str p.kd.word, V.str p.name, V.ref n, V.ref ii, V.ref o]) he
      have kt := KeepT.upd (o' := .lst (us ++ [V.ref e])) (kk _ _ h3) (fun xs z => by cases z)
      refine ⟨us, kk _ _ h3, small1000 (by have := h4.1; rw [List.length_take] at this; omega), fun b o z => by rw [upd_ne (ne_of_none z hD4)]; exact kk _ _ (sa _ _ z), _, upd_same, ?_⟩
      rw [take_more hp']
      exact (h4.imp fun v l z => (z.kt (KeepT.of kk)).kt kt).snoc ⟨e, n, ii, o, rfl, kt _ _ upd_same, .inl hn, .inl hii, .inl ho⟩
    · rintro Ha ⟨sa, us, h3, h4⟩
      rw [hv2, List.take_length] at h4
      exact ⟨D3, D4, vl3, us, rfl, s3.trans sa, d30, s3.free hD4, ne_of_none hd3 hD4, sa _ _ hd3, hl3.imp fun v l z => z.kt (KeepT.of sa), h3, h4⟩
  rintro σ H4 ⟨D3, D4, vl3, vp4, rfl, s4', d30, d40, d34, hd3, hl3, hd4, hl4⟩
  have hS4 := (sm0.trans (S2.trans s4')).seq hS
  refine ⟨fun σ H' => ∃ D3 D4 vl3 vp4, σ = [some (.ref a), some (.int (3 + cellF ns 0 % 2)), some (.ref A), some (.ref B), none, some (.ref D1), none, some (.ref D2), some (.ref D3), some (.ref D4), none, none, none] ∧ Same H2 H' ∧ H2 D3 = none ∧ H2 D4 = none ∧ D3 ≠ D4 ∧ H' D3 = some (.lst vl3) ∧ AllB (LnX H2 H') vl3 lanes ∧ H' D4 = some (.lst vp4) ∧ AllB (PtX H2 H') vp4 parts, ?_, ?_⟩
  · refine ⟨_, rfl, a, ns, 0, rfl, hS4, by decide, _, _, rfl, rfl, (by show (0 : Int) < 2 ∧ (2 : Int) < 1073741824; decide), _, _, rfl, rfl, (by show (0 : Int) < 2; decide), rfl, _, rfl, ite2 (fun _ => ?_) (fun _ => ⟨D3, D4, vl3, vp4, rfl, s4', d30, d40, d34, hd3, hl3, hd4, hl4⟩)⟩
    clear d30 d40 d34 hd3 hl3 hd4 hl4
    obtain ⟨e4, he4⟩ : ∃ e, e = D4 := ⟨_, rfl⟩
    refine ⟨fun σ H' => ∃ D3 vl3, σ = [some (.ref a), some (.int (3 + cellF ns 0 % 2)), some (.ref A), some (.ref B), none, some (.ref D1), none, some (.ref D2), some (.ref D3), some (.ref D4), none, none, none] ∧ Same H2 H' ∧ H2 D3 = none ∧ H' D3 = some (.lst vl3) ∧ AllB (LnX H2 H') vl3 lanes, ?_, ?_⟩
    · skip
      refine ⟨_, rfl, D1, rfl, ⟨vs1, SqL.of (s4' _ _ hd1')⟩, fun D3 hD3 => ?_⟩
      refine lc_it walk_list (fun i H' => Same H4 H' ∧ ∃ us, H' D3 = some (.lst us) ∧ AllB (LnX H2 H') us (lanes.take i)) ⟨same_new hD3, [], upd_same, AllB.nil⟩ (fun i H' _ h => SqL.of (h.1 _ _ (s4' _ _ hd1'))) ?_ ?_
      · rintro i x Ha Hb hi ⟨sa, us, h3, h4⟩ ⟨rfl, hx⟩
        obtain ⟨l, hl', t, f, rfl, ht, hf, _⟩ := hl1'.get hx
        have ht2 := sa _ _ (s4' _ _ ht)
        refine ⟨rfl, _, rfl, .inl ⟨t, _, 0, _, rfl, rfl, SqL.of ht2, atI_nat (j := 0) rfl, ?_⟩⟩
        refine ⟨_, rfl, .inl ⟨t, _, 1, _, rfl, rfl, SqL.of ht2, atI_nat (j := 1) rfl, ?_⟩⟩
        refine ⟨_, rfl, .inl ⟨t, _, 2, _, rfl, rfl, SqL.of ht2, atI_nat (j := 2) rfl, ?_⟩⟩
        refine ⟨f, _, rfl, .inl (sa _ _ (s4' _ _ hf)), fun f2 Hc sc hf2 => ⟨(by show 3 ≤ sizeLine; decide), fun e he => ?_⟩⟩
        have k2 := same_new (o := .tup [V.str l.name, V.int l.room, V.ref f2]) he
        have kk := sc.trans k2
        have kt := KeepT.upd (o' := .lst (us ++ [V.ref e])) (kk _ _ h3) (fun xs z => by cases z)
        refine ⟨us, kk _ _ h3, small1000 (by have := h4.1; rw [List.length_take] at this; omega), fun b o z => by rw [upd_ne (ne_of_none z hD3)]; exact kk _ _ (sa _ _ z), _, upd_same, ?_⟩
        rw [take_more hl']
        exact (h4.imp fun v l z => (z.kt (KeepT.of kk)).kt kt).snoc ⟨e, f2, rfl, kt _ _ upd_same, .inr (kt _ _ (k2 _ _ hf2))⟩
      · rintro Ha ⟨sa, us, h3, h4⟩
        rw [hv1, List.take_length] at h4
        exact ⟨D3, us, rfl, s4'.trans sa, s4'.free hD3, h3, h4⟩
    rintro σ H5 ⟨D3, vl3, rfl, s5, d30, hd3, hl3⟩
    refine ⟨_, rfl, D2, rfl, ⟨vs2, SqL.of (s5 _ _ hd2)⟩, fun D4 hD4 => ?_⟩
    refine lc_it walk_list (fun i H' => Same H5 H' ∧ ∃ us, H' D4 = some (.lst us) ∧ AllB (PtX H2 H') us (parts.take i)) ⟨same_new hD4, [], upd_same, AllB.nil⟩ (fun i H' _ h => SqL.of (h.1 _ _ (s5 _ _ hd2))) ?_ ?_
    · rintro i x Ha Hb hi ⟨sa, us, h3, h4⟩ ⟨rfl, hx⟩
      obtain ⟨p, hp', t, n, ii, o, rfl, ht, hn, hii, ho, _⟩ := hl2.get hx
      have ht2 := sa _ _ (s5 _ _ ht)
      refine ⟨rfl, _, rfl, .inl ⟨t, _, 0, _, rfl, rfl, SqL.of ht2, at0, ?_⟩⟩
      refine ⟨_, rfl, .inl ⟨t, _, 1, _, rfl, rfl, SqL.of ht2, at1, ?_⟩⟩
      refine ⟨_, rfl, .inl ⟨t, _, 2, _, rfl, rfl, SqL.of ht2, at2, ?_⟩⟩
      refine ⟨n, _, rfl, .inl (sa _ _ (s5 _ _ hn)), fun n2 Hc sc hn2 => ?_⟩
      refine ⟨_, rfl, .inl ⟨t, _, 3, _, rfl, rfl, SqL.of (sc _ _ ht2), at3, ?_⟩⟩
      refine ⟨ii, _, rfl, .inl (sc _ _ (sa _ _ (s5 _ _ hii))), fun i2 Hd sd hi2 => ?_⟩
      refine ⟨_, rfl, .inl ⟨t, _, 4, _, rfl, rfl, SqL.of (sd _ _ (sc _ _ ht2)), at4, ?_⟩⟩
      refine ⟨o, _, rfl, .inl (sd _ _ (sc _ _ (sa _ _ (s5 _ _ ho)))), fun o2 He se ho2 => ⟨(by show 5 ≤ sizeLine; decide), fun e he => ?_⟩⟩
      have k2 := same_new (o := .tup [V.str p.kd.word, V.str p.name, V.ref n2, V.ref i2, V.ref o2]) he
      have kk := ((sc.trans sd).trans se).trans k2
      have kt := KeepT.upd (o' := .lst (us ++ [V.ref e])) (kk _ _ h3) (fun xs z => by cases z)
      refine ⟨us, kk _ _ h3, small1000 (by have := h4.1; rw [List.length_take] at this; omega), fun b o z => by rw [upd_ne (ne_of_none z hD4)]; exact kk _ _ (sa _ _ z), _, upd_same, ?_⟩
      rw [take_more hp']
      exact (h4.imp fun v l z => (z.kt (KeepT.of kk)).kt kt).snoc ⟨e, n2, i2, o2, rfl, kt _ _ upd_same, .inr (kt _ _ (k2 _ _ (se _ _ (sd _ _ hn2)))), .inr (kt _ _ (k2 _ _ (se _ _ hi2))), .inr (kt _ _ (k2 _ _ ho2))⟩
    · rintro Ha ⟨sa, us, h3, h4⟩
      rw [hv2, List.take_length] at h4
      exact ⟨D3, D4, vl3, us, rfl, s5.trans sa, d30, s5.free hD4, ne_of_none hd3 hD4, sa _ _ hd3, hl3.imp fun v l z => z.kt (KeepT.of sa), h3, h4⟩
  clear d30 d40 d34 hd3 hl3 hd4 hl4 hS4 s4'
  rintro σ H4 ⟨D3, D4, vl3, vp4, rfl, s4', d30, d40, d34, hd3, hl3, hd4, hl4⟩
  -- the net
  refine ⟨_, rfl, _, rfl, fun n dx hn hdx _ => ?_⟩
  have sN : Same H4 (upd (upd H4 dx (.own n)) n (.ins CN dx [])) := fun b u e => by
    rw [upd_ne (ne_of_none e hn), upd_ne (ne_of_none e hdx)]; exact e
  refine ⟨n, dx, D3, D4, vl3, vp4, lanes, parts, _, _, rfl, upd_same, sN _ _ hd3, hl3.imp fun v l z => (z.inn s4').same sN, sN _ _ hd4, hl4.imp fun v l z => (z.inn s4').same sN, ok, fun H5 kn N5 => ⟨rfl, ?_⟩⟩
  have s5 : Same H4 H5 := fun b u e => kn b u (sN _ _ e) (ne_of_none e hn)
  -- the handed rows are emptied
  refine ⟨_, rfl, .inl ⟨rfl, _, SqL.of (s5 _ _ hd3)⟩, D3, _, rfl, rfl, s5 _ _ hd3, ?_⟩
  have hd45 : (upd H5 D3 (.lst [])) D4 = some (.lst vp4) := by rw [upd_ne d34.symm]; exact s5 _ _ hd4
  refine ⟨_, rfl, .inl ⟨rfl, _, SqL.of hd45⟩, D4, _, rfl, rfl, hd45, ?_⟩
  have N6 : NetAt kA CN (upd (upd H5 D3 (.lst [])) D4 (.lst [])) n lanes parts := (N5.nl (KeepNL.upd (s5 _ _ hd3))).nl (KeepNL.upd hd45)
  have S6 : Same H2 (upd (upd H5 D3 (.lst [])) D4 (.lst [])) := fun b u e => by
    rw [upd_ne (ne_of_none e d40), upd_ne (ne_of_none e d30)]; exact s5 _ _ (s4' _ _ e)
  generalize upd (upd H5 D3 (.lst [])) D4 (.lst []) = H6 at N6 S6 ⊢
  refine ⟨fun σ H' => ∃ v4, σ = [some (.ref a), some (.int (3 + cellF ns 0 % 2)), some (.ref A), some (.ref B), v4, some (.ref D1), none, some (.ref D2), some (.ref D3), some (.ref D4), some (.ref n), none, none] ∧ Same H0 H' ∧ NetAt kA CN H' n lanes parts ∧ H' D2 = some (.lst vs2) ∧ (∀ v ∈ vs2, WkP H0 [D2, D1] 200 H' v), ?_, ?_⟩
  · refine ⟨_, rfl, D1, rfl, ⟨vs1, SqL.of (S6 _ _ hd1')⟩, ?_⟩
    refine for_it walk_list (fun i σ H' => ∃ v4, σ = [some (.ref a), some (.int (3 + cellF ns 0 % 2)), some (.ref A), some (.ref B), v4, some (.ref D1), none, some (.ref D2), some (.ref D3), some (.ref D4), some (.ref n), none, none] ∧ Same H0 H' ∧ NetAt kA CN H' n lanes parts ∧ H' D1 = some (.lst vs1) ∧ H' D2 = some (.lst vs2) ∧ (∀ v ∈ vs1, WkL H0 [D2, D1] 200 H' v) ∧ (∀ v ∈ vs2, WkP H0 [D2, D1] 200 H' v))
      ⟨_, rfl, S2.trans S6, N6, S6 _ _ hd1', S6 _ _ hd2, fun v hv => ?_, fun v hv => ?_⟩ (by rintro i σ H' _ ⟨_, _, _, _, h, _⟩; exact SqL.of h) ?_ ?_
    · obtain ⟨l, hl, z⟩ := hl1'.mem hv
      exact (z.same S6).wk (ok.lok l hl).2.2
    · obtain ⟨p, hp, z⟩ := hl2.mem hv
      exact (z.same S6).wk (lens_ok (ok.pok p hp).2.2)
    · rintro i x σ H7 H8 hi ⟨v4, rfl, s7, N7, g1, g2, w1, w2⟩ ⟨rfl, hx⟩
      obtain ⟨t, b1, b2, f, rfl, ht, fl⟩ := w1 _ (List.mem_of_getElem? hx)
      obtain ⟨xs, hf, _, _, f0, fS⟩ := id fl
      refine ⟨_, rfl, .inl ⟨t, _, 2, _, rfl, rfl, SqL.of ht, atI_nat (j := 2) rfl, .inl ⟨rfl, _, SqL.of hf⟩, f, _, rfl, rfl, hf, ?_⟩⟩
      have fD2 : D2 ≠ f := (ne_in fS (List.mem_cons_self ..)).symm
      have fD1 : D1 ≠ f := (ne_in fS (List.mem_cons_of_mem _ (List.mem_singleton.mpr rfl))).symm
      exact ⟨_, rfl, fun b o e => by rw [upd_ne (ne_of_none e f0)]; exact s7 _ _ e, N7.nl (KeepNL.upd hf), by rw [upd_ne fD1]; exact g1, by rw [upd_ne fD2]; exact g2, fun v hv => WkL.upd fl rfl (Nat.zero_le _) (w1 v hv), fun v hv => WkP.upd fl rfl (Nat.zero_le _) (w2 v hv)⟩
    · rintro σ H7 ⟨v4, rfl, s7, N7, g1, g2, w1, w2⟩
      exact ⟨v4, rfl, s7, N7, g2, w2⟩
  rintro σ H7 ⟨v4, rfl, s7, N7, g2, w2⟩
  refine ⟨fun σ H' => ∃ v4 v6, σ = [some (.ref a), some (.int (3 + cellF ns 0 % 2)), some (.ref A), some (.ref B), v4, some (.ref D1), v6, some (.ref D2), some (.ref D3), some (.ref D4), some (.ref n), none, none] ∧ Same H0 H' ∧ NetAt kA CN H' n lanes parts, ?_, ?_⟩
  · refine ⟨_, rfl, a, ns, 0, rfl, (sm0.trans s7).seq hS, by decide, _, _, rfl, rfl, (by show (0 : Int) < 2 ∧ (2 : Int) < 1073741824; decide), _, _, rfl, rfl, (by show (0 : Int) < 2; decide), rfl, _, rfl, ite2 (fun _ => ?_) (fun _ => ⟨v4, _, rfl, s7, N7⟩)⟩
    refine ⟨_, rfl, D2, rfl, ⟨vs2, SqL.of g2⟩, ?_⟩
    refine for_it walk_list (fun i σ H' => ∃ v6, σ = [some (.ref a), some (.int (3 + cellF ns 0 % 2)), some (.ref A), some (.ref B), v4, some (.ref D1), v6, some (.ref D2), some (.ref D3), some (.ref D4), some (.ref n), none, none] ∧ Same H0 H' ∧ NetAt kA CN H' n lanes parts ∧ H' D2 = some (.lst vs2) ∧ (∀ v ∈ vs2, WkP H0 [D2, D1] (200 + i) H' v)) ⟨_, rfl, s7, N7, g2, w2⟩ (by rintro i σ H' _ ⟨_, _, _, _, h, _⟩; exact SqL.of h) ?_ ?_
    · rintro i x σ H8 H9 hi ⟨v6, rfl, s8, N8, g2, w2⟩ ⟨rfl, hx⟩
      have hxm := List.mem_of_getElem? hx
      have step : ∀ {Hx : Hp} {f : Addr} {M : Nat} {ys : List V}, Same H0 Hx → NetAt kA CN Hx n lanes parts → Hx D2 = some (.lst vs2) → (∀ v ∈ vs2, WkP H0 [D2, D1] (200 + (i + 1)) Hx v) → Flt H0 [D2, D1] M Hx f → ys.all flatV = true → ys.length ≤ 200 + (i + 1) →
          Same H0 (upd Hx f (.lst ys)) ∧ NetAt kA CN (upd Hx f (.lst ys)) n lanes parts ∧ (upd Hx f (.lst ys)) D2 = some (.lst vs2) ∧ (∀ v ∈ vs2, WkP H0 [D2, D1] (200 + (i + 1)) (upd Hx f (.lst ys)) v) := fun a1 a2 a3 a4 fl hy hl => by
        obtain ⟨xs, hf, _, _, f0, fS⟩ := id fl
        exact ⟨fun b o e => by rw [upd_ne (ne_of_none e f0)]; exact a1 _ _ e, a2.nl (KeepNL.upd hf), by rw [upd_ne (ne_in fS (List.mem_cons_self ..)).symm]; exact a3, fun v hv => WkP.upd fl hy hl (a4 v hv)⟩
      have w3 : ∀ v ∈ vs2, WkP H0 [D2, D1] (200 + (i + 1)) H9 v := fun v hv => (w2 v hv).mono (by omega)
      obtain ⟨t, b1, b2, fn, fi, fo, rfl, ht, ln, li, lo⟩ := w2 _ hxm
      obtain ⟨xs, hf, fx, xl, _, _⟩ := id ln
      have hlen : xs.length ≤ 1000 := by omega
      refine ⟨_, rfl, .inl ⟨t, _, 2, _, rfl, rfl, SqL.of ht, at2, .inl ⟨rfl, _, SqL.of hf⟩, fn, _, _, rfl, rfl, hf, small1000 hlen, ?_⟩⟩
      obtain ⟨s9, N9, g9, w9⟩ := step (ys := xs ++ [V.int 1]) s8 N8 g2 w3 ln (by rw [List.all_append, fx]; rfl) (by rw [List.length_append]; show xs.length + 1 ≤ _; omega)
      generalize upd H9 fn (.lst (xs ++ [V.int 1])) = H10 at s9 N9 g9 w9 ⊢
      obtain ⟨t', b3, b4, fn', fi', fo', et, ht', ln', li', lo'⟩ := w9 _ hxm
      injection et with et
      subst et
      obtain ⟨ys, hf', _, _, _, _⟩ := id li'
      refine ⟨_, rfl, .inl ⟨t, _, 3, _, rfl, rfl, SqL.of ht', at3, .inl ⟨rfl, _, SqL.of hf'⟩, fi', _, rfl, rfl, hf', ?_⟩⟩
      obtain ⟨s10, N10, g10, w10⟩ := step (ys := []) s9 N9 g9 w9 li' rfl (Nat.zero_le _)
      generalize upd H10 fi' (.lst []) = H11 at s10 N10 g10 w10 ⊢
      obtain ⟨t'', b5, b6, fn2, fi2, fo2, et, ht2, ln2, li2, lo2⟩ := w10 _ hxm
      injection et with et
      subst et
      obtain ⟨zs, hf2, _, _, _, _⟩ := id lo2
      refine ⟨_, rfl, .inl ⟨t, _, 4, _, rfl, rfl, SqL.of ht2, at4, .inl ⟨rfl, _, SqL.of hf2⟩, fo2, _, rfl, rfl, hf2, ?_⟩⟩
      obtain ⟨s11, N11, g11, w11⟩ := step (ys := []) s10 N10 g10 w10 lo2 rfl (Nat.zero_le _)
      exact ⟨_, rfl, s11, N11, g11, w11⟩
    · rintro σ H8 ⟨v6, rfl, s8, N8, _, _⟩
      exact ⟨v4, v6, rfl, s8, N8⟩
  rintro σ H8 ⟨v4, v6, rfl, s8, N8⟩
  -- it is good, twice
  refine ⟨_, rfl, _, rfl, _, rfl, n, A, B, lanes, parts, _, _, rfl, N8, LA.same s8, PA_.same s8, ok, fun H9 s9 => ⟨true, rfl, ifF (by decide) ?_⟩⟩
  have S9 := s8.trans s9
  refine ⟨_, rfl, _, rfl, _, rfl, n, A, B, lanes, parts, _, _, rfl, N8.same s9, LA.same S9, PA_.same S9, ok, fun H10 s10 => ⟨true, rfl, ifF (by decide) ?_⟩⟩
  have S10 := S9.trans s10
  have N10 := (N8.same s9).same s10
  -- strange names
  have far : wordF (cellF ns 1) 20 ∉ nms lanes := fun h => by
    obtain ⟨l, hl, e⟩ := List.mem_map.mp h
    exact (ok.lok l hl).2.1 e
  have farP : wordF (cellF ns 2) 20 ∉ parts.map (fun p : Pt => p.name) := fun h => by
    obtain ⟨p, hp, e⟩ :=
        List.mem_map.mp h
    exact (ok.pok p hp).2.1 e
  refine ⟨_, rfl, a, ns, 1, rfl, (sm0.trans S10).seq hS, by decide, cellF ns 1, 20, rfl, by decide, fun H11 s11 => ?_⟩
  have S11 := S10.trans s11
  refine ⟨4, rfl, by decide, by decide, ?_⟩
  refine for_range (lo := 0) (n := (4 : Int).toNat) (fun i σ H' => ∃ v12, σ = [some (.ref a), some (.int (3 + cellF ns 0 % 2)), some (.ref A), some (.ref B), v4, some (.ref D1), v6, some (.ref D2), some (.ref D3), some (.ref D4), some (.ref n), some (.str (wordF (cellF ns 1) 20)), v12] ∧ Same H0 H' ∧ NetAt kA CN H' n lanes parts) ⟨_, rfl, S11, N10.same s11⟩ ?_ ?_
  · rintro i σ H12 hi ⟨v12, rfl, s12, N12⟩
    have hi4 : i < 4 := hi
    refine ⟨_, rfl, _, rfl, _, rfl, n, 0 + (i : Int), _, lanes, parts, _, _, rfl, ⟨by omega, by omega⟩, N12, ok, fun _ => far, fun e => absurd e (by omega), fun H13 s13 => ⟨true, rfl, ifF (by decide) ?_⟩⟩
    exact ⟨_, rfl, s12.trans s13, N12.same s13⟩
  rintro σ H12 ⟨v12, rfl, s12, N12⟩
  refine ⟨_, rfl, _, rfl, a, ns, 2, rfl, (sm0.trans s12).seq hS, by decide, cellF ns 2, 20, rfl, by decide, fun H13 s13 => ?_⟩
  exact ⟨n, 4, _, lanes, parts, _, _, rfl, by decide, N12.same s13, ok, fun h => absurd h (by decide), fun _ => farP, fun H14 _ => q H14⟩
theorem law_len : Len ["_law_script"] (spLaw K) := fun vs H Q E h => by
  obtain ⟨_, _, rfl, _⟩ := h
  rfl
end
end K21
set_option maxHeartbeats 0
/-! the head: what stands behind the top, by names -/
namespace K21
open PySem PySem.Spec PyProof.Rows L2 TL
/-- an own error class with an __init__ of its own -/
def ownB (K : PySem.W.Frag) (C : Addr) : Bool := match K.lookup C with
  | some o => (match o.cls, o.data, o.slots.toList with
    | .type t, .cls cd, [_, _, _, _, some (.builtin n), _] => (match cd.mro with
      | .ref E :: bm => t == "type" && (decide (E = C) && (n == "ValueError.__new__" && (!cd.hasDel && (cd.hasDict && PySem.HandSPX.refsVE bm))))
      | _ => false)
    | _, _, _ => false)
  | none => false
theorem ownB_ok {K : PySem.W.Frag} {C : Addr} (h : ownB K C = true) : ∃ nm q N bs bm sn sub ab col dd k0 k1 k2 k3 k5, K.lookup C = some (excClassObj nm q C N bs bm true sn sub ab col dd k0 k1 k2 k3 k5 "ValueError.__new__") ∧ PySem.HandSPX.refsVE bm = true := by
  unfold ownB at h
  split at h
  · rename_i o lk
    obtain ⟨oc, od, dt, sl⟩ := o
    split at h
    · rename_i t cd k0 k1 k2 k3 n k5 h1 h2 h3
      split at h
      · rename_i E bm hm
        obtain ⟨a1, h⟩ := He.ba h
        obtain ⟨a2, h⟩ := He.ba h
        obtain ⟨a3, h⟩ := He.ba h
        obtain ⟨a4, h⟩ := He.ba h
        obtain ⟨a5, a6⟩ := He.ba h
        obtain ⟨nm, bs, mro, N, q, hdct, sn,
            sub, ab, col, hdel⟩ := cd
        have b1 : t = "type" := eq_of_beq a1
        have b2 : E = C := of_decide_eq_true a2
        have b3 : n = "ValueError.__new__" := eq_of_beq a3
        have b4 : hdel = false := by
          cases hdel with
          | false => rfl
          | true => cases a4
        have b5 : hdct = true := a5
        have c1 : oc = .type t := h1
        have c2 : dt = _ := h2
        have c3 : sl.toList = _ := h3
        have c4 : mro = _ := hm
        have c5 : sl = #[k0, k1, k2, k3, some (.builtin n), k5] := by
          obtain ⟨l⟩ := sl
          exact congrArg Array.mk c3
        subst b1 b2 b3 b4 b5 c1 c2 c4 c5
        exact ⟨nm, q, N, bs, bm, sn, sub, ab, col, od, k0, k1, k2, k3, k5, lk, a6⟩
      · cases h
    · cases h
  · cases h
/-- LaneError.__init__ is ValueError's -/
def liB (K : PySem.W.Frag) (C : Addr) : Bool := match PySem.W.findCls K (.ref C) (.type "type") "__init__" with
  | some (.val (.builtin s)) => s == "ValueError.__init__"
  | _ => false
theorem liB_ok {K : PySem.W.Frag} {C : Addr} (h : liB K C = true) : PySem.W.findCls K (.ref C) (.type "type") "__init__" = some (.val (.builtin "ValueError.__init__")) := by
  unfold liB at h
  split at h
  · rename_i s e
    rw [e, eq_of_beq h]
  · cases h
def exB (K : PySem.W.Frag) : Bool := ownB K (He.ga K "NoSuch") && (decide (PySem.W.findIn K (.ref (He.ga K "NoSuch")) "__setattr__" = some (some (.builtin "object.__setattr__"))) && (decide (PySem.W.typeIn K (.ref (He.ga K "NoSuch")) = some (.type "type")) && (xfB K (He.ga K "NoSuch") &&
  (PySem.W.readsIn K (He.ga K "LaneError") (.type "type") && (decide (PySem.W.specialIn K (.ref (He.ga K "LaneError")) "__getattribute__" = some (some (.builtin "type.__getattribute__"))) && (liB K (He.ga K "LaneError") && PySem.W.keepIn K (.ref (He.ga K "NoSuch"))))))))
theorem exB_ok {K : PySem.W.Frag} (h : exB K = true) : (∃ nm q N bs bm sn sub ab col dd k0 k1 k2 k3 k5, K.lookup (He.ga K "NoSuch") = some (excClassObj nm q (He.ga K "NoSuch") N bs bm true sn sub ab col dd k0 k1 k2 k3 k5 "ValueError.__new__") ∧ PySem.HandSPX.refsVE bm = true) ∧
    PySem.W.findIn K (.ref (He.ga K "NoSuch")) "__setattr__" = some (some (.builtin "object.__setattr__")) ∧ PySem.W.typeIn K (.ref (He.ga K "NoSuch")) = some (.type "type") ∧ XfC K (He.ga K "NoSuch") ∧
    PySem.W.readsIn K (He.ga K "LaneError") (.type "type") = true ∧ PySem.W.specialIn K (.ref (He.ga K "LaneError")) "__getattribute__" = some (some (.builtin "type.__getattribute__")) ∧
    PySem.W.findCls K (.ref (He.ga K "LaneError")) (.type "type") "__init__" = some (.val (.builtin "ValueError.__init__")) ∧ PySem.W.keepIn K (.ref (He.ga K "NoSuch")) = true := by
  obtain ⟨a1, h⟩ := He.ba h
  obtain ⟨a2, h⟩ := He.ba h
  obtain ⟨a3, h⟩ := He.ba h
  obtain ⟨a4, h⟩ := He.ba h
  obtain ⟨a5, h⟩ := He.ba h
  obtain ⟨a6, h⟩ := He.ba h
  obtain ⟨a7, a8⟩ := He.ba h
  exact ⟨ownB_ok a1, of_decide_eq_true a2, of_decide_eq_true a3, xfB_ok a4, a5, of_decide_eq_true a6, liB_ok a7, a8⟩
/-! ### the Hook: the facts, the defs, one Bool more -/
def obB (n : Nat) (fa : List He.Fa) (fn : List He.DefD) (g : Addr → Option Obj) : Bool × He.AlD := (exB (He.frG g (cStatics :: He.asD g n)), He.obsD fa fn (He.frG g (cStatics :: He.asD g n)))
def hookB (n : Nat) (fa : List He.Fa) (fn : List He.DefD) : PySem.W.Hook where
  α := Bool × He.AlD
  obs := fun s => obB n fa fn s.heap.get?
  val := fun _ => (true, He.valD fn)
  says := fun _ h => ∃ K : PySem.W.Frag, K.In h ∧ exB K = true ∧ He.SaysD fa fn K
  of := fun _ _ e => ⟨_, He.frG_in, congrArg (fun z : Bool × He.AlD => z.1) e, congrArg (fun z : Bool × He.AlD => z.2) e⟩
  keeps := fun _ _ _ hK k => hK.elim fun K z => ⟨K, PySem.W.Frag.In.keeps z.1 k, z.2⟩
theorem obB_eq {n : Nat} {fa : List He.Fa} {fn : List He.DefD} {g : Addr → Option Obj} {s : Shared} (h : ∀ a, g a = s.heap.get? a) : obB n fa fn g = (hookB n fa fn).obs s := by
  have e : g = s.heap.get? :=
      funext h
  rw [e]
  rfl
section
variable {K : PySem.W.Frag} {mg : Str → Option Value} {x m q C : Str} {st : Stmt} {f : Addr} {fd : FuncData}
theorem fun_of (F : FunD K x q (defArgs st) (defBody st) (defScope st) [] [] f fd) : Fun K x q st f fd := by
  obtain ⟨oc, od, dV, kV, doc, pm, an, cdv, ct, osl, e, lk, cd, hD, _⟩ := F.ex
  rcases hD with ⟨_, z⟩ | ⟨z, _⟩
  · subst z
    exact ⟨⟨oc, od, kV, doc, pm, an, cdv, ct, osl, e, lk, cd⟩, F.kp⟩
  · exact absurd rfl z
theorem gf_of (F : ∃ fd, FunD K x x (defArgs st) (defBody st) (defScope st) [] [] (He.fAd K (x, none)) fd) (hg : mg x = some (.ref (He.ga K x))) : GF K mg x st := by
  obtain ⟨fd, F⟩ := F
  exact ⟨_, fd, fun_of F, hg⟩
theorem mf_of (F : ∃ fd, FunD K m q (defArgs st) (defBody st) (defScope st) [] [] (He.fAd K (C, some m)) fd) (hm : Meth K (He.ga K C) m (He.ma K (He.ga K C) m)) : MF K (He.ga K C) m q st := by
  obtain ⟨fd, F⟩ := F
  exact ⟨_, fd, fun_of F, hm⟩
theorem kf_of (F : ∃ fd, FunD K "__init__" q (defArgs st) (defBody st) (defScope st) [] [] (He.fAd K (C, some "__init__")) fd) (hm : Mk K (He.ga K C) (He.ma K (He.ga K C) "__init__")) (hg : mg C = some (.ref (He.ga K C))) (hc : Cls K (He.ga K C)) : KF K mg C (He.ga K C) q st := by
  obtain ⟨fd, F⟩ := F
  exact ⟨⟨_, fd, fun_of F, hm⟩, hg, hc⟩
end
def fa : List He.Fa := [
  .glo "is_whole",
  .glo "is_value",
  .glo "is_name",
  .glo "is_kind",
  .glo "made_as",
  .glo "part_made",
  .glo "need_name",
  .glo "need_room",
  .glo "_law_cell",
  .glo "_law_mix",
  .glo "_law_value",
  .glo "_law_word",
  .glo "_law_lane",
  .glo "_law_part",
  .glo "_law_pick",
  .glo "_law_two",
  .glo "_law_loop",
  .glo "_law_step",
  .glo "_law_closed",
  .glo "_law_net",
  .glo "_law_told",
  .glo "_law_ends",
  .glo "_law_missing",
  .glo "_law_lanes_good",
  .glo "_law_parts_good",
  .glo "_law_good",
  .glo "law",
  .meth "Net" "put_in",
  .meth "Net" "lay_hold",
  .meth "Net" "joined",
  .meth "Net" "lane_names",
  .meth "Net" "part_names",
  .meth "Net" "need_lane",
  .meth "Net" "room_of",
  .meth "Net" "first_of",
  .meth "Net" "giver_of",
  .meth "Net" "taker_of",
  .meth "Net" "part_of",
  .meth "Net" "of_kinds",
  .meth "Net" "gives",
  .meth "Net" "takes",
  .meth "Net" "odd",
  .meth "Net" "told",
  .free "len",
  .free "isinstance",
  .free "int",
  .free "bool",
  .free "str",
  .free "tuple",
  .free "list",
  .free "range",
  .free "max",
  .int "VALUES" 1000000000,
  .int "MOST_LANES" 24,
  .int "MOST_PARTS" 16,
  .int "MOST_ROOM" 199,
  .str "LETTERS" lettersS,
  .str "FIGURES" figuresS,
  .cls "Net",
  .noat "Net" "rooms",
  .noat "Net" "firsts",
  .noat "Net" "givers",
  .noat "Net" "takers",
  .noat "Net" "members",
  .mkr "Net",
  .glo "Net",
  .cls "Give",
  .noat "Give" "name",
  .noat "Give" "numbers",
  .noat "Give" "ins",
  .noat "Give" "outs",
  .cls "Take",
  .noat "Take" "name",
  .noat "Take" "numbers",
  .noat "Take" "ins",
  .noat "Take" "outs",
  .cls "Pass",
  .noat "Pass" "name",
  .noat "Pass" "numbers",
  .noat "Pass" "ins",
  .noat "Pass" "outs",
  .cls "Copy",
  .noat "Copy" "name",
  .noat "Copy" "numbers",
  .noat "Copy" "ins",
  .noat "Copy" "outs",
  .cls "Turn",
  .noat "Turn" "name",
  .noat "Turn" "numbers",
  .noat "Turn" "ins",
  .noat "Turn" "outs",
  .cls "Heap",
  .noat "Heap" "name",
  .noat "Heap" "numbers",
  .noat "Heap" "ins",
  .noat "Heap" "outs",
  .cls "Add",
  .noat "Add" "name",
  .noat "Add" "numbers",
  .noat "Add" "ins",
  .noat "Add" "outs",
  .cls "Less",
  .noat "Less" "name",
  .noat "Less" "numbers",
  .noat "Less" "ins",
  .noat "Less" "outs",
  .cls "Order",
  .noat "Order" "name",
  .noat "Order" "numbers",
  .noat "Order" "ins",
  .noat "Order" "outs",
  .cls "Choose",
  .noat "Choose" "name",
  .noat "Choose" "numbers",
  .noat "Choose" "ins",
  .noat "Choose" "outs",
  .cls "Split",
  .noat "Split" "name",
  .noat "Split" "numbers",
  .noat "Split" "ins",
  .noat "Split" "outs",
  .mkr "Give",
  .glo "Give",
  .mkr "Take",
  .glo "Take",
  .mkr "Pass",
  .glo "Pass",
  .mkr "Copy",
  .glo "Copy",
  .mkr "Turn",
  .glo "Turn",
  .mkr "Heap",
  .glo "Heap",
  .mkr "Add",
  .glo "Add",
  .mkr "Less",
  .glo "Less",
  .mkr "Order",
  .glo "Order",
  .mkr "Choose",
  .glo "Choose",
  .mkr "Split",
  .glo "Split",
  .meth "Give" "kind",
  .meth "Take" "kind",
  .meth "Pass" "kind",
  .meth "Copy" "kind",
  .meth "Turn" "kind",
  .meth "Heap" "kind",
  .meth "Add" "kind",
  .meth "Less" "kind",
  .meth "Order" "kind",
  .meth "Choose" "kind",
  .meth "Split" "kind",
  .meth "Give" "wants",
  .meth "Take" "wants",
  .meth "Pass" "wants",
  .meth "Copy" "wants",
  .meth "Turn" "wants",
  .meth "Heap" "wants",
  .meth "Add" "wants",
  .meth "Less" "wants",
  .meth "Order" "wants",
  .meth "Choose" "wants",
  .meth "Split" "wants",
  .meth "NoSuch" "__init__",
  .glo "NoSuch",
  .noat "NoSuch" "name",
  .exm "NoSuch" "NoSuch" true,
  .glo "LaneError"]
def fn : List He.DefD := [
  ⟨("is_whole", none), "is_whole", "is_whole", defArgs (sWhole), defBody (sWhole), defScope (sWhole), [], []⟩,
  ⟨("is_value", none), "is_value", "is_value", defArgs (sVal), defBody (sVal), defScope (sVal), [], []⟩,
  ⟨("is_name", none), "is_name", "is_name", defArgs (sName), defBody (sName), defScope (sName), [], []⟩,
  ⟨("is_kind", none), "is_kind", "is_kind", defArgs (sIsKind), defBody (sIsKind), defScope (sIsKind), [], []⟩,
  ⟨("made_as", none), "made_as", "made_as", defArgs (sMadeAs), defBody (sMadeAs), defScope (sMadeAs), [], []⟩,
  ⟨("part_made", none), "part_made", "part_made", defArgs (sPartMade), defBody (sPartMade), defScope (sPartMade), [], []⟩,
  ⟨("need_name", none), "need_name", "need_name", defArgs (sNeedName), defBody (sNeedName), defScope (sNeedName), [], []⟩,
  ⟨("need_room", none), "need_room", "need_room", defArgs (sNeedRoom), defBody (sNeedRoom), defScope (sNeedRoom), [], []⟩,
  ⟨("_law_cell", none), "_law_cell", "_law_cell", defArgs (sCell), defBody (sCell), defScope (sCell), [], []⟩,
  ⟨("_law_mix", none), "_law_mix", "_law_mix", defArgs (sMix), defBody (sMix), defScope (sMix), [], []⟩,
  ⟨("_law_value", none), "_law_value", "_law_value", defArgs (sValue), defBody (sValue), defScope (sValue), [], []⟩,
  ⟨("_law_word", none), "_law_word", "_law_word", defArgs (sWord), defBody (sWord), defScope (sWord), [], []⟩,
  ⟨("_law_lane", none), "_law_lane", "_law_lane", defArgs (sLane), defBody (sLane), defScope (sLane), [], []⟩,
  ⟨("_law_part", none), "_law_part", "_law_part", defArgs (sPart), defBody (sPart), defScope (sPart), [], []⟩,
  ⟨("_law_pick", none), "_law_pick", "_law_pick", defArgs (sPick), defBody (sPick), defScope (sPick), [], []⟩,
  ⟨("_law_two", none), "_law_two", "_law_two", defArgs (sTwo), defBody (sTwo), defScope (sTwo), [], []⟩,
  ⟨("_law_loop", none), "_law_loop", "_law_loop", defArgs (sLoop), defBody (sLoop), defScope (sLoop), [], []⟩,
  ⟨("_law_step", none), "_law_step", "_law_step", defArgs (sStep), defBody (sStep), defScope (sStep), [], []⟩,
  ⟨("_law_closed", none), "_law_closed", "_law_closed", defArgs (sClosed), defBody (sClosed), defScope (sClosed), [], []⟩,
  ⟨("_law_net", none), "_law_net", "_law_net", defArgs (sNet), defBody (sNet), defScope (sNet), [], []⟩,
  ⟨("_law_told", none), "_law_told", "_law_told", defArgs (sLTold), defBody (sLTold), defScope (sLTold), [], []⟩,
  ⟨("_law_ends", none), "_law_ends", "_law_ends", defArgs (sEnds), defBody (sEnds), defScope (sEnds), [], []⟩,
  ⟨("_law_missing", none), "_law_missing", "_law_missing", defArgs (sMissing), defBody (sMissing), defScope (sMissing), [], []⟩,
  ⟨("_law_lanes_good", none), "_law_lanes_good", "_law_lanes_good", defArgs (sLanesGood), defBody (sLanesGood), defScope (sLanesGood), [], []⟩,
  ⟨("_law_parts_good", none), "_law_parts_good", "_law_parts_good", defArgs (sPartsGood), defBody (sPartsGood), defScope (sPartsGood), [], []⟩,
  ⟨("_law_good", none), "_law_good", "_law_good", defArgs (sGood), defBody (sGood), defScope (sGood), [], []⟩,
  ⟨("law", none), "law", "law", defArgs (sLaw), defBody (sLaw), defScope (sLaw), [], []⟩,
  ⟨("Net", some "put_in"), "put_in", "Net.put_in", defArgs (sPutIn), defBody (sPutIn), defScope (sPutIn), [], []⟩,
  ⟨("Net", some "lay_hold"), "lay_hold", "Net.lay_hold", defArgs (sLayHold), defBody (sLayHold), defScope (sLayHold), [], []⟩,
  ⟨("Net", some "joined"), "joined", "Net.joined", defArgs (sJoined), defBody (sJoined), defScope (sJoined), [], []⟩,
  ⟨("Net", some "lane_names"), "lane_names", "Net.lane_names", defArgs (sLaneNames), defBody (sLaneNames), defScope (sLaneNames), [], []⟩,
  ⟨("Net", some "part_names"), "part_names", "Net.part_names", defArgs (sPartNames), defBody (sPartNames), defScope (sPartNames), [], []⟩,
  ⟨("Net", some "need_lane"), "need_lane", "Net.need_lane", defArgs (sNeedLane), defBody (sNeedLane), defScope (sNeedLane), [], []⟩,
  ⟨("Net", some "room_of"), "room_of", "Net.room_of", defArgs (sRoomOf), defBody (sRoomOf), defScope (sRoomOf), [], []⟩,
  ⟨("Net", some "first_of"), "first_of", "Net.first_of", defArgs (sFirstOf), defBody (sFirstOf), defScope (sFirstOf), [], []⟩,
  ⟨("Net", some "giver_of"), "giver_of", "Net.giver_of", defArgs (sGiverOf), defBody (sGiverOf), defScope (sGiverOf), [], []⟩,
  ⟨("Net", some "taker_of"), "taker_of", "Net.taker_of", defArgs (sTakerOf), defBody (sTakerOf), defScope (sTakerOf), [], []⟩,
  ⟨("Net", some "part_of"), "part_of", "Net.part_of", defArgs (sPartOf), defBody (sPartOf), defScope (sPartOf), [], []⟩,
  ⟨("Net", some "of_kinds"), "of_kinds", "Net.of_kinds", defArgs (sOfKinds), defBody (sOfKinds), defScope (sOfKinds), [], []⟩,
  ⟨("Net", some "gives"), "gives", "Net.gives", defArgs (sGives), defBody (sGives), defScope (sGives), [], []⟩,
  ⟨("Net", some "takes"), "takes", "Net.takes", defArgs (sTakes), defBody (sTakes), defScope (sTakes), [], []⟩,
  ⟨("Net", some "odd"), "odd", "Net.odd", defArgs (sOdd), defBody (sOdd), defScope (sOdd), [], []⟩,
  ⟨("Net", some "told"), "told", "Net.told", defArgs (sTold), defBody (sTold), defScope (sTold), [], []⟩,
  ⟨("Net", some "__init__"), "__init__", "Net.__init__", defArgs (sNInit), defBody (sNInit), defScope (sNInit), [], []⟩,
  ⟨("Give", some "__init__"), "__init__", "Part.__init__", defArgs (sPInit), defBody (sPInit), defScope (sPInit), [], []⟩,
  ⟨("Take", some "__init__"), "__init__", "Part.__init__", defArgs (sPInit), defBody (sPInit), defScope (sPInit), [], []⟩,
  ⟨("Pass", some "__init__"), "__init__", "Part.__init__", defArgs (sPInit), defBody (sPInit), defScope (sPInit), [], []⟩,
  ⟨("Copy", some "__init__"), "__init__", "Part.__init__", defArgs (sPInit), defBody (sPInit), defScope (sPInit), [], []⟩,
  ⟨("Turn", some "__init__"), "__init__", "Part.__init__", defArgs (sPInit), defBody (sPInit), defScope (sPInit), [], []⟩,
  ⟨("Heap", some "__init__"), "__init__", "Part.__init__", defArgs (sPInit), defBody (sPInit), defScope (sPInit), [], []⟩,
  ⟨("Add", some "__init__"), "__init__", "Part.__init__", defArgs (sPInit), defBody (sPInit), defScope (sPInit), [], []⟩,
  ⟨("Less", some "__init__"), "__init__", "Part.__init__", defArgs (sPInit), defBody (sPInit), defScope (sPInit), [], []⟩,
  ⟨("Order", some "__init__"), "__init__", "Part.__init__", defArgs (sPInit), defBody (sPInit), defScope (sPInit), [], []⟩,
  ⟨("Choose", some "__init__"), "__init__", "Part.__init__", defArgs (sPInit), defBody (sPInit), defScope (sPInit), [], []⟩,
  ⟨("Split", some "__init__"), "__init__", "Part.__init__", defArgs (sPInit), defBody (sPInit), defScope (sPInit), [], []⟩,
  ⟨("Give", some "kind"), "kind", "Give.kind", defArgs (Kd.skind .give), defBody (Kd.skind .give), defScope (Kd.skind .give), [], []⟩,
  ⟨("Take", some "kind"), "kind", "Take.kind", defArgs (Kd.skind .take), defBody (Kd.skind .take), defScope (Kd.skind .take), [], []⟩,
  ⟨("Pass", some "kind"), "kind", "Pass.kind", defArgs (Kd.skind .pass), defBody (Kd.skind .pass), defScope (Kd.skind .pass), [], []⟩,
  ⟨("Copy", some "kind"), "kind", "Copy.kind", defArgs (Kd.skind .copy), defBody (Kd.skind .copy), defScope (Kd.skind .copy), [], []⟩,
  ⟨("Turn", some "kind"), "kind", "Turn.kind", defArgs (Kd.skind .turn), defBody (Kd.skind .turn), defScope (Kd.skind .turn), [], []⟩,
  ⟨("Heap", some "kind"), "kind", "Heap.kind", defArgs (Kd.skind .heap), defBody (Kd.skind .heap), defScope (Kd.skind .heap), [], []⟩,
  ⟨("Add", some "kind"), "kind", "Add.kind", defArgs (Kd.skind .add), defBody (Kd.skind .add), defScope (Kd.skind .add), [], []⟩,
  ⟨("Less", some "kind"), "kind", "Less.kind", defArgs (Kd.skind .less), defBody (Kd.skind .less), defScope (Kd.skind .less), [], []⟩,
  ⟨("Order", some "kind"), "kind", "Order.kind", defArgs (Kd.skind .order), defBody (Kd.skind .order), defScope (Kd.skind .order), [], []⟩,
  ⟨("Choose", some "kind"), "kind", "Choose.kind", defArgs (Kd.skind .choose), defBody (Kd.skind .choose), defScope (Kd.skind .choose), [], []⟩,
  ⟨("Split", some "kind"), "kind", "Split.kind", defArgs (Kd.skind .split), defBody (Kd.skind .split), defScope (Kd.skind .split), [], []⟩,
  ⟨("Give", some "wants"), "wants", "Give.wants", defArgs (Kd.swants .give), defBody (Kd.swants .give), defScope (Kd.swants .give), [], []⟩,
  ⟨("Take", some "wants"), "wants", "Take.wants", defArgs (Kd.swants .take), defBody (Kd.swants .take), defScope (Kd.swants .take), [], []⟩,
  ⟨("Pass", some "wants"), "wants", "Part.wants", defArgs (Kd.swants .pass), defBody (Kd.swants .pass), defScope (Kd.swants .pass), [], []⟩,
  ⟨("Copy", some "wants"), "wants", "Copy.wants", defArgs (Kd.swants .copy), defBody (Kd.swants .copy), defScope (Kd.swants .copy), [], []⟩,
  ⟨("Turn", some "wants"), "wants", "Turn.wants", defArgs (Kd.swants .turn), defBody (Kd.swants .turn), defScope (Kd.swants .turn), [], []⟩,
  ⟨("Heap", some "wants"), "wants", "Heap.wants", defArgs (Kd.swants .heap), defBody (Kd.swants .heap), defScope (Kd.swants .heap), [], []⟩,
  ⟨("Add", some "wants"), "wants", "Add.wants", defArgs (Kd.swants .add), defBody (Kd.swants .add), defScope (Kd.swants .add), [], []⟩,
  ⟨("Less", some "wants"), "wants", "Less.wants", defArgs (Kd.swants .less), defBody (Kd.swants .less), defScope (Kd.swants .less), [], []⟩,
  ⟨("Order", some "wants"), "wants", "Order.wants", defArgs (Kd.swants .order), defBody (Kd.swants .order), defScope (Kd.swants .order), [], []⟩,
  ⟨("Choose", some "wants"), "wants", "Choose.wants", defArgs (Kd.swants .choose), defBody (Kd.swants .choose), defScope (Kd.swants .choose), [], []⟩,
  ⟨("Split", some "wants"), "wants", "Split.wants", defArgs (Kd.swants .split), defBody (Kd.swants .split), defScope (Kd.swants .split), [], []⟩,
  ⟨("NoSuch", some "__init__"), "__init__", "NoSuch.__init__", defArgs (sNSInit), defBody (sNSInit), defScope (sNSInit), [], []⟩]
theorem law_all {P : Program} {w : World} {K : PySem.W.Frag} {h base : Heap} {mg : Str → Option Value} (X : K.In h) (G : h.Ns mainGlobals mg) (ce : exB K = true) (c : He.SaysD fa fn K) : Body0 P w K mg base ["_law_script","_law_steps","_law_lanes","_law_parts","_law_lane_here","_law_handed","_law_one","_law_known","_law_some","_law_others","_law_net_here","_law_strange","_law_way"] "law" sLaw 7 (spLaw K) := by
  have gWhole : GF K mg "is_whole" sWhole := gf_of (c.def_ 0 rfl) (He.glo_ok X G (c.fact 0 (f := .glo "is_whole") rfl))
  have gVal : GF K mg "is_value" sVal := gf_of (c.def_ 1 rfl) (He.glo_ok X G (c.fact 1 (f := .glo "is_value") rfl))
  have gName : GF K mg "is_name" sName := gf_of (c.def_ 2 rfl) (He.glo_ok X G (c.fact 2 (f := .glo "is_name") rfl))
  have gIsKind : GF K mg "is_kind" sIsKind := gf_of (c.def_ 3 rfl) (He.glo_ok X G (c.fact 3 (f := .glo "is_kind") rfl))
  have gMadeAs : GF K mg "made_as" sMadeAs := gf_of (c.def_ 4 rfl) (He.glo_ok X G (c.fact 4 (f := .glo "made_as") rfl))
  have gPartMade : GF K mg "part_made" sPartMade := gf_of (c.def_ 5 rfl) (He.glo_ok X G (c.fact 5 (f := .glo "part_made") rfl))
  have gNeedName : GF K mg "need_name" sNeedName := gf_of (c.def_ 6 rfl) (He.glo_ok X G (c.fact 6 (f := .glo "need_name") rfl))
  have gNeedRoom : GF K mg "need_room" sNeedRoom := gf_of (c.def_ 7 rfl) (He.glo_ok X G (c.fact 7 (f := .glo "need_room") rfl))
  have gCell : GF K mg "_law_cell" sCell := gf_of (c.def_ 8 rfl) (He.glo_ok X G (c.fact 8 (f := .glo "_law_cell") rfl))
  have gMix : GF K mg "_law_mix" sMix := gf_of (c.def_ 9 rfl) (He.glo_ok X G (c.fact 9 (f := .glo "_law_mix") rfl))
  have gValue : GF K mg "_law_value" sValue := gf_of (c.def_ 10 rfl) (He.glo_ok X G (c.fact 10 (f := .glo "_law_value") rfl))
  have gWord : GF K mg "_law_word" sWord := gf_of (c.def_ 11 rfl) (He.glo_ok X G (c.fact 11 (f := .glo "_law_word") rfl))
  have gLane : GF K mg "_law_lane" sLane := gf_of (c.def_ 12 rfl) (He.glo_ok X G (c.fact 12 (f := .glo "_law_lane") rfl))
  have gPart : GF K mg "_law_part" sPart := gf_of (c.def_ 13 rfl) (He.glo_ok X G (c.fact 13 (f := .glo "_law_part") rfl))
  have gPick : GF K mg "_law_pick" sPick := gf_of (c.def_ 14 rfl) (He.glo_ok X G (c.fact 14 (f := .glo "_law_pick") rfl))
  have gTwo : GF K mg "_law_two" sTwo := gf_of (c.def_ 15 rfl) (He.glo_ok X G (c.fact 15 (f := .glo "_law_two") rfl))
  have gLoop : GF K mg "_law_loop" sLoop := gf_of (c.def_ 16 rfl) (He.glo_ok X G (c.fact 16 (f := .glo "_law_loop") rfl))
  have gStep : GF K mg "_law_step" sStep := gf_of (c.def_ 17 rfl) (He.glo_ok X G (c.fact 17 (f := .glo "_law_step") rfl))
  have gClosed : GF K mg "_law_closed" sClosed := gf_of (c.def_ 18 rfl) (He.glo_ok X G (c.fact 18 (f := .glo "_law_closed") rfl))
  have gNet : GF K mg "_law_net" sNet := gf_of (c.def_ 19 rfl) (He.glo_ok X G (c.fact 19 (f := .glo "_law_net") rfl))
  have gLTold : GF K mg "_law_told" sLTold := gf_of (c.def_ 20 rfl) (He.glo_ok X G (c.fact 20 (f := .glo "_law_told") rfl))
  have gEnds : GF K mg "_law_ends" sEnds := gf_of (c.def_ 21 rfl) (He.glo_ok X G (c.fact 21 (f := .glo "_law_ends") rfl))
  have gMissing : GF K mg "_law_missing" sMissing := gf_of (c.def_ 22 rfl) (He.glo_ok X G (c.fact 22 (f := .glo "_law_missing") rfl))
  have gLanesGood : GF K mg "_law_lanes_good" sLanesGood := gf_of (c.def_ 23 rfl) (He.glo_ok X G (c.fact 23 (f := .glo "_law_lanes_good") rfl))
  have gPartsGood : GF K mg "_law_parts_good" sPartsGood := gf_of (c.def_ 24 rfl) (He.glo_ok X G (c.fact 24 (f := .glo "_law_parts_good") rfl))
  have gGood : GF K mg "_law_good" sGood := gf_of (c.def_ 25 rfl) (He.glo_ok X G (c.fact 25 (f := .glo "_law_good") rfl))
  have gLaw : GF K mg "law" sLaw := gf_of (c.def_ 26 rfl) (He.glo_ok X G (c.fact 26 (f := .glo "law") rfl))
  have mPutIn : MF K (He.ga K "Net") "put_in" "Net.put_in" sPutIn := mf_of (C := "Net") (c.def_ 27 rfl) (He.meth_ok (c.fact 27 (f := .meth "Net" "put_in") rfl))
  have mLayHold : MF K (He.ga K "Net") "lay_hold" "Net.lay_hold" sLayHold := mf_of (C := "Net") (c.def_ 28 rfl) (He.meth_ok (c.fact 28 (f := .meth "Net" "lay_hold") rfl))
  have mJoined : MF K (He.ga K "Net") "joined" "Net.joined" sJoined := mf_of (C := "Net") (c.def_ 29 rfl) (He.meth_ok (c.fact 29 (f := .meth "Net" "joined") rfl))
  have mLaneNames : MF K (He.ga K "Net") "lane_names" "Net.lane_names" sLaneNames := mf_of (C := "Net") (c.def_ 30 rfl) (He.meth_ok (c.fact 30 (f := .meth "Net" "lane_names") rfl))
  have mPartNames : MF K (He.ga K "Net") "part_names" "Net.part_names" sPartNames := mf_of (C := "Net") (c.def_ 31 rfl) (He.meth_ok (c.fact 31 (f := .meth "Net" "part_names") rfl))
  have mNeedLane : MF K (He.ga K "Net") "need_lane" "Net.need_lane" sNeedLane := mf_of (C := "Net") (c.def_ 32 rfl) (He.meth_ok (c.fact 32 (f := .meth "Net" "need_lane") rfl))
  have mRoomOf : MF K (He.ga K "Net") "room_of" "Net.room_of" sRoomOf := mf_of (C := "Net") (c.def_ 33 rfl) (He.meth_ok (c.fact 33 (f := .meth "Net" "room_of") rfl))
  have mFirstOf : MF K (He.ga K "Net") "first_of" "Net.first_of" sFirstOf := mf_of (C := "Net") (c.def_ 34 rfl) (He.meth_ok (c.fact 34 (f := .meth "Net" "first_of") rfl))
  have mGiverOf : MF K (He.ga K "Net") "giver_of" "Net.giver_of" sGiverOf := mf_of (C := "Net") (c.def_ 35 rfl) (He.meth_ok (c.fact 35 (f := .meth "Net" "giver_of") rfl))
  have mTakerOf : MF K (He.ga K "Net") "taker_of" "Net.taker_of" sTakerOf := mf_of (C := "Net") (c.def_ 36 rfl) (He.meth_ok (c.fact 36 (f := .meth "Net" "taker_of") rfl))
  have mPartOf : MF K (He.ga K "Net") "part_of" "Net.part_of" sPartOf := mf_of (C := "Net") (c.def_ 37 rfl) (He.meth_ok (c.fact 37 (f := .meth "Net" "part_of") rfl))
  have mOfKinds : MF K (He.ga K "Net") "of_kinds" "Net.of_kinds" sOfKinds := mf_of (C := "Net") (c.def_ 38 rfl) (He.meth_ok (c.fact 38 (f := .meth "Net" "of_kinds") rfl))
  have mGives : MF K (He.ga K "Net") "gives" "Net.gives" sGives := mf_of (C := "Net") (c.def_ 39 rfl) (He.meth_ok (c.fact 39 (f := .meth "Net" "gives") rfl))
  have mTakes : MF K (He.ga K "Net") "takes" "Net.takes" sTakes := mf_of (C := "Net") (c.def_ 40 rfl) (He.meth_ok (c.fact 40 (f := .meth "Net" "takes") rfl))
  have mOdd : MF K (He.ga K "Net") "odd" "Net.odd" sOdd := mf_of (C := "Net") (c.def_ 41 rfl) (He.meth_ok (c.fact 41 (f := .meth "Net" "odd") rfl))
  have mTold : MF K (He.ga K "Net") "told" "Net.told" sTold := mf_of (C := "Net") (c.def_ 42 rfl) (He.meth_ok (c.fact 42 (f := .meth "Net" "told") rfl))
  have hlen : mg "len" = none := He.free_ok X G (c.fact 43 (f := .free "len") rfl)
  have hisinstance : mg "isinstance" = none := He.free_ok X G (c.fact 44 (f := .free "isinstance") rfl)
  have hint : mg "int" = none := He.free_ok X G (c.fact 45 (f := .free "int") rfl)
  have hbool : mg "bool" = none := He.free_ok X G (c.fact 46 (f := .free "bool") rfl)
  have hstr : mg "str" = none := He.free_ok X G (c.fact 47 (f := .free "str") rfl)
  have htuple : mg "tuple" = none := He.free_ok X G (c.fact 48 (f := .free "tuple") rfl)
  have hlist : mg "list" = none := He.free_ok X G (c.fact 49 (f := .free "list") rfl)
  have hrange : mg "range" = none := He.free_ok X G (c.fact 50 (f := .free "range") rfl)
  have hmax : mg "max" = none := He.free_ok X G (c.fact 51 (f := .free "max") rfl)
  have vVALUES : ∃ t, mg "VALUES" = some (.int 1000000000 t) := He.int_ok X G (c.fact 52 (f := .int "VALUES" 1000000000) rfl)
  have vMOST_LANES : ∃ t, mg "MOST_LANES" = some (.int 24 t) := He.int_ok X G (c.fact 53 (f := .int "MOST_LANES" 24) rfl)
  have vMOST_PARTS : ∃ t, mg "MOST_PARTS" = some (.int 16 t) := He.int_ok X G (c.fact 54 (f := .int "MOST_PARTS" 16) rfl)
  have vMOST_ROOM : ∃ t, mg "MOST_ROOM" = some (.int 199 t) := He.int_ok X G (c.fact 55 (f := .int "MOST_ROOM" 199) rfl)
  have vLETTERS : ∃ t, mg "LETTERS" = some (.str lettersS t) := He.str_ok X G (c.fact 56 (f := .str "LETTERS" lettersS) rfl)
  have vFIGURES : ∃ t, mg "FIGURES" = some (.str figuresS t) := He.str_ok X G (c.fact 57 (f := .str "FIGURES" figuresS) rfl)
  have T : NCls K mg (He.ga K "Net") := ⟨He.cls_ok (c.fact 58 (f := .cls "Net") rfl), He.noat_ok (c.fact 59 (f := .noat "Net" "rooms") rfl), He.noat_ok (c.fact 60 (f := .noat "Net" "firsts") rfl), He.noat_ok (c.fact 61 (f := .noat "Net" "givers") rfl), He.noat_ok (c.fact 62 (f := .noat "Net" "takers") rfl), He.noat_ok (c.fact 63 (f := .noat "Net" "members") rfl), kf_of (C := "Net") (c.def_ 43 rfl) (He.mkr_ok (c.fact 64 (f := .mkr "Net") rfl)) (He.glo_ok X G (c.fact 65 (f := .glo "Net") rfl)) (He.cls_ok (c.fact 58 (f := .cls "Net") rfl))⟩
  have TK : KFacts K mg (fun kd : Kd => He.ga K kd.cname) := by
    refine ⟨fun kd => ?_, fun kd => ?_, fun kd => ?_, fun kd => ?_⟩ <;> cases kd
    · exact ⟨He.cls_ok (c.fact 66 (f := .cls "Give") rfl), He.noat_ok (c.fact 67 (f := .noat "Give" "name") rfl), He.noat_ok (c.fact 68 (f := .noat "Give" "numbers") rfl), He.noat_ok (c.fact 69 (f := .noat "Give" "ins") rfl), He.noat_ok (c.fact 70 (f := .noat "Give" "outs") rfl)⟩
    · exact ⟨He.cls_ok (c.fact 71 (f := .cls "Take") rfl), He.noat_ok (c.fact 72 (f := .noat "Take" "name") rfl), He.noat_ok (c.fact 73 (f := .noat "Take" "numbers") rfl), He.noat_ok (c.fact 74 (f := .noat "Take" "ins") rfl), He.noat_ok (c.fact 75 (f := .noat "Take" "outs") rfl)⟩
    · exact ⟨He.cls_ok (c.fact 76 (f := .cls "Pass") rfl), He.noat_ok (c.fact 77 (f := .noat "Pass" "name") rfl), He.noat_ok (c.fact 78 (f := .noat "Pass" "numbers") rfl), He.noat_ok (c.fact 79 (f := .noat "Pass" "ins") rfl), He.noat_ok (c.fact 80 (f := .noat "Pass" "outs") rfl)⟩
    · exact ⟨He.cls_ok (c.fact 81 (f := .cls "Copy") rfl), He.noat_ok (c.fact 82 (f := .noat "Copy" "name") rfl), He.noat_ok (c.fact 83 (f := .noat "Copy" "numbers") rfl), He.noat_ok (c.fact 84 (f := .noat "Copy" "ins") rfl), He.noat_ok (c.fact 85 (f := .noat "Copy" "outs") rfl)⟩
    · exact ⟨He.cls_ok (c.fact 86 (f := .cls "Turn") rfl), He.noat_ok (c.fact 87 (f := .noat "Turn" "name") rfl), He.noat_ok (c.fact 88 (f := .noat "Turn" "numbers") rfl), He.noat_ok (c.fact 89 (f := .noat "Turn" "ins") rfl), He.noat_ok (c.fact 90 (f := .noat "Turn" "outs") rfl)⟩
    · exact ⟨He.cls_ok (c.fact 91 (f := .cls "Heap") rfl), He.noat_ok (c.fact 92 (f := .noat "Heap" "name") rfl), He.noat_ok (c.fact 93 (f := .noat "Heap" "numbers") rfl), He.noat_ok (c.fact 94 (f := .noat "Heap" "ins") rfl), He.noat_ok (c.fact 95 (f := .noat "Heap" "outs") rfl)⟩
    · exact ⟨He.cls_ok (c.fact 96 (f := .cls "Add") rfl), He.noat_ok (c.fact 97 (f := .noat "Add" "name") rfl), He.noat_ok (c.fact 98 (f := .noat "Add" "numbers") rfl), He.noat_ok (c.fact 99 (f := .noat "Add" "ins") rfl), He.noat_ok (c.fact 100 (f := .noat "Add" "outs") rfl)⟩
    · exact ⟨He.cls_ok (c.fact 101 (f := .cls "Less") rfl), He.noat_ok (c.fact 102 (f := .noat "Less" "name") rfl), He.noat_ok (c.fact 103 (f := .noat "Less" "numbers") rfl), He.noat_ok (c.fact 104 (f := .noat "Less" "ins") rfl), He.noat_ok (c.fact 105 (f := .noat "Less" "outs") rfl)⟩
    · exact ⟨He.cls_ok (c.fact 106 (f := .cls "Order") rfl), He.noat_ok (c.fact 107 (f := .noat "Order" "name") rfl), He.noat_ok (c.fact 108 (f := .noat "Order" "numbers") rfl), He.noat_ok (c.fact 109 (f := .noat "Order" "ins") rfl), He.noat_ok (c.fact 110 (f := .noat "Order" "outs") rfl)⟩
    · exact ⟨He.cls_ok (c.fact 111 (f := .cls "Choose") rfl), He.noat_ok (c.fact 112 (f := .noat "Choose" "name") rfl), He.noat_ok (c.fact 113 (f := .noat "Choose" "numbers") rfl), He.noat_ok (c.fact 114 (f := .noat "Choose" "ins") rfl), He.noat_ok (c.fact 115 (f := .noat "Choose" "outs") rfl)⟩
    · exact ⟨He.cls_ok (c.fact 116 (f := .cls "Split") rfl), He.noat_ok (c.fact 117 (f := .noat "Split" "name") rfl), He.noat_ok (c.fact 118 (f := .noat "Split" "numbers") rfl), He.noat_ok (c.fact 119 (f := .noat "Split" "ins") rfl), He.noat_ok (c.fact 120 (f := .noat "Split" "outs") rfl)⟩
    · exact kf_of (C := "Give") (c.def_ 44 rfl) (He.mkr_ok (c.fact 121 (f := .mkr "Give") rfl)) (He.glo_ok X G (c.fact 122 (f := .glo "Give") rfl)) (He.cls_ok (c.fact 66 (f := .cls "Give") rfl))
    · exact kf_of (C := "Take") (c.def_ 45 rfl) (He.mkr_ok (c.fact 123 (f := .mkr "Take") rfl)) (He.glo_ok X G (c.fact 124 (f := .glo "Take") rfl)) (He.cls_ok (c.fact 71 (f := .cls "Take") rfl))
    · exact kf_of (C := "Pass") (c.def_ 46 rfl) (He.mkr_ok (c.fact 125 (f := .mkr "Pass") rfl)) (He.glo_ok X G (c.fact 126 (f := .glo "Pass") rfl)) (He.cls_ok (c.fact 76 (f := .cls "Pass") rfl))
    · exact kf_of (C := "Copy") (c.def_ 47 rfl) (He.mkr_ok (c.fact 127 (f := .mkr "Copy") rfl)) (He.glo_ok X G (c.fact 128 (f := .glo "Copy") rfl)) (He.cls_ok (c.fact 81 (f := .cls "Copy") rfl))
    · exact kf_of (C := "Turn") (c.def_ 48 rfl) (He.mkr_ok (c.fact 129 (f := .mkr "Turn") rfl)) (He.glo_ok X G (c.fact 130 (f := .glo "Turn") rfl)) (He.cls_ok (c.fact 86 (f := .cls "Turn") rfl))
    · exact kf_of (C := "Heap") (c.def_ 49 rfl) (He.mkr_ok (c.fact 131 (f := .mkr "Heap") rfl)) (He.glo_ok X G (c.fact 132 (f := .glo "Heap") rfl)) (He.cls_ok (c.fact 91 (f := .cls "Heap") rfl))
    · exact kf_of (C := "Add") (c.def_ 50 rfl) (He.mkr_ok (c.fact 133 (f := .mkr "Add") rfl)) (He.glo_ok X G (c.fact 134 (f := .glo "Add") rfl)) (He.cls_ok (c.fact 96 (f := .cls "Add") rfl))
    · exact kf_of (C := "Less") (c.def_ 51 rfl) (He.mkr_ok (c.fact 135 (f := .mkr "Less") rfl)) (He.glo_ok X G (c.fact 136 (f := .glo "Less") rfl)) (He.cls_ok (c.fact 101 (f := .cls "Less") rfl))
    · exact kf_of (C := "Order") (c.def_ 52 rfl) (He.mkr_ok (c.fact 137 (f := .mkr "Order") rfl)) (He.glo_ok X G (c.fact 138 (f := .glo "Order") rfl)) (He.cls_ok (c.fact 106 (f := .cls "Order") rfl))
    · exact kf_of (C := "Choose") (c.def_ 53 rfl) (He.mkr_ok (c.fact 139 (f := .mkr "Choose") rfl)) (He.glo_ok X G (c.fact 140 (f := .glo "Choose") rfl)) (He.cls_ok (c.fact 111 (f := .cls "Choose") rfl))
    · exact kf_of (C := "Split") (c.def_ 54 rfl) (He.mkr_ok (c.fact 141 (f := .mkr "Split") rfl)) (He.glo_ok X G (c.fact 142 (f := .glo "Split") rfl)) (He.cls_ok (c.fact 116 (f := .cls "Split") rfl))
    · exact mf_of (C := "Give") (c.def_ 55 rfl) (He.meth_ok (c.fact 143 (f := .meth "Give" "kind") rfl))
    · exact mf_of (C := "Take") (c.def_ 56 rfl) (He.meth_ok (c.fact 144 (f := .meth "Take" "kind") rfl))
    · exact mf_of (C := "Pass") (c.def_ 57 rfl) (He.meth_ok (c.fact 145 (f := .meth "Pass" "kind") rfl))
    · exact mf_of (C := "Copy") (c.def_ 58 rfl) (He.meth_ok (c.fact 146 (f := .meth "Copy" "kind") rfl))
    · exact mf_of (C := "Turn") (c.def_ 59 rfl) (He.meth_ok (c.fact 147 (f := .meth "Turn" "kind") rfl))
    · exact mf_of (C := "Heap") (c.def_ 60 rfl) (He.meth_ok (c.fact 148 (f := .meth "Heap" "kind") rfl))
    · exact mf_of (C := "Add") (c.def_ 61 rfl) (He.meth_ok (c.fact 149 (f := .meth "Add" "kind") rfl))
    · exact mf_of (C := "Less") (c.def_ 62 rfl) (He.meth_ok (c.fact 150 (f := .meth "Less" "kind") rfl))
    · exact mf_of (C := "Order") (c.def_ 63 rfl) (He.meth_ok (c.fact 151 (f := .meth "Order" "kind") rfl))
    · exact mf_of (C := "Choose") (c.def_ 64 rfl) (He.meth_ok (c.fact 152 (f := .meth "Choose" "kind") rfl))
    · exact mf_of (C := "Split") (c.def_ 65 rfl) (He.meth_ok (c.fact 153 (f := .meth "Split" "kind") rfl))
    · exact mf_of (C := "Give") (c.def_ 66 rfl) (He.meth_ok (c.fact 154 (f := .meth "Give" "wants") rfl))
    · exact mf_of (C := "Take") (c.def_ 67 rfl) (He.meth_ok (c.fact 155 (f := .meth "Take" "wants") rfl))
    · exact mf_of (C := "Pass") (c.def_ 68 rfl) (He.meth_ok (c.fact 156 (f := .meth "Pass" "wants") rfl))
    · exact mf_of (C := "Copy") (c.def_ 69 rfl) (He.meth_ok (c.fact 157 (f := .meth "Copy" "wants") rfl))
    · exact mf_of (C := "Turn") (c.def_ 70 rfl) (He.meth_ok (c.fact 158 (f := .meth "Turn" "wants") rfl))
    · exact mf_of (C := "Heap") (c.def_ 71 rfl) (He.meth_ok (c.fact 159 (f := .meth "Heap" "wants") rfl))
    · exact mf_of (C := "Add") (c.def_ 72 rfl) (He.meth_ok (c.fact 160 (f := .meth "Add" "wants") rfl))
    · exact mf_of (C := "Less") (c.def_ 73 rfl) (He.meth_ok (c.fact 161 (f := .meth "Less" "wants") rfl))
    · exact mf_of (C := "Order") (c.def_ 74 rfl) (He.meth_ok (c.fact 162 (f := .meth "Order" "wants") rfl))
    · exact mf_of (C := "Choose") (c.def_ 75 rfl) (He.meth_ok (c.fact 163 (f := .meth "Choose" "wants") rfl))
    · exact mf_of (C := "Split") (c.def_ 76 rfl) (He.meth_ok (c.fact 164 (f := .meth "Split" "wants") rfl))
  have NS : NSFacts K mg (He.ga K "NoSuch") (He.ga K "LaneError") := by
    obtain ⟨e1, e2, e3, e4, e5, e6, e7, e8⟩ := exB_ok ce
    obtain ⟨fd, FI⟩ := c.def_ 77 rfl
    have MI := He.meth_ok (c.fact 165 (f := .meth "NoSuch" "__init__") rfl)
    exact ⟨⟨e1, e2, e4.exC, e3, e8⟩, He.glo_ok X G (c.fact 166 (f := .glo "NoSuch") rfl), e4, He.noat_ok (c.fact 167 (f := .noat "NoSuch" "name") rfl), He.exm_ok (c.fact 168 (f := .exm "NoSuch" "NoSuch" true) rfl), ⟨_, fd, fun_of FI, MI.at_, beq_iff_eq.mp MI.fn⟩, He.glo_ok X G (c.fact 169 (f := .glo "LaneError") rfl), ⟨e5, e6⟩, e7⟩
  have MC := ok_cell (P := P) (w := w) (base := base) gCell hlen
  have M := ok_mix (P := P) (w := w) (base := base) gMix
  have MV := ok_value (P := P) (w := w) (base := base) gValue M
  have MW := ok_word (P := P) (w := w) (base := base) gWord M hrange hstr
  have ML := ok_lane (P := P) (w := w) (base := base) gLane M MV MW hrange hmax hlen
  have MP := ok_part (P := P) (w := w) (base := base) gPart M ML MW hrange hlen
  have MK := ok_pick (P := P) (w := w) (base := base) gPick hlen
  have MT := ok_two (P := P) (w := w) (base := base) gTwo M MP MK hlen
  have MLO := ok_loop (P := P) (w := w) (base := base) gLoop M ML MW hlen
  have MS := ok_step (P := P) (w := w) (base := base) gStep M MV MP MK MT MLO hlen
  have MD := ok_closed (P := P) (w := w) (base := base) gClosed M MP ML MW hlen
  have MNT := ok_net (P := P) (w := w) (base := base) gNet MC M MP ML MS MD hrange hlen
  have pW := ok_whole (P := P) (w := w) (base := base) gWhole hisinstance hint hbool
  have pV := ok_val (P := P) (w := w) (base := base) gVal pW vVALUES
  have pN := ok_name (P := P) (w := w) (base := base) gName hisinstance hstr hlen vLETTERS vFIGURES
  have pI := ok_iskind (P := P) (w := w) (base := base) gIsKind
  have FK := fun kd => ok_kind (P := P) (w := w) (base := base) TK kd
  have FW := fun kd => ok_wants (P := P) (w := w) (base := base) TK kd
  have FI := fun kd => ok_init (P := P) (w := w) (base := base) TK htuple kd
  have pMA := ok_madeas (P := P) (w := w) (base := base) gMadeAs FI
  have pPM := ok_partmade (P := P) (w := w) (base := base) gPartMade TK pI pMA pV FW hlen
  have pNN := ok_needname (P := P) (w := w) (base := base) gNeedName pN
  have pNR := ok_needroom (P := P) (w := w) (base := base) gNeedRoom pW pV hlen vMOST_ROOM
  have nLH := ok_layhold (P := P) (w := w) (base := base) mLayHold T
  have nPI := ok_putin (P := P) (w := w) (base := base) mPutIn T TK pI pNN pPM nLH
  have nJ := ok_joined (P := P) (w := w) (base := base) (kA := fun kd : Kd => He.ga K kd.cname) mJoined T
  have MN := ok_ninit (P := P) (w := w) (base := base) T TK pNN pNR nPI nJ hlen htuple vMOST_LANES vMOST_PARTS
  have NSC := ok_nsinit (P := P) (w := w) (base := base) NS
  have nLN := ok_lanenames (P := P) (w := w) (base := base) (kA := fun kd : Kd => He.ga K kd.cname) mLaneNames T hlist
  have nPN := ok_partnames (P := P) (w := w) (base := base) (kA := fun kd : Kd => He.ga K kd.cname) mPartNames T hlist
  have nNL := ok_needlane (P := P) (w := w) (base := base) mNeedLane T NSC
  have n0 := ok_roomof (P := P) (w := w) (base := base) (kA := fun kd : Kd => He.ga K kd.cname) mRoomOf T nNL
  have n1 := ok_firstof (P := P) (w := w) (base := base) (kA := fun kd : Kd => He.ga K kd.cname) mFirstOf T nNL hlist
  have n2 := ok_giverof (P := P) (w := w) (base := base) (kA := fun kd : Kd => He.ga K kd.cname) mGiverOf T nNL
  have n3 := ok_takerof (P := P) (w := w) (base := base) (kA := fun kd : Kd => He.ga K kd.cname) mTakerOf T nNL
  have n4 := ok_partof (P := P) (w := w) (base := base) (kA := fun kd : Kd => He.ga K kd.cname) mPartOf T NSC
  have nO := ok_ofkinds (P := P) (w := w) (base := base) mOfKinds T FK
  have nG := ok_gives (P := P) (w := w) (base := base) mGives T nO
  have nT := ok_takes (P := P) (w := w) (base := base) mTakes T nO
  have nOdd := ok_odd (P := P) (w := w) (base := base) mOdd T nO
  have nTd := ok_told (P := P) (w := w) (base := base) mTold T FK TK.pc
  have lT := ok_ltold (P := P) (w := w) (base := base) gLTold htuple
  have lE := ok_ends (P := P) (w := w) (base := base) gEnds
  have lM := ok_missing (P := P) (w := w) (base := base) gMissing T NS n0 n1 n2 n3 n4
  have lL := ok_lanesgood (P := P) (w := w) (base := base) gLanesGood T lE n0 n1 n2 n3 hlist hisinstance
  have lP := ok_partsgood (P := P) (w := w) (base := base) gPartsGood T TK.pc FK n4 nG nT nOdd htuple
  have lG := ok_good (P := P) (w := w) (base := base) gGood T lL lP nLN nPN nG nT nTd lT htuple hisinstance
  exact law_body MC MNT MN lG lM MW hlist htuple hrange
theorem facts {P : Program} {w : World} {K : PySem.W.Frag} {h : Heap} {mg : Str → Option Value} {f : Addr} (X : K.In h) (G : h.Ns mainGlobals mg) (hfa : mg ("law" : Str) = some (.ref f)) (ce : exB K = true) (c : He.SaysD fa fn K) :
    ∃ fd : FuncData, (∀ (s : Shared) (v : Value), BindsTo s fd ⟨[v], []⟩ [("_law_script", v)]) ∧ ∀ base : Heap, K.In base → base.Ns mainGlobals mg → FnOk P w K mg base CX0 8 f fd ["_law_script"] (spLaw K) := by
  obtain ⟨fd, F⟩ := c.def_ 26 rfl
  have e := hfa.symm.trans (He.glo_ok X G (c.fact 26 (f := .glo "law") rfl))
  cases e
  have b := FunD.bindsA (ps := ["_law_script"]) F fun _ _ _ _ _ _ us hl => match us, hl with | [_], _ => rfl
  have FL : Fun K "law" "law" sLaw _ fd := fun_of F
  exact ⟨fd, fun s v => b s [v] rfl, fun base _ _ => FL.ok scLaw law_len (fun cdv A outer s H vs Q E hr z => law_all X G ce c _ cdv A outer s H vs Q E hr z)⟩
end K21
set_option maxHeartbeats 0
/-! the head: the run of the top -/
namespace K21
open PySem PySem.Spec PyProof.Rows L2 TL
abbrev rowK : PySem.W.OpenRow := PySem.W.OpenLaw.row PySem.Challenge.rw_holdlane_k21_nets_tell
abbrev hk : PySem.W.Hook := hookB 4 fa fn
def obK (s : PySem.W.SharedT) : Bool × He.AlD := obB 4 fa fn (HandSHeadRun.getT s)
theorem obK_eq (s : PySem.W.SharedT) : obK s = hk.obs s.abs := obB_eq (HandSHeadRun.getT_eq s)
def looseK1 : List Str := ["_wall", "LaneError", "TooMany", "NoKind", "BadName", "Doubled", "NoSuch", "BadNumbers", "BadLanes", "BadRoom", "Open", "Loose", "LETTERS", "FIGURES", "VALUES", "is_whole", "is_value", "is_name", "Part", "Give", "Take", "Pass", "Copy", "Turn", "Heap", "Add", "Less", "Order", "Choose", "Split"]
def looseK2 : List Str := ["is_kind", "made_as", "part_made", "MOST_LANES", "MOST_PARTS", "MOST_ROOM", "need_name", "need_room", "Net", "_law_cell", "_law_mix", "_law_value", "_law_word", "_law_lane", "_law_part", "_law_pick", "_law_two", "_law_loop", "_law_step", "_law_closed", "_law_net", "_law_told", "_law_ends", "_law_missing", "_law_lanes_good", "_law_parts_good", "_law_good"]
def looseK : List Str := looseK1 ++ looseK2
theorem run (w : World) : HandSHeadRun.RunEq rowK (PySem.W.view rowK.prog [62]) hk obK 12000 looseK w := by
  intro os
  kernel_rfl
end K21
open PySem PySem.W
    PySem.Calls PyProof.Rows
theorem PySem.Challenge.cw_holdlane_k21_nets_tell_holds : PySem.Challenge.rw_holdlane_k21_nets_tell.Holds := by
  w_on; o_law
  refine HandSHeadRun.head_any (r := OpenLaw.row PySem.Challenge.rw_holdlane_k21_nets_tell) (q := view (OpenLaw.row PySem.Challenge.rw_holdlane_k21_nets_tell).prog [62]) (H := K21.hk) (ob := K21.obK) (M := 12000) (loose := K21.looseK) (d := HandSHeadRun.topDef (OpenLaw.row PySem.Challenge.rw_holdlane_k21_nets_tell).prog 62) (kwd := []) K21.obK_eq
    (by kernel_rfl) (fun s => by kernel_rfl) K21.run (by kernel_rfl) (by kernel_rfl) (by kernel_rfl) (by rfl) (by first | assumption | decide +kernel) (by decide +kernel) ⟨rfl, rfl, rfl, rfl, rfl, by decide +kernel⟩ ?hw ?hc
  case hw => w_witness2
  case hc =>
    refine L2.walk_ofE (l := PySem.Challenge.rw_holdlane_k21_nets_tell) (n := 63) (k := 8) (x := "_law_script") (CX := L2.CX0) rfl (by decide) (by kernel_rfl) ⟨rfl, by decide, by decide⟩ ?F (fun _ _ _ _ z => z)
    intro w mg fa h Y G hmg0
    obtain ⟨K, KX, ce, c⟩ := Y
    have hmg : mg ("law" : PySem.Str)
        = some (.ref fa) := by
      have e : (HandSHeadRun.topDef (OpenLaw.row PySem.Challenge.rw_holdlane_k21_nets_tell).prog 62).name = ("law" : PySem.Str) := by kernel_rfl
      rw [← e]
      exact hmg0
    obtain ⟨fd, hb, hF⟩ := K21.facts (P := (PySem.Challenge.rw_holdlane_k21_nets_tell).prog) (w := w) KX G hmg ce c
    exact ⟨K, fd, K21.spLaw K, KX, hb, fun H a ns hl _ hS => ⟨a, ns, rfl, hS, hl, fun _ => rfl⟩, hF⟩
