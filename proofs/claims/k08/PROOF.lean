import PyProof.Rows.All
import Wide.All
import OpenK.AllK
import Wide.FinOn
import HandS.ForMost
import HandS.Star
import HandS.IsInst
import HandS.Deep
import HandS.TupAny
import HandS.Style
import HandS.Conv
import HandS.SetKeys
import HandS.Codes
import HandS.ExcInit
import HandS.ExcField
import HandS.ExcIs
import HandS.TryMany
import HandS.TryOnly
import HandS.WordsExc
import HandS.ClsMeth
import HandS.OwnEq
import HandS.Defaults
import PySem.Challenge.RW_lateyields_k08_whole_programs_put_togeth
import HandS.Small
import KE.KUnpackStar
import PyProof.ReprReads
import KE.KCallOwn
import PyProof.ReprRoads
import PyProof.ReprLen
import HandS.HeadEnd
import HandS.SetFor
import HandS.Strs
import PyProof.ExcClass
import PyProof.ExcBaseAll.LookupError
import KE.KDictZip
import KE.KTurns
import HandS.ListItems
import PyProof.ListNew
import HandS.Walk
import HandS.WordsDict
import HandS.Records
import HandS.RaiseMore
import PyProof.Rows.StrMeet
import HandS.HeadHook1
import HandS.HeadHook2
import HandS.HeadNt
import HandS.Head0
import HandS.Head1
import HandS.Head2
import KE.KStateDown
set_option Elab.async false
set_option linter.all false
set_option maxRecDepth 100000
set_option maxHeartbeats 4000000
/-! The mathematics of the law: rows, what reading a row does, programs that are drawn, other names. No program in sight. -/
namespace K8
open PySem

/-! ### words -/
def lang : List Str := ["say", "pause", "wait", "open", "begin", "fail", "give", "repeat", "guard", "late", "mend", "end", "each", "job", "walk", "closed", "dropped", "kept"]
structure Nm (x : Str) : Prop where
  pos : 0 < x.length
  le : x.length ≤ 8
  low : ∀ c ∈ x.cps.toList, 97 ≤ c ∧ c ≤ 122
  out : x ∉ lang
instance (x : Str) : Decidable (Nm x) :=
  if h : 0 < x.length ∧ x.length ≤ 8 ∧ (∀ c ∈ x.cps.toList, 97 ≤ c ∧ c ≤ 122) ∧ x ∉ lang then isTrue ⟨h.1, h.2.1, h.2.2.1, h.2.2.2⟩
  else isFalse fun n => h ⟨n.pos, n.le, n.low, n.out⟩
def digs : List Str := ["1", "2", "3", "4", "5", "6", "7", "8", "9"]

inductive NK where
  | say | wait | opn | begin | fail
  deriving DecidableEq
def NK.word : NK → Str
  | .say => "say" | .wait => "wait" | .opn => "open" | .begin => "begin" | .fail => "fail"
inductive How where
  | closed | dropped | kept
  deriving DecidableEq
def How.word : How → Str
  | .closed => "closed" | .dropped => "dropped" | .kept => "kept"
def dword (w : Bool) : Str := if w then "walk" else "job"
def tword (l : Bool) : Str := if l then "late" else "mend"

inductive Row where
  | defn (w : Bool) (n : Str)
  | fin
  | named (k : NK) (n : Str)
  | pause
  | give
  | rep (d : Str)
  | guard
  | turn (l : Bool)
  | each (w : Str) (how : How) (t : Option Str)

def Row.parts : Row → List Str
  | .defn w n => [dword w, n]
  | .fin => ["end"]
  | .named k n => [k.word, n]
  | .pause => ["pause"]
  | .give => ["give"]
  | .rep d => ["repeat", d]
  | .guard => ["guard"]
  | .turn l => [tword l]
  | .each w how none => ["each", w, how.word]
  | .each w how (some t) => ["each", w, how.word, t]
def Row.text (r : Row) : Str := Str.join " " r.parts

def Row.Ok : Row → Prop
  | .defn _ n => Nm n
  | .named _ n => Nm n
  | .rep d => d ∈ digs
  | .each w _ none => Nm w
  | .each w _ (some t) => Nm w ∧ t ∈ digs
  | _ => True

/-! ### texts -/
/-- a part: not empty, short, without blank or newline -/
structure Part (p : Str) : Prop where
  pos : 0 < p.length
  le : p.length ≤ 8
  hi : ∀ c ∈ p.cps.toList, 33 ≤ c
instance (x : Str) : Decidable (Part x) :=
  if h : 0 < x.length ∧ x.length ≤ 8 ∧ (∀ c ∈ x.cps.toList, 33 ≤ c) then isTrue ⟨h.1, h.2.1, h.2.2⟩
  else isFalse fun n => h ⟨n.pos, n.le, n.hi⟩
theorem Nm.part {x : Str} (h : Nm x) : Part x := ⟨h.pos, h.le, fun c hc => Nat.le_trans (by decide) (h.low c hc).1⟩
theorem part_digs : ∀ d ∈ digs, Part d := by decide +kernel
theorem part_dword (w : Bool) : Part (dword w) := by cases w <;> decide +kernel
theorem part_tword (w : Bool) : Part (tword w) := by cases w <;> decide +kernel
theorem part_nk (k : NK) : Part k.word := by cases k <;> decide +kernel
theorem part_how (k : How) : Part k.word := by cases k <;> decide +kernel
theorem Row.Ok.part {r : Row} (h : r.Ok) : ∀ p ∈ r.parts, Part p := by
  have e1 : Part "end" := by decide +kernel
  have e2 : Part "pause" := by decide +kernel
  have e3 : Part "give" := by decide +kernel
  have e4 : Part "repeat" := by decide +kernel
  have e5 : Part "guard" := by decide +kernel
  have e6 : Part "each" := by decide +kernel
  intro p hp
  cases r with
  | defn w n =>
    have h' : Nm n := h
    simp only [Row.parts, List.mem_cons, List.not_mem_nil, or_false] at hp
    rcases hp with rfl | rfl
    · exact part_dword w
    · exact h'.part
  | fin => simp only [Row.parts, List.mem_cons, List.not_mem_nil, or_false] at hp; subst hp; exact e1
  | named k n =>
    have h' : Nm n := h
    simp only [Row.parts, List.mem_cons, List.not_mem_nil, or_false] at hp
    rcases hp with rfl | rfl
    · exact part_nk k
    · exact h'.part
  | pause => simp only [Row.parts, List.mem_cons, List.not_mem_nil, or_false] at hp; subst hp; exact e2
  | give => simp only [Row.parts, List.mem_cons, List.not_mem_nil, or_false] at hp; subst hp; exact e3
  | rep d =>
    have h' : d ∈ digs := h
    simp only [Row.parts, List.mem_cons, List.not_mem_nil, or_false] at hp
    rcases hp with rfl | rfl
    · exact e4
    · exact part_digs _ h'
  | guard => simp only [Row.parts, List.mem_cons, List.not_mem_nil, or_false] at hp; subst hp; exact e5
  | turn l => simp only [Row.parts, List.mem_cons, List.not_mem_nil, or_false] at hp; subst hp; exact part_tword l
  | each w how t =>
    cases t with
    | none =>
      have h' : Nm w := h
      simp only [Row.parts, List.mem_cons, List.not_mem_nil, or_false] at hp
      rcases hp with rfl | rfl | rfl
      · exact e6
      · exact h'.part
      · exact part_how how
    | some t =>
      have h' : Nm w ∧ t ∈ digs := h
      simp only [Row.parts, List.mem_cons, List.not_mem_nil, or_false] at hp
      rcases hp with rfl | rfl | rfl | rfl
      · exact e6
      · exact h'.1.part
      · exact part_how how
      · exact part_digs _ h'.2
theorem parts_ne (r : Row) : r.parts ≠ [] := by
  cases r with
  | each w how t => cases t <;> exact List.cons_ne_nil _ _
  | _ => exact List.cons_ne_nil _ _
theorem parts_len (r : Row) : 1 ≤ r.parts.length ∧ r.parts.length ≤ 4 := by
  cases r with
  | each w how t => cases t <;> exact ⟨by show 1 ≤ _; simp [Row.parts], by simp [Row.parts]⟩
  | _ => exact ⟨by simp [Row.parts], by simp [Row.parts]⟩
theorem tl_blank : TL.tl (" " : Str) = [32] := by decide +kernel
theorem tl_nl : TL.tl ("\n" : Str) = [10] := by decide +kernel
theorem split_text {r : Row} (h : r.Ok) : Txt.split r.text " " = r.parts := by
  unfold Row.text
  rw [← TL.join_eq]
  exact TL.split_join (s := 32) (S := []) tl_blank (by decide +kernel) (parts_ne r) fun p hp hc => absurd ((h.part p hp).hi 32 hc) (by decide)
theorem text_hi {r : Row} (h : r.Ok) : ∀ c ∈ r.text.cps.toList, 32 ≤ c := fun c hc => by
  rcases (PyProof.Rows.mem_join " " c r.parts).mp hc with ⟨p, hp, hc⟩ | ⟨_, hc⟩
  · exact Nat.le_of_lt ((h.part p hp).hi c hc)
  · have e : c ∈ [32] := tl_blank ▸ hc
    rw [List.mem_singleton.mp e]
    exact Nat.le_refl _
theorem split_rows {rs : List Row} (hne : rs ≠ []) (h : ∀ r ∈ rs, r.Ok) : Txt.split (Str.join "\n" (rs.map Row.text)) "\n" = rs.map Row.text := by
  rw [← TL.join_eq]
  refine TL.split_join (s := 10) (S := []) tl_nl (by decide +kernel) (by simpa using hne) fun p hp hc => ?_
  · obtain ⟨r, hr, rfl⟩ := List.mem_map.mp hp
    exact absurd (text_hi (h r hr) 10 hc) (by decide)
theorem append_len (a b : Str) : (a ++ b).length = a.length + b.length := by
  rw [TL.len_tl, TL.tl_append, List.length_append, ← TL.len_tl, ← TL.len_tl]
theorem join_len (sep : Str) (m : Nat) : ∀ ps : List Str, (∀ p ∈ ps, p.length ≤ m) → (Str.join sep ps).length ≤ ps.length * (m + sep.length)
  | [], _ => Nat.zero_le _
  | [x], h => by
    have q := h x List.mem_cons_self
    show x.length ≤ _
    simp only [List.length_singleton, Nat.one_mul]
    omega
  | x :: y :: r, h => by
    have q := h x List.mem_cons_self
    have ih := join_len sep m (y :: r) fun p hp => h p (List.mem_cons_of_mem _ hp)
    show (x ++ sep ++ Str.join sep (y :: r)).length ≤ _
    rw [append_len, append_len, List.length_cons, Nat.succ_mul]
    omega
theorem text_len {r : Row} (h : r.Ok) : r.text.length ≤ 36 := by
  have q := join_len " " 8 r.parts fun p hp => (h.part p hp).le
  have l := (parts_len r).2
  have e : (" " : Str).length = 1 := by decide +kernel
  rw [e] at q
  exact Nat.le_trans q (Nat.le_trans (Nat.mul_le_mul_right 9 l) (by decide))
theorem rows_len {rs : List Row} (h : ∀ r ∈ rs, r.Ok) : (Str.join "\n" (rs.map Row.text)).length ≤ rs.length * 37 := by
  have q := join_len "\n" 36 (rs.map Row.text) fun p hp => by
    obtain ⟨r, hr, rfl⟩ := List.mem_map.mp hp
    exact text_len (h r hr)
  have e : ("\n" : Str).length = 1 := by decide +kernel
  rw [e, List.length_map] at q
  exact q

/-! ### what reading does -/
inductive Blk where
  | rep (d : Str) | guard | late | mend | each (w : Str) (how : How)
  deriving DecidableEq
/-- what has been read: the definitions that have ended, the one that is open (is it a walk, its name), its open blocks (the innermost ahead) -/
structure S where
  walks : List Str := []
  jobs : List Str := []
  cur : Option (Bool × Str) := none
  inner : List Blk := []
  gates : List Str := []
  begun : List Str := []
  deepest : Nat := 0
def S.told (s : S) (w : Bool) : List Str := if w then s.walks else s.jobs
def S.tell (s : S) (w : Bool) (n : Str) : S := if w then { s with walks := s.walks ++ [n] } else { s with jobs := s.jobs ++ [n] }
def addG (gs : List Str) (g : Str) : List Str := if g ∈ gs then gs else gs ++ [g]
def S.note (s : S) (k : NK) (n : Str) : S :=
  match k with
  | .wait => { s with gates := addG s.gates n }
  | .opn => { s with gates := addG s.gates n }
  | .begin => { s with begun := s.begun ++ [n] }
  | _ => s
def S.push (s : S) (b : Blk) : S := { s with inner := b :: s.inner, deepest := max s.deepest (s.inner.length + 1) }

inductive Step : S → Row → S → Prop where
  | defn {s : S} {w : Bool} {n : Str} : s.cur = none → s.inner = [] → Nm n → n ∉ s.told w → Step s (.defn w n) { s with cur := some (w, n) }
  | fin0 {s : S} {w : Bool} {n : Str} : s.cur = some (w, n) → s.inner = [] → Step s .fin { s.tell w n with cur := none }
  | fin1 {s : S} {b : Blk} {rest : List Blk} : s.cur ≠ none → s.inner = b :: rest → b ≠ .guard → Step s .fin { s with inner := rest }
  | named {s : S} {k : NK} {n : Str} : s.cur ≠ none → Nm n → Step s (.named k n) (s.note k n)
  | pause {s : S} : s.cur ≠ none → Step s .pause s
  | give {s : S} {n : Str} : s.cur = some (true, n) → Blk.late ∉ s.inner → Step s .give s
  | rep {s : S} {d : Str} : s.cur ≠ none → d ∈ digs → Step s (.rep d) (s.push (.rep d))
  | guard {s : S} : s.cur ≠ none → Step s .guard (s.push .guard)
  | turn {s : S} {l : Bool} {rest : List Blk} : s.cur ≠ none → s.inner = .guard :: rest → Step s (.turn l) { s with inner := (if l then .late else .mend) :: rest }
  | each {s : S} {w : Str} {how : How} {t : Option Str} : s.cur ≠ none → Nm w → w ∈ s.walks → (∀ d, t = some d → d ∈ digs) → (how = .kept → (∃ n, s.cur = some (false, n)) ∧ Blk.each w .kept ∉ s.inner) →
      Step s (.each w how t) (s.push (.each w how))
inductive Run : S → List Row → S → Prop where
  | nil {s : S} : Run s [] s
  | cons {s m e : S} {r : Row} {rs : List Row} : Step s r m → Run m rs e → Run s (r :: rs) e

def Row.isDef : Row → Bool
  | .defn _ _ => true
  | _ => false
theorem Step.ok {s s' : S} {r : Row} (h : Step s r s') : r.Ok := by
  cases h with
  | defn _ _ hn _ => exact hn
  | named _ hn => exact hn
  | rep _ hd => exact hd
  | @each w how t _ hw _ ht _ =>
    cases t with
    | none => exact hw
    | some t => exact ⟨hw, ht t rfl⟩
  | _ => trivial
theorem Step.cur_iff {s s' : S} {r : Row} (h : Step s r s') : s.cur = none ↔ r.isDef = true := by
  cases h with
  | defn h _ _ _ => exact ⟨fun _ => rfl, fun _ => h⟩
  | fin0 h _ => exact ⟨fun q => (by rw [h] at q; cases q), fun q => (by cases q)⟩
  | fin1 h _ _ => exact ⟨fun q => absurd q h, fun q => (by cases q)⟩
  | named h _ => exact ⟨fun q => absurd q h, fun q => (by cases q)⟩
  | pause h => exact ⟨fun q => absurd q h, fun q => (by cases q)⟩
  | give h _ => exact ⟨fun q => (by rw [h] at q; cases q), fun q => (by cases q)⟩
  | rep h _ => exact ⟨fun q => absurd q h, fun q => (by cases q)⟩
  | guard h => exact ⟨fun q => absurd q h, fun q => (by cases q)⟩
  | turn h _ => exact ⟨fun q => absurd q h, fun q => (by cases q)⟩
  | each h _ _ _ _ => exact ⟨fun q => absurd q h, fun q => (by cases q)⟩
theorem Run.ok {s s' : S} {rs : List Row} (h : Run s rs s') : ∀ r ∈ rs, r.Ok := by
  induction h with
  | nil => intro r hr; cases hr
  | cons a _ ih =>
    intro r hr
    rcases List.mem_cons.mp hr with rfl | hr
    · exact a.ok
    · exact ih r hr
theorem Run.app {a b c : S} {xs ys : List Row} (h : Run a xs b) (k : Run b ys c) : Run a (xs ++ ys) c := by
  induction h with
  | nil => exact k
  | cons s _ ih => exact .cons s (ih k)
theorem Run.cut {a c : S} : ∀ {xs ys : List Row}, Run a (xs ++ ys) c → ∃ b, Run a xs b ∧ Run b ys c := by
  intro xs
  induction xs generalizing a with
  | nil => exact fun h => ⟨a, .nil, h⟩
  | cons x xs ih =>
    intro ys h
    cases h with
    | cons s r =>
      obtain ⟨b, h1, h2⟩ := ih r
      exact ⟨b, .cons s h1, h2⟩
/-- every beginning of a text is read so far, and the next row begins a definition just where none is open -/
theorem Run.upto {a c : S} {rs : List Row} (h : Run a rs c) {i : Nat} {r : Row} (hi : rs[i]? = some r) : ∃ b, Run a (rs.take i) b ∧ (b.cur = none ↔ r.isDef = true) := by
  have e : rs = rs.take i ++ (r :: rs.drop (i + 1)) := by
    obtain ⟨hl, hr⟩ := List.getElem?_eq_some_iff.mp hi
    rw [← hr, ← List.drop_eq_getElem_cons hl, List.take_append_drop]
  rw [e] at h
  obtain ⟨b, h1, h2⟩ := h.cut
  cases h2 with
  | cons s _ => exact ⟨b, h1, s.cur_iff⟩

/-! what a run leaves -/
def Row.begs : Row → List Str
  | .named .begin n => [n]
  | _ => []
def Row.gate : Row → List Str
  | .named .wait n => [n]
  | .named .opn n => [n]
  | _ => []
theorem note_cases (s : S) (k : NK) (n : Str) : (s.note k n).begun = s.begun ++ (Row.named k n).begs ∧ (s.note k n).gates = (Row.named k n).gate.foldl addG s.gates ∧ (s.note k n).inner = s.inner ∧ (s.note k n).deepest = s.deepest ∧ (s.note k n).cur = s.cur ∧ (s.note k n).walks = s.walks ∧ (s.note k n).jobs = s.jobs := by
  cases k <;> simp [S.note, Row.begs, Row.gate]
theorem tell_same (s : S) (w : Bool) (n : Str) : (s.tell w n).begun = s.begun ∧ (s.tell w n).gates = s.gates ∧ (s.tell w n).inner = s.inner ∧ (s.tell w n).deepest = s.deepest ∧ (s.tell w n).cur = s.cur := by
  cases w <;> simp [S.tell]
theorem Step.begun {s s' : S} {r : Row} (h : Step s r s') : s'.begun = s.begun ++ r.begs := by
  cases h with
  | fin0 _ _ => simp [tell_same, Row.begs]
  | named _ _ => exact (note_cases _ _ _).1
  | _ => simp [S.push, Row.begs]
theorem Run.begun {s s' : S} {rs : List Row} (h : Run s rs s') : s'.begun = s.begun ++ (rs.map Row.begs).flatten := by
  induction h with
  | nil => simp
  | cons a _ ih => rw [ih, a.begun]; simp
theorem Step.gates {s s' : S} {r : Row} (h : Step s r s') : s'.gates = r.gate.foldl addG s.gates := by
  cases h with
  | fin0 _ _ => simp [tell_same, Row.gate]
  | named _ _ => exact (note_cases _ _ _).2.1
  | _ => simp [S.push, Row.gate]
theorem mem_addG {gs : List Str} {g x : Str} : x ∈ addG gs g ↔ x ∈ gs ∨ x = g := by
  unfold addG
  split
  · rename_i h
    exact ⟨.inl, fun q => q.elim id fun e => e ▸ h⟩
  · simp
theorem nodup_addG {gs : List Str} {g : Str} (h : gs.Nodup) : (addG gs g).Nodup := by
  unfold addG
  split
  · exact h
  · rename_i hg
    rw [List.nodup_append]
    exact ⟨h, by simp, fun a ha b hb e => hg (by rw [← List.mem_singleton.mp hb, ← e]; exact ha)⟩
theorem Run.gates {s s' : S} {rs : List Row} (h : Run s rs s') (hn : s.gates.Nodup) : s'.gates.Nodup ∧ ∀ x, x ∈ s'.gates ↔ x ∈ s.gates ∨ x ∈ (rs.map Row.gate).flatten := by
  induction h with
  | nil => exact ⟨hn, fun x => by simp⟩
  | @cons s m e r rs a _ ih =>
    have eg := a.gates
    have hm : m.gates.Nodup ∧ ∀ x, x ∈ m.gates ↔ x ∈ s.gates ∨ x ∈ r.gate := by
      rw [eg]
      cases r with
      | named k n => cases k <;> first | exact ⟨nodup_addG hn, fun x => by simp [Row.gate, mem_addG]⟩ | exact ⟨hn, fun x => by simp [Row.gate]⟩
      | _ => exact ⟨hn, fun x => by simp [Row.gate]⟩
    obtain ⟨h1, h2⟩ := ih hm.1
    refine ⟨h1, fun x => ?_⟩
    rw [h2, hm.2]
    simp [or_assoc]
theorem Step.deep {s s' : S} {r : Row} (h : Step s r s') : s'.inner.length ≤ s.inner.length + 1 ∧ s'.deepest ≤ max s.deepest (s.inner.length + 1) := by
  cases h with
  | fin0 _ _ => simp [tell_same]; omega
  | fin1 _ e _ => rw [e]; simp; omega
  | named _ _ =>
    have q := note_cases s (by assumption) (by assumption)
    simp [note_cases]; omega
  | turn _ e => rw [e]; simp; omega
  | defn _ _ _ _ => simp; omega
  | pause _ => simp; omega
  | give _ _ => simp; omega
  | rep _ _ => simp [S.push]
  | guard _ => simp [S.push]
  | each _ _ _ _ _ => simp [S.push]
theorem Run.deep {s s' : S} {rs : List Row} (h : Run s rs s') : s'.inner.length ≤ s.inner.length + rs.length ∧ s'.deepest ≤ max s.deepest (s.inner.length + rs.length) := by
  induction h with
  | nil => simp; omega
  | cons a _ ih =>
    have q := a.deep
    simp only [List.length_cons]
    omega

/-! ### the rows of a drawn definition -/
structure Ctx where
  walk : Bool
  known : List Str
  late : Bool
  kept : List Str
  jobs : List Str
  gates : List Str
  notes : List Str
def Ctx.of (c : Ctx) : NK → List Str
  | .begin => c.jobs
  | .wait => c.gates
  | .opn => c.gates
  | _ => c.notes
def Ctx.laid (c : Ctx) (l : Bool) : Ctx := { c with late := c.late || l }
def Ctx.keeps (c : Ctx) (how : How) (w : Str) : Ctx := if how = .kept then { c with kept := c.kept ++ [w] } else c
inductive Rows : Ctx → List Row → Prop where
  | nil {c : Ctx} : Rows c []
  | app {c : Ctx} {a b : List Row} : Rows c a → Rows c b → Rows c (a ++ b)
  | pause {c : Ctx} : Rows c [.pause]
  | give {c : Ctx} : c.walk = true → c.late = false → Rows c [.give]
  | named {c : Ctx} {k : NK} {n : Str} : n ∈ c.of k → Nm n → Rows c [.named k n]
  | rep {c : Ctx} {d : Str} {b : List Row} : d ∈ digs → Rows c b → Rows c (.rep d :: (b ++ [.fin]))
  | guard {c : Ctx} {l : Bool} {a b : List Row} : Rows c a → Rows (c.laid l) b → Rows c (.guard :: (a ++ .turn l :: (b ++ [.fin])))
  | each {c : Ctx} {w : Str} {how : How} {t : Option Str} {b : List Row} : w ∈ c.known → Nm w → (∀ d, t = some d → d ∈ digs) → (how = .kept → c.walk = false ∧ w ∉ c.kept) →
      Rows (c.keeps how w) b → Rows c (.each w how t :: (b ++ [.fin]))

/-- the state in which such rows can be read -/
structure Fits (c : Ctx) (s : S) : Prop where
  cur : ∃ n, s.cur = some (c.walk, n)
  known : ∀ w ∈ c.known, w ∈ s.walks
  late : c.late = false → Blk.late ∉ s.inner
  kept : ∀ w, Blk.each w .kept ∈ s.inner → w ∈ c.kept
structure SSame (s s' : S) : Prop where
  cur : s'.cur = s.cur
  inner : s'.inner = s.inner
  walks : s'.walks = s.walks
  jobs : s'.jobs = s.jobs
theorem SSame.rfl' {s : S} : SSame s s := ⟨rfl, rfl, rfl, rfl⟩
theorem Fits.same {c : Ctx} {s s' : S} (f : Fits c s) (h : SSame s s') : Fits c s' :=
  ⟨by rw [h.cur]; exact f.cur, by rw [h.walks]; exact f.known, by rw [h.inner]; exact f.late, by rw [h.inner]; exact f.kept⟩
theorem Fits.ne {c : Ctx} {s : S} (f : Fits c s) : s.cur ≠ none := fun q => by
  obtain ⟨n, e⟩ := f.cur
  rw [e] at q
  cases q
theorem rows_run {c : Ctx} {rs : List Row} (h : Rows c rs) : ∀ s, Fits c s → ∃ s', Run s rs s' ∧ SSame s s' := by
  induction h with
  | nil => exact fun s _ => ⟨s, .nil, .rfl'⟩
  | app _ _ ih1 ih2 =>
    intro s f
    obtain ⟨m, r1, e1⟩ := ih1 s f
    obtain ⟨e, r2, e2⟩ := ih2 m (f.same e1)
    exact ⟨e, r1.app r2, ⟨e2.cur.trans e1.cur, e2.inner.trans e1.inner, e2.walks.trans e1.walks, e2.jobs.trans e1.jobs⟩⟩
  | pause => exact fun s f => ⟨s, .cons (.pause f.ne) .nil, .rfl'⟩
  | give hw hl =>
    intro s f
    obtain ⟨n, e⟩ := f.cur
    exact ⟨s, .cons (.give (n := n) (by rw [e, hw]) (f.late hl)) .nil, .rfl'⟩
  | @named c k n _ hn =>
    intro s f
    have q := note_cases s k n
    exact ⟨s.note k n, .cons (.named f.ne hn) .nil, ⟨q.2.2.2.2.1, q.2.2.1, q.2.2.2.2.2.1, q.2.2.2.2.2.2⟩⟩
  | @rep c d b hd _ ih =>
    intro s f
    obtain ⟨m, r, e⟩ := ih (s.push (.rep d)) ⟨f.cur, f.known, fun q => by simp [S.push, f.late q], fun w q => f.kept w (by simpa [S.push] using q)⟩
    refine ⟨{ m with inner := s.inner }, .cons (.rep f.ne hd) (r.app (.cons (.fin1 (b := .rep d) (rest := s.inner) ?_ e.inner (by intro z; cases z)) .nil)), ⟨e.cur, rfl, e.walks, e.jobs⟩⟩
    rw [e.cur]
    exact f.ne
  | @guard c l a b _ _ iha ihb =>
    intro s f
    obtain ⟨m, r, e⟩ := iha (s.push .guard) ⟨f.cur, f.known, fun q => by simp [S.push, f.late q], fun w q => f.kept w (by simpa [S.push] using q)⟩
    have ei : m.inner = .guard :: s.inner := e.inner
    have hc : m.cur ≠ none := by rw [e.cur]; exact f.ne
    obtain ⟨m2, r2, e2⟩ := ihb { m with inner := (if l then .late else .mend) :: s.inner } ⟨by
        show ∃ n, m.cur = some (c.walk, n)
        rw [e.cur]; exact f.cur, by
        show ∀ w ∈ c.known, w ∈ m.walks
        rw [e.walks]; exact f.known, fun q => by
        have q' : (c.late || l) = false := q
        cases l with
        | true => simp at q'
        | false => simp [f.late (by simpa using q')], fun w q => f.kept w (by cases l <;> simpa using q)⟩
    refine ⟨{ m2 with inner := s.inner }, .cons (.guard f.ne) (r.app (.cons (.turn (l := l) hc ei) (r2.app (.cons (.fin1 (b := if l then .late else .mend) (rest := s.inner) ?_ e2.inner (by cases l <;> (intro z; cases z))) .nil)))), ⟨e2.cur.trans e.cur, rfl, e2.walks.trans e.walks, e2.jobs.trans e.jobs⟩⟩
    rw [e2.cur]
    exact hc
  | @each c w how t b hw hn ht hk _ ih =>
    intro s f
    have st : Step s (.each w how t) (s.push (.each w how)) := by
      refine .each f.ne hn (f.known w hw) ht fun q => ?_
      obtain ⟨n, e⟩ := f.cur
      exact ⟨⟨n, by rw [e, (hk q).1]⟩, fun z => (hk q).2 (f.kept w z)⟩
    obtain ⟨m, r, e⟩ := ih (s.push (.each w how)) (by
      unfold Ctx.keeps
      split
      · rename_i q
        subst q
        exact ⟨f.cur, f.known, fun q => by simp [S.push, f.late q], fun v q => by
          rcases List.mem_cons.mp (show Blk.each v .kept ∈ Blk.each w .kept :: s.inner from q) with z | z
          · injection z with z1 _
            rw [z1]
            exact List.mem_append_right _ List.mem_cons_self
          · exact List.mem_append_left _ (f.kept v z)⟩
      · rename_i q
        exact ⟨f.cur, f.known, fun q => by simp [S.push, f.late q], fun v z => by
          rcases List.mem_cons.mp (show Blk.each v .kept ∈ Blk.each w how :: s.inner from z) with z | z
          · injection z with _ z2
            exact absurd z2.symm q
          · exact f.kept v z⟩)
    refine ⟨{ m with inner := s.inner }, .cons st (r.app (.cons (.fin1 (b := .each w how) (rest := s.inner) ?_ e.inner (by intro z; cases z)) .nil)), ⟨e.cur, rfl, e.walks, e.jobs⟩⟩
    rw [e.cur]
    exact f.ne

/-! ### definitions, programs -/
structure Def where
  w : Bool
  n : Str
  body : List Row
def Def.rows (d : Def) : List Row := .defn d.w d.n :: (d.body ++ [.fin])
def flat (ds : List Def) : List Row := (ds.map Def.rows).flatten
def wnames (ds : List Def) : List Str := (ds.filter (·.w)).map (·.n)
def jnames (ds : List Def) : List Str := (ds.filter (fun d => !d.w)).map (·.n)
theorem flat_cons (d : Def) (ds : List Def) : flat (d :: ds) = d.rows ++ flat ds := by simp [flat]
theorem flat_app (a b : List Def) : flat (a ++ b) = flat a ++ flat b := by simp [flat]
theorem wnames_app (a b : List Def) : wnames (a ++ b) = wnames a ++ wnames b := by simp [wnames]
theorem jnames_app (a b : List Def) : jnames (a ++ b) = jnames a ++ jnames b := by simp [jnames]
inductive Defs (jobs gates notes : List Str) : List Str → List Def → Prop where
  | nil {known : List Str} : Defs jobs gates notes known []
  | cons {known : List Str} {d : Def} {ds : List Def} : Nm d.n → Rows ⟨d.w, known, false, [], jobs, gates, notes⟩ d.body → d.body.length ≤ 6 → Defs jobs gates notes (if d.w then known ++ [d.n] else known) ds → Defs jobs gates notes known (d :: ds)
theorem Defs.app {jobs gates notes known : List Str} {a b : List Def} (h : Defs jobs gates notes known a) (k : Defs jobs gates notes (known ++ wnames a) b) : Defs jobs gates notes known (a ++ b) := by
  induction h with
  | nil => simpa [wnames] using k
  | @cons known d ds hn hr hl _ ih =>
    refine .cons hn hr hl (ih ?_)
    cases hw : d.w <;> simp [wnames, hw] at k ⊢ <;> exact k
theorem Defs.cut {jobs gates notes : List Str} : ∀ {a b : List Def} {known : List Str}, Defs jobs gates notes known (a ++ b) → Defs jobs gates notes known a ∧ Defs jobs gates notes (known ++ wnames a) b
  | [], b, known, h => ⟨.nil, by simpa [wnames] using h⟩
  | d :: a, b, known, h => by
    cases h with
    | cons hn hr hl h =>
      obtain ⟨h1, h2⟩ := Defs.cut h
      refine ⟨.cons hn hr hl h1, ?_⟩
      cases hw : d.w <;> simp [wnames, hw] at h2 ⊢ <;> exact h2
theorem defs_run {jobs gates notes known : List Str} {ds : List Def} (h : Defs jobs gates notes known ds) : ∀ s : S, s.cur = none → s.inner = [] → s.deepest ≤ 6 → (∀ w ∈ known, w ∈ s.walks) → (s.walks ++ wnames ds).Nodup → (s.jobs ++ jnames ds).Nodup →
    ∃ s', Run s (flat ds) s' ∧ s'.cur = none ∧ s'.inner = [] ∧ s'.deepest ≤ 6 ∧ s'.walks = s.walks ++ wnames ds ∧ s'.jobs = s.jobs ++ jnames ds := by
  induction h with
  | nil => exact fun s h1 h2 h3 _ _ _ => ⟨s, .nil, h1, h2, h3, by simp [wnames], by simp [jnames]⟩
  | @cons known d ds hn hr hl _ ih =>
    intro s hc hi hd hk hw hj
    have fresh : d.n ∉ s.told d.w := by
      unfold S.told
      cases e : d.w with
      | true =>
        rw [show wnames (d :: ds) = d.n :: wnames ds by simp [wnames, e]] at hw
        exact fun z => (List.nodup_append.mp hw).2.2 _ z _ List.mem_cons_self rfl
      | false =>
        rw [show jnames (d :: ds) = d.n :: jnames ds by simp [jnames, e]] at hj
        exact fun z => (List.nodup_append.mp hj).2.2 _ z _ List.mem_cons_self rfl
    have s1 : Step s (.defn d.w d.n) { s with cur := some (d.w, d.n) } := .defn hc hi hn fresh
    obtain ⟨m, r, e⟩ := rows_run hr { s with cur := some (d.w, d.n) } ⟨⟨d.n, rfl⟩, hk, fun _ => by rw [hi]; simp, fun w z => by rw [hi] at z; cases z⟩
    have dp := r.deep.2
    have dp' : m.deepest ≤ 6 := by
      have z : ({ s with cur := some (d.w, d.n) } : S).inner.length = 0 := by show s.inner.length = 0; rw [hi]; rfl
      have z2 : ({ s with cur := some (d.w, d.n) } : S).deepest = s.deepest := rfl
      rw [z, z2] at dp
      omega
    have em : m.inner = [] := e.inner.trans hi
    have s2 : Step m .fin { m.tell d.w d.n with cur := none } := .fin0 e.cur em
    have t := tell_same m d.w d.n
    have ew : ({ m.tell d.w d.n with cur := none } : S).walks = s.walks ++ (if d.w then [d.n] else []) := by
      show (m.tell d.w d.n).walks = _
      unfold S.tell
      cases d.w with
      | true => show m.walks ++ [d.n] = _; rw [e.walks]; rfl
      | false => show m.walks = _; rw [e.walks]; simp
    have ej : ({ m.tell d.w d.n with cur := none } : S).jobs = s.jobs ++ (if d.w then [] else [d.n]) := by
      show (m.tell d.w d.n).jobs = _
      unfold S.tell
      cases d.w with
      | true => show m.jobs = _; rw [e.jobs]; simp
      | false => show m.jobs ++ [d.n] = _; rw [e.jobs]; rfl
    obtain ⟨s', r', c1, c2, c3, c4, c5⟩ := ih { m.tell d.w d.n with cur := none } rfl (t.2.2.1.trans em) (by show (m.tell d.w d.n).deepest ≤ 6; rw [t.2.2.2.1]; exact dp')
      (by
        rw [ew]
        intro w hw'
        cases hdw : d.w with
        | true =>
          rw [hdw] at hw'
          rcases List.mem_append.mp hw' with z | z
          · exact List.mem_append_left _ (hk w z)
          · exact List.mem_append_right _ z
        | false =>
          rw [hdw] at hw'
          exact List.mem_append_left _ (hk w hw'))
      (by
        rw [ew]
        cases hdw : d.w with
        | true => simpa [wnames, hdw] using hw
        | false => simpa [wnames, hdw] using hw)
      (by
        rw [ej]
        cases hdw : d.w with
        | true => simpa [jnames, hdw] using hj
        | false => simpa [jnames, hdw] using hj)
    refine ⟨s', ?_, c1, c2, c3, ?_, ?_⟩
    · rw [flat_cons]
      exact (Run.cons s1 (r.app (.cons s2 .nil))).app r'
    · rw [c4, ew]
      cases hdw : d.w <;> simp [wnames, hdw]
    · rw [c5, ej]
      cases hdw : d.w <;> simp [jnames, hdw]
end K8
set_option Elab.async false
set_option linter.all false
set_option maxRecDepth 100000
set_option maxHeartbeats 4000000
/-! What all walks share: the text by places, heaps. -/
namespace K8
open PySem L2
def top (i : Nat) : Stmt := PySem.Challenge.pw_lateyields_k08_whole_programs_put_togeth.main.body.getD i (.Pass ⟨0, 0, 0, 0⟩)
def cls (i j : Nat) : Stmt := inClass (top i) j

/-- all that was tracked stands, but what lies in the places as -/
def But (as : List Addr) (H H' : Hp) : Prop := ∀ b o, H b = some o → b ∉ as → H' b = some o
theorem But.refl {as : List Addr} {H : Hp} : But as H H := fun _ _ h _ => h
theorem But.trans {as : List Addr} {H H1 H2 : Hp} (a : But as H H1) (b : But as H1 H2) : But as H H2 := fun c o h n => b c o (a c o h n) n
theorem But.mono {as bs : List Addr} {H H1 : Hp} (a : But as H H1) (h : ∀ b ∈ as, b ∈ bs) : But bs H H1 := fun c o q n => a c o q fun z => n (h c z)
theorem But.put {as : List Addr} {H H1 : Hp} {a : Addr} {o : HO} (x : But as H H1) (h : a ∈ as) : But as H (upd H1 a o) := fun b u e n => by
  rw [upd_ne (fun z => n (by rw [z]; exact h))]
  exact x b u e n
theorem But.new {as : List Addr} {H H1 : Hp} {a : Addr} {o : HO} (x : But as H H1) (h : H1 a = none) : But as H (upd H1 a o) := fun b u e n => by
  rw [upd_ne (ne_of_none (x b u e n) h)]
  exact x b u e n
theorem But.same {as : List Addr} {H H1 : Hp} (x : Same H H1) : But as H H1 := fun b u e _ => x b u e
theorem same_of {H H1 : Hp} (x : But [] H H1) : Same H H1 := fun b u e => x b u e (by simp)
/-- what was changed lay where nothing was tracked -/
theorem But.drop {as : List Addr} {H0 H H1 : Hp} (s : Same H0 H) (x : But as H H1) (h : ∀ a ∈ as, H0 a = none) : Same H0 H1 := fun b u e => x b u (s b u e) fun z => by
  rw [h b z] at e
  cases e
theorem same_new {H H1 : Hp} {a : Addr} {o : HO} (x : Same H H1) (h : H1 a = none) : Same H (upd H1 a o) := fun b u e => by
  rw [upd_ne (ne_of_none (x b u e) h)]
  exact x b u e
theorem same_put {H H1 : Hp} {a : Addr} {o : HO} (x : Same H H1) (h : H a = none) : Same H (upd H1 a o) := fun b u e => by
  rw [upd_ne (ne_of_none e h)]
  exact x b u e
theorem But.seq {K : PySem.W.Frag} {as : List Addr} {H H' : Hp} {a : Addr} {xs : List V} (e : But as H H') (n : a ∉ as) (h : SqL K H a xs) : SqL K H' a xs := by
  rcases h with (h | ⟨o, h⟩) | h
  · exact .inl (.inl (e _ _ h n))
  · exact .inl (.inr ⟨o, e _ _ h n⟩)
  · exact .inr h
theorem m1 {a : Addr} {as : List Addr} : a ∈ a :: as := List.mem_cons_self
theorem m2 {a b : Addr} {as : List Addr} : a ∈ b :: a :: as := List.mem_cons_of_mem _ List.mem_cons_self
theorem n1 {a b : Addr} (h : a ≠ b) : a ∉ [b] := fun z => h (List.mem_singleton.mp z)
theorem n2 {a b c : Addr} (h : a ≠ b) (h' : a ≠ c) : a ∉ [b, c] := fun z => by
  rcases List.mem_cons.mp z with z | z
  · exact h z
  · exact h' (List.mem_singleton.mp z)

/-- a box: three ints -/
def BoxAt (H : Hp) (a : Addr) : Prop := ∃ x y z : Int, H a = some (.lst [.int x, .int y, .int z])
theorem BoxAt.but {as : List Addr} {H H' : Hp} {a : Addr} (h : BoxAt H a) (b : But as H H') (n : a ∉ as) : BoxAt H' a :=
  let ⟨x, y, z, e⟩ := h
  ⟨x, y, z, b _ _ e n⟩
/-! steps of heaps -/
theorem kn {H : Hp} {b p : Addr} {o u : HO} (h : H b = some o) (n : H p = none) : upd H p u b = some o := by
  rw [upd_ne (ne_of_none h n)]
  exact h
theorem ku {H : Hp} {b p : Addr} {o u : HO} (h : H b = some o) (n : b ≠ p) : upd H p u b = some o := by
  rw [upd_ne n]
  exact h
/-- a place that is free behind a step was free ahead of it -/
theorem fr {H : Hp} {b p : Addr} {u : HO} (n : upd H p u b = none) : H b = none ∧ b ≠ p := by
  by_cases z : b = p
  · rw [z, upd_same] at n
    cases n
  · rw [upd_ne z] at n
    exact ⟨n, z⟩
theorem But.free {as : List Addr} {H H1 : Hp} {b : Addr} (x : But as H H1) (n : H1 b = none) (m : b ∉ as) : H b = none := by
  cases q : H b with
  | none => rfl
  | some o =>
    rw [x b o q m] at n
    cases n
theorem But.put0 {as : List Addr} {H H1 : Hp} {a : Addr} {o : HO} (x : But as H H1) (h : H a = none) : But as H (upd H1 a o) := fun b u e n => by
  rw [upd_ne (ne_of_none e h)]
  exact x b u e n
theorem BoxAt.new {H : Hp} {a p : Addr} {o : HO} (h : BoxAt H a) (n : H p = none) : BoxAt (upd H p o) a :=
  let ⟨x, y, z, e⟩ := h
  ⟨x, y, z, kn e n⟩
theorem BoxAt.oth {H : Hp} {a p : Addr} {o : HO} (h : BoxAt H a) (n : a ≠ p) : BoxAt (upd H p o) a :=
  let ⟨x, y, z, e⟩ := h
  ⟨x, y, z, ku e n⟩
/-- the box is none of the lists that are new -/
theorem BoxAt.ne {H : Hp} {a p : Addr} (h : BoxAt H a) (n : H p = none) : a ≠ p :=
  let ⟨_, _, _, e⟩ := h
  ne_of_none e n
theorem n0 {a : Addr} : a ∉ ([] : List Addr) := fun z => nomatch z
end K8
set_option Elab.async false
set_option linter.all false
set_option maxRecDepth 100000
set_option maxHeartbeats 4000000
/-! Rules that the layer lacks. -/
namespace K8
open PySem PySem.Spec PyProof.Rows L2
section
variable {X : Cx} {a e o : Expr} {es : List Expr} {ta te to : TE} {t : TA} {pos apos : Pos}
/-- an expression that is never reached -/
theorem pe_never : PE X e (fun _ _ _ => False) := ⟨fun _ _ _ _ _ _ h => h.elim⟩
theorem pt_never : PT X e (fun _ _ _ => False) := ⟨fun _ _ _ _ _ _ h => h.elim⟩
theorem pa_never : PA X es (fun _ _ _ => False) := ⟨fun _ _ _ _ _ _ _ h => h.elim⟩

/-! text * int -/
def rMulS : R2 := fun x y H Q => ∃ (z : Str) (i : Int), x = .str z ∧ y = .int i ∧ MulOk z i ∧ Q (.str (Txt.mul z i)) H
theorem op_mulS : OpR X (binaryOp .Mult) rMulS := by
  intro pins s σ H x y v u Q I rx ry h
  obtain ⟨z, i, rfl, rfl, ok, q⟩ := h
  obtain ⟨t1, rfl⟩ := rx
  obtain ⟨t2, rfl⟩ := ry
  exact SB.mul ok fun t' k => ⟨.str _, H, I.kept (t' := k) fun _ _ z => z, ⟨_, rfl⟩, q⟩

/-! a list beside [] -/
def rEqE (neg : Bool) (K : PySem.W.Frag) : R2 := fun x y H Q => ∃ (a b : Addr) (xs : List V), x = .ref a ∧ y = .ref b ∧ SqL K H a xs ∧ SqL K H b [] ∧ Q (.bl (neg != xs.isEmpty)) H
theorem size_of {xs : List V} {us : List Value} (r : Vals xs us) : us.toArray.size = xs.length := by
  rw [List.size_toArray, r.length]
theorem op_eqE (hu : X.A.units < cLine) : OpR X (compareOp .Eq) (rEqE false X.K) := by
  intro pins s σ H x y v u Q I rx ry h
  obtain ⟨a, b, xs, rfl, rfl, ha, hb, q⟩ := h
  cases rx
  cases ry
  obtain ⟨its, r1, p1, z1⟩ := I.list ha
  obtain ⟨its2, r2, p2, z2⟩ := I.list hb
  have s1 := size_of r1
  have s2 := size_of r2
  cases xs with
  | nil =>
    refine SeqAt.eq_listAt (e := fun _ => true) p1.isList p2.isList (by rw [s1, s2]) hu (fun j h1 h2 => ?_) ?_
    · rw [s1] at h1
      exact absurd h1 (Nat.not_lt_zero _)
    · exact fin_bl I q (by rw [s1] <;> rfl)
  | cons y ys => exact SeqAt.eq_list_lengthsAt p1.isList p2.isList (by rw [s1, s2] <;> rfl) hu (fin_bl I q rfl)
theorem op_neE (hu : X.A.units < cLine) : OpR X (compareOp .NotEq) (rEqE true X.K) := by
  intro pins s σ H x y v u Q I rx ry h
  obtain ⟨a, b, xs, rfl, rfl, ha, hb, q⟩ := h
  cases rx
  cases ry
  obtain ⟨its, r1, p1, z1⟩ := I.list ha
  obtain ⟨its2, r2, p2, z2⟩ := I.list hb
  have s1 := size_of r1
  have s2 := size_of r2
  cases xs with
  | nil =>
    refine SeqAt.RcNeAt.lists (e := fun _ => true) p1.isList p2.isList (by rw [s1, s2]) hu (fun j h1 h2 => ?_) X.prog X.w X.xe _ ?_
    · rw [s1] at h1
      exact absurd h1 (Nat.not_lt_zero _)
    · exact fin_bl I q (by rw [s1] <;> rfl)
  | cons y ys => exact SeqAt.RcNeAt.lists_lengths p1.isList p2.isList (by rw [s1, s2] <;> rfl) hu X.prog X.w X.xe _ (fin_bl I q rfl)

/-! list(text) -/
def sgn (x : Str) : List Str := x.cps.toList.map fun c => ⟨#[c]⟩
theorem vals_sgn {x : Str} {acc : Array Value} (h : ItemsOf (SignAt x) acc x.cps.size) : L2.Vals ((sgn x).map V.str) acc.toList := by
  have key : ∀ (l : List Nat) (us : List Value), us.length = l.length → (∀ (j : Nat) u, us[j]? = some u → ∃ c t, l[j]? = some c ∧ u = Value.str ⟨#[c]⟩ t) → L2.Vals (l.map fun c => V.str ⟨#[c]⟩) us := by
    intro l
    induction l with
    | nil =>
      intro us hl _
      cases us with
      | nil => exact .nil
      | cons _ _ => cases hl
    | cons c l ih =>
      intro us hl hu
      cases us with
      | nil => cases hl
      | cons u us =>
        obtain ⟨c', t, e1, e2⟩ := hu 0 u rfl
        cases e1
        exact .cons ⟨t, e2⟩ (ih us (Nat.succ.inj hl) fun j v hv => hu (j + 1) v hv)
  have z := key x.cps.toList acc.toList (by rw [Array.length_toList, h.1, Array.length_toList]) fun j u hu => by
    obtain ⟨c, t, e1, e2⟩ := h.2 j u (by simpa using hu)
    exact ⟨c, t, by simpa using e1, e2⟩
  unfold sgn
  rw [List.map_map]
  exact z
def rListS : List V → Hp → VK → Prop := fun xs H Q => ∃ z : Str, xs = [.str z] ∧ z.length ≤ sizeLine ∧ ∀ p, H p = none → Q (.ref p) (upd H p (.lst ((sgn z).map V.str)))
theorem call_list_str' (hc : X.calm = true) : CallR X (.type "list") rListS := by
  intro pins s σ H xs us Q I r h
  obtain ⟨z, rfl, hz, q⟩ := h
  cases r with
  | cons ra rr =>
    cases rr
    obtain ⟨tk, rfl⟩ := ra
    refine call_list_str (I.ok.hd hc) z tk (fun h' tk' acc c hk hS hacc => ?_) hz
    have hv := vals_sgn hacc
    have hn : H s.heap.objs.size = none := I.hok.fresh (Nat.le_refl _)
    refine ⟨.ref s.heap.objs.size, _, I.laid (t' := tk') (o := .lst ((sgn z).map V.str)) hk (Nat.le_refl _) ⟨?_, acc.toList, c, hv, ?_⟩, rfl, q _ hn⟩
    · rw [List.length_map]
      unfold sgn
      rw [List.length_map]
      simpa [Str.length] using hz
    · rw [hS]

/-! C.m(e, ..), m a staticmethod of the class at C -/
structure SMet (K : PySem.W.Frag) (C : Addr) (m : Str) (p g : Addr) : Prop where
  rd : PySem.W.readsIn K C (.type "type") = true
  ga : PySem.W.specialIn K (.ref C) "__getattribute__" = some (some (.builtin "type.__getattribute__"))
  at_ : PySem.W.findCls K (.ref C) (.type "type") m = some (.get (.builtin "staticmethod.__get__") (.ref p) .none (.ref C))
  rc : ∃ rest, PySem.W.recIn K p "staticmethod" = some (.ref g :: rest)
  kp : PySem.W.keepIn K (.ref g) = true
theorem pe_sm {CX : CXT} {k : Nat} {C p g : Addr} {m : Str} {sp : Sp} {E : L2.St → XK} {pl : Sem Bool} (ho : PE X o to) (S : SMet X.K C m p g) (F : FnR X.prog X.w X.K X.mg X.base CX k g sp) (hr : Room k X.A) (hx : ∀ σ, PassesAt CX X σ (E σ)) (ha : PA X (e :: es) t)
    (hst : starEach (e :: es) X.env = (false, eval e X.env) :: starEach es X.env := by rfl) (hpl : (backTo pos (starEach es X.env)).any (·.1) = false := by rfl)
    (ht : eval (.Call (.Attribute o m apos) (e :: es) [] pos) X.env = (do
      let ov ← eval o X.env
      standAt apos.atName
      let (f, first) ← holding [ov] (getMethod ov m pl)
      callWith pos f first (backTo pos (starEach (e :: es) X.env)) (backToKw pos (keywordEach [] X.env))) := by rfl) :
    PE X (.Call (.Attribute o m apos) (e :: es) [] pos) (fun σ H Q => to σ H fun x H1 => x = .ref C ∧ t σ H1 fun vs H2 => sp vs H2 Q (E σ)) := by
  refine ⟨fun pins s σ H Q I h => ?_⟩
  refine PySem.W.methodCall_KW (pl := pl) (thn (ho.run pins s σ H _ I h) fun u s1 ⟨x, H1, I1, rx, ex, q⟩ => ?_) ht
  subst ex
  obtain rfl : u = Value.ref C := rx
  obtain ⟨rest, hp⟩ := S.rc
  have hh : PySem.W.handedIn (Value.ref g) = true := rfl
  refine PySem.W.method_cls I1.kIn S.ga (PySem.W.cls_bind I1.kIn S.rd S.at_ (wpAny_call (PySem.W.sm_get (s := { s1 with toks := s1.toks + 1 }) I1.kIn hp (PySem.W.handed_on hh ?_))))
  have I2 : Inv X pins σ H1 { s1 with toks := s1.toks + 1 } := I1.tok _
  refine PySem.W.callWith_K (first := []) (h₀ := X.base) I.ok.mod.kin S.kp (thn (ha.run pos pins _ σ H1 _ I2 q) fun us s2 ⟨vs, H2, I3, r, q2⟩ => ⟨I3.kIn, ?_⟩) hst hpl
  refine wpAny_call (codeAny_mono (F X.A X.stack s2 H2 us vs Q (E σ) hr I3.env0 r q2) fun r s' hq => ?_)
  cases r with
  | error e => exact hx σ pins H2 s2 e s' I3 hq
  | ok fl =>
    cases fl with
    | ret v => exact I3.after hq
    | next => exact False.elim hq
    | brk => exact False.elim hq
    | cont => exact False.elim hq
end
end K8
set_option Elab.async false
set_option linter.all false
set_option maxRecDepth 100000
set_option maxHeartbeats 4000000
/-! Rules: str(o), len(o), o != p of own classes. -/
namespace K8
open PySem PySem.Spec PyProof.Rows L2
section
open PySem.W
variable {prog : Program} {w : World} {A : Around} {E : Value → Shared → Prop} {s : Shared} {K : Frag} {x b C f : Addr} {ox ob : Obj} {od od' : Option Obj}
/-- a special method that is a built-in slot -/
theorem ifBound_slot {M : Model} {name : Str} {T id : String} {args : List Value} {Q : Option Value → Shared → Prop} (X : K.In s.heap) (I : InstAt s.heap x ox C od) (hs : findIn K (.ref C) name = some (some (.builtin id))) (S : Slot T name id)
    (h : wpAny M A (call (.builtin id) (.ref x :: args)) (fun v => Q (some v)) E s) : wpAny M A (callSpecialIfBound? (.ref x) name args) Q E s := by
  have fin : wpAny M A (call (.builtin id) ([.ref x] ++ args) >>= fun v => pure (some v)) Q E s := wpAny_bind (wpAny_mono h (fun v s' h' => wpAny_pure h') fun _ _ h' => h')
  simp only [callSpecialIfBound?, bindSpecialIfBound?]
  refine wpAny_holding (wpAny_bind (wpAny_bind (wpAny_bind (I.type.here ((looks_findIn X hs).here ?_)))))
  simp only [S.bind]
  refine wpAny_bind (wpAny_askSetting (wpAny_ite ?_))
  split
  · exact wpAny_bind (wpAny_pure (wpAny_pure fin))
  · exact wpAny_tryCatch (wpAny_bind (wpAny_pure (wpAny_pure fin)))
theorem ne_own {Q : Value → Shared → Prop} (hu : A.units + 1 < cLine) (X : K.In s.heap) (I : InstAt s.heap x ox C od) (J : InstAt s.heap b ob C od') (hn : findIn K (.ref C) "__ne__" = some (some (.builtin "object.__ne__")))
    (he : findIn K (.ref C) "__eq__" = some (some (.ref f))) (hf : isFn K (.ref f) = true) (hm : mroIn K C (.type "object") = some true)
    (h : wpAny (model prog w) A.in1 (call (.ref f) [.ref x, .ref b]) (fun v s' => ∃ r, v = .bool r ∧ Q (.bool (!r)) s') E s) : wpAny (model prog w) A (richCompare .NotEq (.ref x) (.ref b)) Q E s := by
  have sub : Looks (model prog w) s.heap (isInstance (.ref x) (.type "object")) true := I.type.andThen (looks_mroIn X hm)
  have body : wpAny (model prog w) A.in1 (Builtin.«object.__ne__» ⟨[.ref x, .ref b], []⟩) (fun r s' => ∃ k, r = .done (.ret (.bool k)) ∧ Q (.bool k) s') E s := by
    unfold Builtin.«object.__ne__»
    refine wpAny_bind (wpAny_of_eq (a := ((Value.ref x : Value), [Value.ref b])) (by first | rfl | (simp only [slotArgs]; rfl)) ?_)
    refine wpAny_bind (m := cRoomFor _ _) (wpAny_cRoomFor (show A.units + 1 < cLine from hu) ?_)
    refine wpAny_bind (ifBound_K X I he hf (wpAny_mono h (fun v s' hv => ?_) fun _ _ z => z))
    obtain ⟨r, rfl, q⟩ := hv
    refine wpAny_bind ?_
    refine wpAny_mono (Q := fun r' s'' => r' = r ∧ s'' = s') (E := fun _ _ => False) ?_ (fun r' s'' z => ?_) fun _ _ z => z.elim
    · first
        | exact wpAny_pure ⟨rfl, rfl⟩
        | (unfold truthy; exact wpAny_pure ⟨rfl, rfl⟩)
    · obtain ⟨rfl, rfl⟩ := z
      exact wpAny_pure ⟨_, rfl, q⟩
  have one : wpAny (model prog w) A (tryCompare (.ref x) (cmpInfo .NotEq).2.1 (.ref b)) (fun r s' => ∃ v, r = some v ∧ Q v s') E s := by
    unfold tryCompare
    refine wpAny_bind (ifBound_slot (T := "object") (id := "object.__ne__") X I hn PySem.F.cmp_object.ne (wpAny_call (codeAny_call_builtin PySem.F.cmp_object.ne.plain PySem.F.cmpEntry_ne
      (check_slot PySem.F.cmpKind_ne PySem.F.cmpSplit_ne sub (PySem.F.cmpArgs_ne _ _) (wpAny_mono body (fun r s' z => ?_) fun _ _ z => z)))))
    obtain ⟨k, rfl, q⟩ := z
    exact wpAny_pure ⟨_, rfl, q⟩
  unfold richCompare
  simp only [oneThing_ref]
  refine wpAny_holding (wpAny_bind (wpAny_cRoomFor (Nat.lt_of_succ_lt hu) ?_))
  refine wpAny_bind (I.type.here (wpAny_bind (J.type.here ?_)))
  split
  · rename_i q
    simp at q
  · refine wpAny_bind (wpAny_pure ?_)
    simp only [Bool.false_eq_true, if_false]
    refine wpAny_bind (wpAny_mono one (fun r s' z => ?_) fun _ _ e => e)
    obtain ⟨v, rfl, hq⟩ := z
    exact wpAny_pure hq
end
section
variable {X : Cx}
theorem inst_of {pins : List (Addr × Obj)} {σ : L2.St} {H : Hp} {s : Shared} {a C dx : Addr} {fs : List (Str × V)} (I : Inv X pins σ H s) (h : H a = some (.ins C dx fs)) : ∃ ox od, PySem.W.InstAt s.heap a ox C (some od) := by
  obtain ⟨mA, O, _⟩ := ins_get I.hok h
  obtain ⟨od, J, _⟩ := O.look
  exact ⟨_, od, J⟩
/-- a def called by the machine itself, somewhat deeper -/
theorem run_deep {pins : List (Addr × Obj)} {σ : L2.St} {H : Hp} {s : Shared} {A' : Around} {k : Nat} {f : Addr} {sp : Sp} {us : List Value} {vs : List V} {Q : VK} {R : Value → Shared → Prop} {E : Value → Shared → Prop} (F : FnR X.prog X.w X.K X.mg X.base CX0 k f sp) (hr : Room k A') (hf : A'.frames = X.A.frames)
    (I : Inv X pins σ H s) (r : Vals vs us) (h : sp vs H Q E0) (hR : ∀ v u H' s', Inv X pins σ H' s' → RelV v u → Q v H' → R u s') : wpAny (model X.prog X.w) A' (call (.ref f) us) R E s := by
  have e := I.env0
  refine wpAny_call (codeAny_mono (F A' X.stack s H us vs Q E0 hr ⟨by rw [hf]; exact e.frames, e.mod, e.bs, e.bsz, e.funs, e.frf, e.hok, e.bare⟩ r h) fun z s' hq => ?_)
  cases z with
  | error _ => exact False.elim hq
  | ok fl =>
    cases fl with
    | ret u =>
      obtain ⟨v, H', I', rv, q⟩ := I.after hq
      exact hR v u H' s' I' rv q
    | next => exact False.elim hq
    | brk => exact False.elim hq
    | cont => exact False.elim hq
/-- len(o) by o's own __len__ -/
def rLenO (C : Addr) (sp : Sp) : List V → Hp → VK → Prop := fun xs H Q => ∃ (a dx : Addr) (fs : List (Str × V)), xs = [.ref a] ∧ H a = some (.ins C dx fs) ∧ sp [.ref a] H (fun v H' => ∃ n : Int, v = .int n ∧ 0 ≤ n ∧ n < 2 ^ 63 ∧ Q (.int n) H') E0
theorem call_lenO {k : Nat} {C f : Addr} {sp : Sp} (F : FnR X.prog X.w X.K X.mg X.base CX0 k f sp) (hs : PySem.W.findIn X.K (.ref C) "__len__" = some (some (.ref f))) (hf : PySem.W.isFn X.K (.ref f) = true) (hr : Room (k + 1) X.A) : CallR X (.builtin "len") (rLenO C sp) := by
  intro pins s σ H xs us Q I r h
  obtain ⟨a, dx, fs, rfl, ha, q⟩ := h
  obtain rfl := Vals.ref1 r
  obtain ⟨ox, od, J⟩ := inst_of I ha
  obtain ⟨m, hF⟩ := I.fr
  refine PySem.W.len_K hF I.ok.mod.kin J hs hf (run_deep (vs := [V.ref a]) F hr.in1 rfl I (.cons rfl .nil) q fun v u H' s' I' rv hq => ?_)
  obtain ⟨n, rfl, h0, h1, hq⟩ := hq
  obtain ⟨t, rfl⟩ := rv
  exact ⟨⟨h0, h1⟩, .int n, H', I'.tok _, ⟨_, rfl⟩, hq⟩
/-- str(o) by o's own __str__ -/
def rStrO (C : Addr) (sp : Sp) : List V → Hp → VK → Prop := fun xs H Q => ∃ (a dx : Addr) (fs : List (Str × V)), xs = [.ref a] ∧ H a = some (.ins C dx fs) ∧ sp [.ref a] H (fun v H' => ∃ z : Str, v = .str z ∧ Q (.str z) H') E0
theorem call_strO {k : Nat} {C f : Addr} {sp : Sp} (F : FnR X.prog X.w X.K X.mg X.base CX0 k f sp) (hs : PySem.W.findIn X.K (.ref C) "__str__" = some (some (.ref f))) (hf : PySem.W.isFn X.K (.ref f) = true) (hr : Room (k + 2) X.A) : CallR X (.type "str") (rStrO C sp) := by
  intro pins s σ H xs us Q I r h
  obtain ⟨a, dx, fs, rfl, ha, q⟩ := h
  obtain rfl := Vals.ref1 r
  obtain ⟨ox, od, J⟩ := inst_of I ha
  have hr2 : Room k X.A.in1.in1 := hr.in1.in1
  refine PySem.W.kso_call hr2.units0 I.kIn J hs hf (run_deep (vs := [V.ref a]) F hr2 rfl I (.cons rfl .nil) q fun v u H' s' I' rv hq => ?_)
  obtain ⟨z, rfl, hq⟩ := hq
  obtain ⟨t, rfl⟩ := rv
  exact ⟨.str z, H', I', ⟨_, rfl⟩, hq⟩
/-- o != p by the class's own __eq__ -/
def rNeO (C : Addr) (sp : Sp) : R2 := fun x y H Q => ∃ (a b dx dy : Addr) (fs gs : List (Str × V)), x = .ref a ∧ y = .ref b ∧ H a = some (.ins C dx fs) ∧ H b = some (.ins C dy gs) ∧ sp [.ref a, .ref b] H (fun v H' => ∃ r : Bool, v = .bl r ∧ Q (.bl (!r)) H') E0
theorem op_neO {k : Nat} {C f : Addr} {sp : Sp} (F : FnR X.prog X.w X.K X.mg X.base CX0 k f sp) (hn : PySem.W.findIn X.K (.ref C) "__ne__" = some (some (.builtin "object.__ne__"))) (hs : PySem.W.findIn X.K (.ref C) "__eq__" = some (some (.ref f))) (hf : PySem.W.isFn X.K (.ref f) = true)
    (hm : PySem.W.mroIn X.K C (.type "object") = some true) (hr : Room (k + 1) X.A) : OpR X (compareOp .NotEq) (rNeO C sp) := by
  intro pins s σ H x y v u Q I rx ry h
  obtain ⟨a, b, dx, dy, fs, gs, rfl, rfl, ha, hb, q⟩ := h
  cases rx
  cases ry
  obtain ⟨ox, od, J⟩ := inst_of I ha
  obtain ⟨oy, od', J'⟩ := inst_of I hb
  show wpAny (model X.prog X.w) X.A (richCompare .NotEq (.ref a) (.ref b)) (EP X pins σ Q) X.xe s
  refine ne_own (by have := hr.un; omega) I.kIn J J' hn hs hf hm (run_deep (vs := [V.ref a, V.ref b]) F hr.in1 rfl I (.cons rfl (.cons rfl .nil)) q fun v u H' s' I' rv hq => ?_)
  obtain ⟨r, rfl, hq⟩ := hq
  cases rv
  exact ⟨r, rfl, .bl (!r), H', I', rfl, hq⟩
end
end K8
set_option Elab.async false
set_option linter.all false
set_option maxRecDepth 100000
set_option maxHeartbeats 4000000
/-! Rules: a, *rest = a list. -/
namespace K8
open PySem PySem.Spec PyProof.Rows L2
section
open PySem.W
variable {prog : Program} {w : World} {A : Around} {E : Value → Shared → Prop} {s : Shared} {env : Env} {elts : List Expr} {k : Nat} {pos : Pos}
/-- the items of a list for i + 1 targets, the last of them starred -/
theorem star_last {l : Addr} {its : List Value} {i : Nat} {Q : List Value → Shared → Prop} (pl : s.heap.IsList l its.toArray) (hh : A.handled = none) (hi : i ≤ its.length) (hz : its.length ≤ 16384)
    (h : ∀ (h2 : Heap) (tk : Nat), (∀ b o, s.heap.get? b = some o → h2.get? b = some o) →
      Q (its.take i ++ [.ref h2.objs.size]) { s with heap := h2.push { cls := .type "list", data := .seq (its.drop i).toArray }, toks := tk }) : wpAny (model prog w) A (unpackItems (.ref l) (i + 1) (some i)) Q E s := by
  have size : its.toArray.size = its.length := List.size_toArray
  obtain ⟨ol, hol, rl⟩ := id pl
  have apart : l ≠ s.heap.objs.size := Nat.ne_of_lt (Heap.lt_size hol)
  unfold unpackItems
  refine wpAny_bind ?_
  unfold notIterableAtAll
  refine wpAny_bind (wpAny_specialOf pl.typeIs slot_list_iter.lookup ?_)
  refine wpAny_pure ?_
  simp only [Bool.false_eq_true, if_false]
  refine wpAny_bind (wpAny_holding (wpAny_pyIter_list pl ?_))
  refine wpAny_bind (wpAny_holding (kun_draw apart i 0 _ _ ⟨_, Heap.get?_push_size _ rfl, rfl, rfl⟩ (pl.push _) (by rw [size]; omega) fun h₁ turn1 same1 => ?_))
  have list1 := (pl.push { cls := .type "list_iterator", data := .fields #[.ref l, .int 0 0] }).extBut same1.extBut apart
  rw [Nat.zero_add] at turn1
  obtain ⟨oi, hoi, ri⟩ := id turn1
  obtain ⟨o1, ho1, _⟩ := id list1
  rw [List.drop_zero]
  have lfirst : (its.take i).length = i := by rw [List.length_take]; omega
  rw [if_neg (show ¬ ((its.take i).length < i) by rw [lfirst]; omega)]
  refine wpAny_bind (wpAny_holding (kun_collect (s := { s with heap := h₁ }) (T := "list_iterator") (.inr (.inr (.inl rfl))) (Walks.list (A := A.in1) hh s.heap.objs.size l apart its.toArray) (fun j u st => st.1.typeIs) (k := i) (by rw [size]; exact hi) ⟨turn1, list1⟩ (Heap.lt_size hoi) (Heap.lt_size ho1)
    (fun h₂ tk kept2 => ?_) (by rw [size, sizeLine_eq]; omega)))
  have e0 : i + 1 - 1 - i = 0 := by omega
  show wpAny _ _ (if (its.drop i).length < i + 1 - 1 - i then _ else _) _ _ _
  rw [if_neg (show ¬ ((its.drop i).length < i + 1 - 1 - i) by rw [e0]; exact Nat.not_lt_zero _)]
  show wpAny _ _ (newList ((its.drop i).take ((its.drop i).length - (i + 1 - 1 - i))) >>= fun d => pure (its.take i ++ [d] ++ (its.drop i).drop ((its.drop i).length - (i + 1 - 1 - i)))) _ _ _
  rw [e0, Nat.sub_zero, List.take_length, List.drop_length]
  have keep : ∀ b o, s.heap.get? b = some o → h₂.get? b = some o := fun b o e => by
    have ne : b ≠ s.heap.objs.size := Nat.ne_of_lt (Heap.lt_size e)
    exact kept2 b o ne (same1.extBut b o ne (Heap.get?_push_of_some _ e))
  refine wpAny_bind (wpAny_newList (wpAny_pure ?_) (by rw [List.length_drop, sizeLine_eq]; omega))
  rw [List.append_nil]
  exact h _ tk keep
end
section
variable {X : Cx} {pos : Pos}
theorem pgs_star {e : Expr} {es : List Expr} {p : Pos} {t : TG} {u : TGs} (h1 : PG X e t) (h2 : PGs X es u) : PGs X (.Starred e p :: es) (gCons t u) := by
  refine ⟨fun pins s σ H vs us Q I r h => ?_⟩
  obtain ⟨v, vr, e1, h⟩ := h
  subst e1
  cases r with
  | cons r rr => exact assignInOrder_cons (thn (h1.run pins s σ H _ _ _ I r h) fun _ s1 ⟨σ1, H1, I1, q1⟩ => h2.run pins s1 σ1 H1 _ _ Q I1 rr q1)
/-- (a, .., *z) = a list: i targets ahead of the starred one -/
def gStar (K : PySem.W.Frag) (i : Nat) (t : TGs) : TG := fun v σ H Q => ∃ a xs, v = .ref a ∧ SqL K H a xs ∧ i ≤ xs.length ∧ xs.length ≤ 1000 ∧
  ∀ p, H p = none → t (xs.take i ++ [.ref p]) σ (upd H p (.lst (xs.drop i))) Q
theorem pg_star {es : List Expr} {k : Nat} {t : TGs} (i : Nat) (hc : X.calm = true) (h : PGs X es t)
    (hn : (assignEach es X.env).length = i + 1 := by rfl) (hst : (assignEach es X.env).findIdx? (·.1) = some i := by rfl) : PG X (.Tuple es k pos) (gStar X.K i t) := by
  refine ⟨fun pins s σ H v u Q I r hw => ?_⟩
  obtain ⟨a, xs, e1, hq, hl, hz, hw⟩ := hw
  subst e1
  cases r
  obtain ⟨its, rv, ht, _⟩ := I.list hq
  have hlen := rv.length
  rw [assign_Tuple]
  refine wpAny_bind (wpAny_standAt ?_)
  unfold unpack
  rw [hn, hst]
  refine wpAny_bind (wpAny_holding (star_last ht.isList (I.ok.hd hc) (by omega) (by omega) fun h2 tk keep => ?_))
  have I1 : Inv X pins σ H { s with heap := h2, toks := tk } := I.kept keep
  have hp : H h2.objs.size = none := I1.hok.fresh (Nat.le_refl _)
  have I2 := I1.laid (a := h2.objs.size) (o := .lst (xs.drop i)) (h' := h2.push { cls := .type "list", data := .seq (its.drop i).toArray }) (t' := tk) (fun b o e => Heap.get?_push_of_some _ e) (Nat.le_refl _)
    ⟨by rw [List.length_drop, sizeLine_eq]; omega, its.drop i, 0, Vals.drop i rv, Heap.get?_push_size _ rfl⟩
  exact h.run pins _ σ _ _ _ Q I2 (Vals.append (Vals.take i rv) (.cons (show RelV (.ref h2.objs.size) (Value.ref h2.objs.size) from rfl) .nil)) (hw _ hp)
end
end K8
set_option Elab.async false
set_option linter.all false
set_option maxRecDepth 100000
set_option maxHeartbeats 4000000
/-! Rules: repr of a tuple of ints and texts, and so: defs that run where nothing is shown yet. -/
namespace K8
open PySem PySem.Spec PyProof.Rows L2
def dat : Key → PyData
  | .inl i => .int i
  | .inr x => .str x
def shownT (ks : List Key) : Str := PyData.shown (.tuple (ks.map dat))
def small : Key → Bool
  | .inl i => decide (i.natAbs < 10 ^ 12)
  | .inr x => x.cps.toList.all fun c => decide (c < 16 ^ 8)
section
variable {X : Cx}
theorem reads_keys {h : Heap} : ∀ {ks : List Key} {us : List Value}, Vals (ks.map kV) us → ReadsAll h us (ks.map dat) []
  | [], _, .nil => .nil
  | .inl i :: ks, _, .cons r t => by
    obtain ⟨tk, rfl⟩ := r
    exact ReadsAll.cons (as := []) (.int i tk) (reads_keys t)
  | .inr x :: ks, _, .cons r t => by
    obtain ⟨tk, rfl⟩ := r
    exact ReadsAll.cons (as := []) (.str x tk) (reads_keys t)
theorem nodict_keys : ∀ ks : List Key, PyData.hasDictAll (ks.map dat) = false
  | [] => rfl
  | .inl i :: ks => by simp only [List.map_cons, PyData.hasDictAll, nodict_keys ks, dat, PyData.hasDict, Bool.or_self]
  | .inr i :: ks => by simp only [List.map_cons, PyData.hasDictAll, nodict_keys ks, dat, PyData.hasDict, Bool.or_self]
theorem log_small {i : Int} (h : i.natAbs < 10 ^ 12) : i.natAbs.log2 < 1920 := by
  by_cases z : i.natAbs = 0
  · rw [z]; decide
  · have := (Nat.log2_lt z (k := 64)).mpr (Nat.lt_trans h (by decide))
    omega
theorem show_keys : ∀ ks : List Key, ks.all small = true → PyData.showableAll (ks.map dat) = true
  | [], _ => rfl
  | .inl i :: ks, h => by
    simp only [List.all_cons, Bool.and_eq_true, small, decide_eq_true_eq] at h
    simp only [List.map_cons, PyData.showableAll, dat, PyData.showable, show_keys ks h.2, Bool.and_true, decide_eq_true_eq]
    exact log_small h.1
  | .inr x :: ks, h => by
    simp only [List.all_cons, Bool.and_eq_true] at h
    simp only [List.map_cons, PyData.showableAll, dat, PyData.showable, show_keys ks h.2, Bool.and_true]
theorem short_keys : ∀ ks : List Key, ks.all small = true → PyData.leavesShortAll 13 (ks.map dat) = true
  | [], _ => rfl
  | .inl i :: ks, h => by
    simp only [List.all_cons, Bool.and_eq_true, small, decide_eq_true_eq] at h
    simp only [List.map_cons, PyData.leavesShortAll, dat, PyData.leavesShort, short_keys ks h.2, Bool.and_true, decide_eq_true_eq]
    exact PyData.shown_int_le h.1
  | .inr x :: ks, h => by
    simp only [List.all_cons, Bool.and_eq_true] at h
    simp only [List.map_cons, PyData.leavesShortAll, dat, PyData.leavesShort, short_keys ks h.2, Bool.and_true]
    exact h.1
theorem depth_keys : ∀ ks : List Key, PyData.depthAll (ks.map dat) = 0
  | [] => rfl
  | .inl i :: ks => by simp [PyData.depthAll, dat, PyData.depth, depth_keys ks]
  | .inr i :: ks => by simp [PyData.depthAll, dat, PyData.depth, depth_keys ks]
/-- repr(a tuple of ints and texts) -/
def rRepr (K : PySem.W.Frag) : List V → Hp → VK → Prop := fun xs H Q => ∃ (a : Addr) (ks : List Key), xs = [.ref a] ∧ SqT K H a (ks.map kV) ∧ ks.all small = true ∧ PyData.weight (.tuple (ks.map dat)) ≤ 2 ^ 20 ∧ Q (.str (shownT ks)) H
theorem call_reprD (hr : Room 1 X.A) (hg : X.A.guards = some []) : CallR X (.builtin "repr") (rRepr X.K) := by
  intro pins s σ H xs us Q I r h
  obtain ⟨a, ks, rfl, ha, hs, hw, q⟩ := h
  obtain rfl := Vals.ref1 r
  obtain ⟨its, rv, ⟨o, ho, hc, n, hd⟩, _⟩ := I.tuple ha
  have R : Reads s.heap (.ref a) (.tuple (ks.map dat)) [] := .tuple ho hc hd (by simpa using reads_keys rv)
  have hu := hr.un
  refine repr_of_reads' R (by simpa only [PyData.showable] using show_keys ks hs) (fun e => ?_) hg ?_ (fun _ _ e => e) (fun h' u tk hk => ?_) (PyData.shown_fits (B := 13) (by decide) (by decide) (by simpa only [PyData.leavesShort] using short_keys ks hs) hw)
  · simp only [PyData.hasDict, nodict_keys ks] at e
    cases e
  · simp only [PyData.depth, depth_keys ks]
    omega
  · exact ⟨.str _, H, I.kept hk, ⟨_, rfl⟩, q⟩
end

/-! defs that are promised only where no repr is under way -/
def FnG (P : Program) (w : World) (K : PySem.W.Frag) (mg : Str → Option Value) (base : Heap) (CX : CXT) (k : Nat) (f : Addr) (sp : Sp) : Prop :=
  ∀ (A : Around) (outer : List Env) (s : Shared) (H : Hp) (us : List Value) (vs : List V) (Q : VK) (E : XK), A.guards = some [] → Room k A → Env0 P w K mg base A outer s H → Vals vs us → sp vs H Q E →
    codeAny (model P w) A (.call (.ref f) ⟨us, []⟩) (CR CX outer P w H s Q E) s
section
variable {P : Program} {w : World} {K : PySem.W.Frag} {mg : Str → Option Value} {base : Heap} {CX : CXT} {k : Nat} {f : Addr} {fd : FuncData} {x qual : Str} {st : Stmt} {N ps : List Str} {sp : Sp}
theorem okG (D : Fun K x qual st f fd) (S : FnScope N ps (defScope st)) (bd : Binds K fd ps []) (len : ∀ vs H Q E, sp vs H Q E → vs.length = ps.length)
    (body : ∀ (cv : Value) (A : Around) (outer : List Env) (s : Shared) (H : Hp) (vs : List V) (Q : VK) (E : XK), A.guards = some [] → Room k (A.deeper (envOfC qual (defScope st) s.heap.objs.size f cv)) → sp vs H Q E →
      ∃ t, PSs (cxOf CX P w K mg base N qual (defScope st) f cv A outer s H E) (defBody st) t ∧ t { nx := fun _ H' => Q .non H', rt := Q } (start N vs) H) : FnG P w K mg base CX (k + 1) f sp := by
  obtain ⟨oc, od, kV, doc, pm, an, cv, ct, osl, rfl, lk, hcd⟩ := D.ex
  intro A outer s H us vs Q E g room e0 rv hs
  have n1 := len _ _ _ _ hs
  have KX : K.In s.heap := e0.mod.kin.keeps fun b o e => (e0.bs b o e).1
  have free := e0.mod.nolimit.keeps fun b o e => (e0.bs b o e).1
  have n2 : (us ++ []).length = ps.length := by rw [List.append_nil, ← rv.length]; exact n1
  have kinds : ∀ y ∈ ps.zip us, (defScope st).names.lookup y.1 = some .local ∨ ((defScope st).names.lookup y.1 = some .cell ∧ ((cellsFrom (s.heap.objs.size + 1) (defScope st).names []).lookup y.1).isSome = true) := fun y hy => by
    rcases S.par y.1 (List.of_mem_zip hy).1 with q | q
    · exact .inl q
    · exact .inr ⟨q, PySem.W.cellsFrom_some _ _ _ (.inl q)⟩
  have bind := bd s us KX n2
  rw [List.append_nil] at bind
  refine codeAny_call_function room.depth (KX _ _ lk) rfl S.co S.gen rfl (PySem.W.codeRec_of KX hcd) (bind _ _ _ _ ?_)
  refine wpAny_newFunctionEnv_cells S.kind kinds fun env he s1 z => ?_
  subst he
  refine ⟨free.keeps z.toInCall.keep, codeAny_func ?_⟩
  obtain ⟨t, term, reading⟩ := body cv A outer s H vs Q E g (room.deeper _) hs
  have I := inv_start (E := E) (CX := CX) S room.hd e0 n1 rv z
  refine wpAny_mono (term.run [] s1 (start N vs) H _ I reading) (fun fl s' h => ?_) fun _ _ h => h
  cases fl with
  | ret u =>
    obtain ⟨v, _, H', J, r, q⟩ := h
    exact ⟨v, H', J.os, J.bare, J.base, J.hok, r, q⟩
  | next =>
    obtain ⟨_, H', J, q⟩ := h
    exact ⟨V.non, H', J.os, J.bare, J.base, J.hok, rfl, q⟩
  | brk =>
    obtain ⟨_, _, _, q⟩ := h
    exact q.elim
  | cont =>
    obtain ⟨_, _, _, q⟩ := h
    exact q.elim
/-- .. that raises nothing -/
theorem okG0 (D : Fun K x qual st f fd) (S : FnScope N ps (defScope st)) (bd : Binds K fd ps []) (len : ∀ vs H Q E, sp vs H Q E → vs.length = ps.length)
    (body : ∀ (cv : Value) (A : Around) (outer : List Env) (s : Shared) (H : Hp) (vs : List V) (Q : VK) (E : XK), A.guards = some [] → Room k (A.deeper (envOfC qual (defScope st) s.heap.objs.size f cv)) → sp vs H Q E →
      ∃ t, PSs (cxOf CX0 P w K mg base N qual (defScope st) f cv A outer s H E).nox (defBody st) t ∧ t { nx := fun _ H' => Q .non H', rt := Q } (start N vs) H) : FnG P w K mg base CX0 (k + 1) f sp :=
  okG D S bd len fun cv A outer s H vs Q E g hr hs => let ⟨t, h, q⟩ := body cv A outer s H vs Q E g hr hs; ⟨t, h.nox, q⟩
end
section
variable {X : Cx} {CX : CXT} {k : Nat} {f : Addr} {sp : Sp} {x : Str} {e : Expr} {es : List Expr} {t : TA} {p pos : Pos}
theorem pe_callG (F : FnG X.prog X.w X.K X.mg X.base CX0 k f sp) (g : X.A.guards = some []) (hr : Room k X.A) (hg : Gl X x) (hm : X.mg x = some (.ref f)) (hk : PySem.W.keepIn X.K (.ref f) = true) (ha : PA X (e :: es) t)
    (hdb : (x == ("__debug__" : Str)) = false := by decide) (he : starEach (e :: es) X.env = (false, eval e X.env) :: starEach es X.env := by rfl) (hpl : (backTo pos (starEach es X.env)).any (·.1) = false := by rfl) :
    PE X (.Call (.Name x p) (e :: es) [] pos) (fun σ H Q => t σ H fun vs H1 => sp vs H1 Q E0) := by
  refine ⟨fun pins s σ H Q I h => wpAny_Call_Name_kw (ld_glob I hg hm ?_ hdb)⟩
  refine PySem.W.callWith_K (h₀ := X.base) I.ok.mod.kin hk (thn (ha.run pos pins s σ H _ I h) fun us s1 ⟨vs, H1, I1, r, q⟩ => ⟨I1.kIn, ?_⟩) he hpl
  refine wpAny_call (codeAny_mono (F X.A X.stack s1 H1 us vs Q E0 g hr I1.env0 r q) fun z s' hq => ?_)
  cases z with
  | error _ => exact False.elim hq
  | ok fl =>
    cases fl with
    | ret v => exact I1.after hq
    | next => exact hq.elim
    | brk => exact hq.elim
    | cont => exact hq.elim
end
end K8
set_option Elab.async false
set_option linter.all false
set_option maxRecDepth 100000
set_option maxHeartbeats 4000000
/-! Rules: sorted(set(a list of texts)). The roads are those of the layer's sets of ints, turned to texts. -/
namespace K8
open PySem PySem.Spec PyProof.Rows L2
abbrev sK (P : Program) (w : World) := PySem.strKind P w
def txOf (e : Int × Value) : Str := match e.2 with | .str x _ => x | _ => Str.empty
def TxE (w : World) (e : Int × Value) : Prop := ∃ x tk, e.2 = Value.str x tk ∧ e.1 = hashStr w x
/-- the set of texts at a -/
def TxSet (w : World) (h : Heap) (a : Addr) (xs : List Str) : Prop :=
  ∃ o es ep t, h.get? a = some o ∧ o.ExactSet ∧ o.data = .set es ep t ∧ (∀ e ∈ es.toList, TxE w e) ∧ (es.toList.map txOf).Perm xs ∧ es.size < scanBound ∧ t.fits es.size = true ∧ Ris t.place.toList ∧
    (w.params.followText "set-order" = true ∨ t.led = true)
def emptySet (w : World) : Obj := { cls := .type "set", dict := none, data := .set #[] 0 (.fresh 0 0 (!w.params.followText "set-order")) }
theorem txset_new {w : World} {h : Heap} {a : Addr} (e : h.get? a = some (emptySet w)) : TxSet w h a [] :=
  ⟨_, #[], 0, _, e, ⟨rfl, rfl, rfl⟩, rfl, fun _ z => by simp at z, by simp, by decide, by rfl, List.Pairwise.nil, by
    show _ ∨ (!w.params.followText "set-order") = true
    cases w.params.followText "set-order" <;> simp⟩
theorem TxSet.stay {w : World} {h h' : Heap} {a : Addr} {xs : List Str} (x : TxSet w h a xs) (k : ∀ o, h.get? a = some o → h'.get? a = some o) : TxSet w h' a xs :=
  let ⟨o, es, ep, t, ho, r⟩ := x
  ⟨o, es, ep, t, k o ho, r⟩
section
variable {P : Program} {w : World} {A : Around} {E : Value → Shared → Prop} {s : Shared} {a : Addr} {xs : List Str}
theorem tx_elems {l : List (Int × Value)} (g : ∀ e ∈ l, TxE w e) : ElemsOf (sK P w) l := fun e he => by
  obtain ⟨x, tk, h1, h2⟩ := g e he
  exact ⟨⟨x, by rw [h1]; exact strKind_is P w x tk, h2⟩, by rw [h1] <;> rfl⟩
theorem tx_is {e : Int × Value} (g : TxE w e) (x : Str) : (sK P w).is x e.2 = true ↔ txOf e = x := by
  obtain ⟨y, tk, h1, _⟩ := g
  unfold txOf
  rw [h1]
  show Value.isStrOf x (Value.str y tk) = true ↔ y = x
  simp [Value.isStrOf]
/-- what add leaves -/
def plus (xs : List Str) (x : Str) : List Str := if x ∈ xs then xs else x :: xs
theorem tx_tail {g : Bool → Sem Unit} (hg : ∀ (b : Bool) (s1 : Shared) (Q' : Unit → Shared → Prop), Q' () s1 → wpAny (model P w) A (g b) Q' E s1)
    {o : Obj} {es : Array (Int × Value)} {ep : Nat} {t : SetTable} (ho : s.heap.get? a = some o) (hex : o.ExactSet) (hd : o.data = .set es ep t)
    {es1 : Array (Int × Value)} {t2 : SetTable} {ys : List Str} (good : ∀ e ∈ es1.toList, TxE w e) (mem : (es1.toList.map txOf).Perm ys)
    (small : es1.size < scanBound) (fit : t2.fits es1.size = true) (rise : Ris t2.place.toList) (led : w.params.followText "set-order" = true ∨ t2.led = true) {was : Bool} {R : Option Bool → Shared → Prop}
    (done : ∀ h', Heap.SameBut a s.heap h' → TxSet w h' a ys → R (some true) { s with heap := h' }) :
    wpAny (model P w) A (do
        storeSet a es1 t2
        if (!was && t2.tooFull) = true then do
            g (relayAll t2 es1 (SetTable.grown es1.size)).2.2
            storeSet a (relayAll t2 es1 (SetTable.grown es1.size)).1 (relayAll t2 es1 (SetTable.grown es1.size)).2.1
            pure (some true)
          else pure (some true)) R E s := by
  refine wpAny_bind (wpAny_storeSet_of ho hd ?_ (fits_of_scanBound small))
  have first := store_at (es' := es1) (t' := t2) ho hd
  have only := Heap.SameBut.update s.heap a (Obj.putSet es1 t2)
  split
  · have perm := relayAll_perm t2 es1 (SetTable.grown es1.size)
    have fit3 := relayAll_fits t2 es1 (SetTable.grown es1.size)
    have rise3 := relayAll_ris t2 es1 (SetTable.grown es1.size)
    have led3 := relayAll_led t2 es1 (SetTable.grown es1.size)
    generalize relayAll t2 es1 (SetTable.grown es1.size) = Z at perm fit3 rise3 led3 ⊢
    obtain ⟨es2, t3, gave⟩ := Z
    dsimp only at perm fit3 rise3 led3 ⊢
    have many : es2.size = es1.size := by rw [← Array.length_toList, perm.length_eq, Array.length_toList]
    have small2 : es2.size < scanBound := by rw [many]; exact small
    refine wpAny_bind (hg _ _ _ ?_)
    refine wpAny_bind (wpAny_storeSet_of first rfl ?_ (fits_of_scanBound small2))
    refine wpAny_pure (done _ (only.trans (Heap.SameBut.update _ a _)) ?_)
    exact ⟨_, es2, _, t3, store_at (es' := es2) (t' := t3) first rfl, hex, rfl, fun e he => good e (perm.mem_iff.mp he), (perm.map txOf).trans mem, small2, fit3, rise3, led.imp id fun z => by rw [led3]; exact z⟩
  · exact wpAny_pure (done _ only ⟨_, es1, _, t2, first, hex, rfl, good, mem, small, fit, rise, led⟩)
theorem tx_add {x : Str} {tk : Tok} {Q : Bool → Shared → Prop} (T : TxSet w s.heap a xs) (room : xs.length + 1 < scanBound)
    (q : ∀ h' b, Heap.SameBut a s.heap h' → TxSet w h' a (plus xs x) → Q b { s with heap := h' }) :
    wpAny (model P w) A (setAddHashed a (.str x tk) ((sK P w).hash x)) Q E s := by
  obtain ⟨o, es, ep, t, ho, hex, hd, good, mem, small, fit, rise, led⟩ := T
  have key : (sK P w).is x (.str x tk) = true := strKind_is P w x tk
  have scan : (Value.str x tk).scannable = true := rfl
  have all : ElemsOf (sK P w) es.toList := tx_elems good
  have many : es.size = xs.length := by rw [← mem.length_eq, List.length_map, Array.length_toList]
  unfold setAddHashed setAddHashedIn
  refine wpAny_holding (wpAny_bind (wpAny_setState_of ho hd fit ?_))
  dsimp only
  rw [byScan_of scan small all]
  simp only [↓reduceIte]
  unfold setAddByScan
  refine wpAny_bind ?_
  refine wpAny_bind (wpAny_rule ?_)
  refine wpAny_bind (wpAny_setScan_of key ho hd fit all ?_)
  cases find : List.findIdx? (fun e => (sK P w).is x e.2) es.toList with
  | some j =>
    dsimp only
    obtain ⟨hj, pj, _⟩ := List.findIdx?_eq_some_iff_getElem.mp find
    have inside : x ∈ xs := mem.mem_iff.mp (List.mem_map.mpr ⟨_, List.getElem_mem hj, (tx_is (P := P) (good _ (List.getElem_mem hj)) x).1 pj⟩)
    refine wpAny_pure (wpAny_pure (q s.heap _ (Heap.SameBut.refl a s.heap) ⟨o, es, ep, t, ho, hex, hd, good, ?_, small, fit, rise, led⟩))
    unfold plus
    rw [if_pos inside]
    exact mem
  | none =>
    dsimp only
    have outside : x ∉ xs := fun z => by
      obtain ⟨e, he, e2⟩ := List.mem_map.mp (mem.mem_iff.mpr z)
      have c := List.findIdx?_eq_none_iff.mp find e he
      rw [(tx_is (P := P) (good e he) x).2 e2] at c
      cases c
    have gw : ∀ (b : Bool) {s1 : Shared} {Q' : Unit → Shared → Prop}, Q' () s1 → wpAny (model P w) A (match b with | true => rule "set.scan.the-table-gave-way" | false => pure ()) Q' E s1 :=
      fun b s1 Q' z => by cases b <;> first | exact wpAny_pure z | exact wpAny_rule z
    have perm := layNew_perm t es ((sK P w).hash x) (.str x tk)
    have fit1 := layNew_fits t es ((sK P w).hash x) (.str x tk)
    have rise1 := layNew_ris t es ((sK P w).hash x) (.str x tk) rise
    have led1 := layNew_led t es ((sK P w).hash x) (.str x tk)
    generalize layNew t es ((sK P w).hash x) (.str x tk) = Z at perm fit1 rise1 led1 ⊢
    obtain ⟨es1, t1, was, gave⟩ := Z
    dsimp only at perm fit1 rise1 led1 ⊢
    rw [Array.toList_push] at perm
    have pc : es1.toList.Perm (((sK P w).hash x, Value.str x tk) :: es.toList) := perm.trans (List.perm_append_singleton _ _)
    have good1 : ∀ e ∈ es1.toList, TxE w e := fun e he => by
      rcases List.mem_cons.mp (pc.mem_iff.mp he) with z | z
      · rw [z]; exact ⟨x, tk, rfl, rfl⟩
      · exact good e z
    have mem1 : (es1.toList.map txOf).Perm (plus xs x) := by
      unfold plus
      rw [if_neg outside]
      exact (pc.map txOf).trans (.cons x mem)
    have many1 : es1.size = xs.length + 1 := by rw [← Array.length_toList, pc.length_eq, List.length_cons, Array.length_toList, many]
    have small1 : es1.size < scanBound := by rw [many1]; exact room
    have ledd : w.params.followText "set-order" = true ∨ t1.led = true := led.imp id fun z => by rw [led1]; exact z
    refine wpAny_bind (gw _ ?_)
    split
    · refine wpAny_bind ?_
      rw [hashByValue_scannable 8 scan]
      refine wpAny_pure ?_
      refine tx_tail ?_ ho hex hd good1 mem1 small1 ?_ ?_ ?_ ?_
      · intro b s1 Q' z; cases b <;> first | exact wpAny_pure z | exact wpAny_rule z
      · first | (split <;> first | exact fit1 | exact SetTable.fits_plain_off fit1) | exact fit1
      · first | (split <;> exact rise1) | exact rise1
      · first | (split <;> exact ledd) | exact ledd
      · intro h' sb r; dsimp only; exact wpAny_pure (q h' _ sb r)
    · refine wpAny_bind (wpAny_pure ?_)
      simp only [↓reduceIte]
      refine tx_tail ?_ ho hex hd good1 mem1 small1 fit1 rise1 ledd ?_
      · intro b s1 Q' z; cases b <;> first | exact wpAny_pure z | exact wpAny_rule z
      · intro h' sb r; dsimp only; exact wpAny_pure (q h' _ sb r)
/-- the members of the set of the list's first items -/
def gather (xs : List Str) : List Str := xs.foldl plus []
theorem gather_snoc (xs : List Str) (x : Str) : gather (xs ++ [x]) = plus (gather xs) x := by unfold gather; rw [List.foldl_append]; rfl
theorem plus_len (xs : List Str) (x : Str) : (plus xs x).length ≤ xs.length + 1 := by unfold plus; split <;> simp
theorem gather_facts : ∀ n : Nat, ∀ xs : List Str, xs.length = n → (gather xs).length ≤ n ∧ (gather xs).Nodup ∧ ∀ y, y ∈ gather xs ↔ y ∈ xs
  | 0, xs, h => by
    have : xs = [] := List.eq_nil_of_length_eq_zero h
    subst this
    exact ⟨Nat.le_refl _, List.nodup_nil, fun y => Iff.rfl⟩
  | n + 1, xs, h => by
    obtain ⟨ys, x, rfl⟩ : ∃ ys x, xs = ys ++ [x] := ⟨xs.dropLast, xs.getLast (fun z => by rw [z] at h; cases h), (List.dropLast_concat_getLast _).symm⟩
    obtain ⟨h1, h2, h3⟩ := gather_facts n ys (by simpa using h)
    rw [gather_snoc]
    refine ⟨Nat.le_trans (plus_len _ _) (by omega), ?_, fun y => ?_⟩
    · unfold plus
      split
      · exact h2
      · exact List.nodup_cons.mpr ⟨by assumption, h2⟩
    · unfold plus
      split
      · rename_i z
        rw [List.mem_append, List.mem_singleton, h3 y]
        exact ⟨.inl, fun q => q.elim id fun e => by rw [e]; exact (h3 x).1 z⟩
      · rw [List.mem_append, List.mem_singleton, List.mem_cons, h3 y, or_comm]
theorem tx_loop {I : Addr} {fp wr : List Addr} {G : Array GenState → Array GenState → Prop} {n : Nat} {Pv : Nat → Value → Prop} {St : Nat → Shared → Prop} {R : Result → Shared → Prop}
    (W : WalksS P w A.in1 I fp wr G n Pv St) (S : Addr) (off : S ∉ fp) (hn : n = xs.length) (few : xs.length + 1 < scanBound) (val : ∀ i v, Pv i v → ∃ x t, xs[i]? = some x ∧ v = .str x t) :
    ∀ (k i : Nat) (s : Shared), n - i = k → i ≤ n → St i s → TxSet w s.heap S (gather (xs.take i)) →
      (∀ s', Moved (S :: wr) G s s' → TxSet w s'.heap S (gather xs) → R (.ok (.ret .none)) s') →
      codeAny (model P w) A (.builtin "set.update.loop" ⟨[.ref S, .ref I], []⟩) R s := by
  have offw : S ∉ wr := fun z => off (W.sub _ z)
  have more : ∀ b ∈ wr, b ∈ S :: wr := fun b z => List.mem_cons_of_mem _ z
  intro k
  induction k with
  | zero =>
    intro i s hk hi st T q
    obtain rfl : i = n := by omega
    refine codeAny_builtin F.entry_set_update_loop ?_
    rw [Around.under_plainId F.plain_set_update_loop _]
    show wpAny _ A.in1 (pyNext (.ref I) >>= _) _ _ s
    refine wpAny_bind (W.done s _ _ st fun s' mv => ?_)
    show wpAny _ A.in1 (ret Value.none) _ _ s'
    rw [List.take_of_length_le (by omega)] at T
    exact wpAny_pure (q s' (mv.mono more) (T.stay fun o e => mv.heap S o offw e))
  | succ k ih =>
    intro i s hk hi st T q
    have lt : i < n := by omega
    refine codeAny_builtin F.entry_set_update_loop ?_
    rw [Around.under_plainId F.plain_set_update_loop _]
    show wpAny _ A.in1 (pyNext (.ref I) >>= _) _ _ s
    refine wpAny_bind (W.item i s _ _ lt st fun v s' hP st' mv => ?_)
    obtain ⟨x, t, hx, rfl⟩ := val i v hP
    have T' := T.stay (h' := s'.heap) fun o e => mv.heap S o offw e
    show wpAny _ A.in1 (holding [Value.str x t] (setAdd S (.str x t)) >>= _) _ _ s'
    refine wpAny_bind (wpAny_holding ?_)
    unfold setAdd
    refine wpAny_holding ?_
    refine wpAny_bind ((sK P w).pyHash (k := x) (strKind_is _ _ _ _) ?_)
    have len := (gather_facts _ (xs.take i) rfl).1
    refine tx_add (s := { s' with toks := s'.toks + 1 }) T' (by rw [List.length_take] at len; omega) fun h' b sb T2 => ?_
    have e : gather (xs.take (i + 1)) = plus (gather (xs.take i)) x := by rw [List.take_add_one, hx]; exact gather_snoc _ _
    rw [← e] at T2
    refine wpAny_pure ⟨plainId_quiet F.plain_set_update_loop _, ih (i + 1) _ (by omega) lt (W.frame _ s' _ _ st' (Nat.le_succ _) fun b hb o e => ?_) T2 fun s'' mv2 T3 => ?_⟩
    · rw [sb.2 b (fun z => off (by rw [← z]; exact hb))]; exact e
    · refine q s'' (Moved.trans W.gtrans ((mv.mono more).then_heap (Nat.le_succ _) fun b o hb e => ?_) mv2) T3
      rw [sb.2 b (fun z => hb (by rw [z]; exact List.mem_cons_self))]; exact e

set_option maxHeartbeats 8000000 in
theorem tx_call {l : Addr} {items : Array Value} {Q : Value → Shared → Prop} (hh : A.handled = none) (hl : s.heap.IsList l items) (are : StrsAre items.toList xs) (few : xs.length + 1 < scanBound)
    (q : ∀ (h' : Heap) (tk : Nat), TxSet w h' s.heap.objs.size (gather xs) → (∀ b o, s.heap.get? b = some o → h'.get? b = some o) → Q (.ref s.heap.objs.size) { s with heap := h', toks := tk }) :
    wpAny (model P w) A (call (.type "set") [.ref l]) Q E s := by
  have size : items.size = xs.length := by rw [← StrsAre.len_eq are, Array.length_toList]
  obtain ⟨c, tl, hmro⟩ := F.called_set.mro
  have made := F.called_set.made
  have subs := F.called_set.sub
  refine wpAny_call (codeAny_of_tree ?_)
  show wpAny _ _ (callAny (.type "set") _) _ _ _
  refine wpAny_pure ⟨Code.quiet_builtin _ (by decide +kernel), codeAny_builtin F.entry_type_call ?_⟩
  rw [Around.under_plain (weight_type_call_type "set" [.ref l] []) rfl]
  have f1 := F.called_set.notType
  have f2 := F.called_set.canCreate
  have f3 := F.typeCall_set_1 (.ref l)
  repeat (any_goals (first | assumption | wp_step))
  refine codeAny_mono (code_set_led1 (.ref l) (E := E) (Q₁ := fun obj s1 => obj = .ref s.heap.objs.size ∧ s1 = { s with heap := s.heap.push (emptySet w) }) ⟨rfl, rfl⟩) fun r s1 hr => ?_
  cases r with
  | error e => exact hr
  | ok fl =>
    cases fl with
    | ret obj =>
      obtain ⟨rfl, rfl⟩ := hr
      have set0 : (s.heap.push (emptySet w)).get? s.heap.objs.size = some (emptySet w) := Heap.get?_push_size _ rfl
      have type0 : Shared.TypeIs { s with heap := s.heap.push (emptySet w) } (.ref s.heap.objs.size) "set" := ⟨_, set0, rfl⟩
      have look := F.called_set.init.lookup
      have bind := F.called_set.init.bind (.ref s.heap.objs.size)
      repeat (any_goals (first | assumption | wp_step))
      refine codeAny_mono (codeAny_call_builtin (R := wants (fun r s2 => r = .none ∧ ∃ h' tk, s2 = { s with heap := h', toks := tk } ∧ TxSet w h' s.heap.objs.size (gather xs) ∧
          (∀ b o, s.heap.get? b = some o → h'.get? b = some o)) E) F.called_set.init.plain F.entry_set_init (check_set_init_1 type0 ?_)) fun r2 s2 hr2 => ?_
      · obtain ⟨ol, hol, hcl, nl, hdl⟩ := hl
        obtain ⟨ocls, odict, odata, oslots⟩ := ol
        simp only at hcl hdl
        subst hcl; subst hdl
        have hol' : (s.heap.push (emptySet w)).get? l = some { cls := .type "list", dict := odict, data := .seq items nl, slots := oslots } := Heap.get?_push_of_some _ hol
        have no1 := F.sub_list_set
        have no2 := F.sub_list_frozenset
        have no3 : (Value.type "list" == Value.type "dict") = false := by decide
        have list1 : (s.heap.push (emptySet w)).IsList l items := ⟨_, hol', rfl, nl, rfl⟩
        unfold Builtin.«set.__init__» noKeywords Builtin.Frozenset.updateFrom
        generalize hPI : pyIter = PI
        wp_walk
        subst hPI
        refine wpAny_pyIter_list list1 ?_
        refine wpAny_bind (wpAny_runValue ?_)
        have below : l < s.heap.objs.size := Heap.lt_size hol
        have hh3 : A.in1.in1.in1.handled = none := by simp [hh]
        have apart : l ≠ (s.heap.push (emptySet w)).objs.size := by rw [Heap.size_push]; exact Nat.ne_of_lt (Nat.lt_succ_of_lt below)
        have off : s.heap.objs.size ∉ [(s.heap.push (emptySet w)).objs.size, l] := by
          rw [Heap.size_push]; simp only [List.mem_cons, List.mem_singleton, List.not_mem_nil, or_false, not_or]
          exact ⟨Nat.ne_of_lt (Nat.lt_succ_self _), Nat.ne_of_gt below⟩
        have val : ∀ (i : Nat) (v : Value), items[i]? = some v → ∃ x t, xs[i]? = some x ∧ v = .str x t := fun i v hv => by
          have hi : i < xs.length := by rw [← size]; exact (Array.getElem?_eq_some_iff.mp hv).1
          obtain ⟨t, e⟩ := SS.strs_at are i v (by rw [Array.getElem?_toList]; exact hv)
          refine ⟨xs[i], t, List.getElem?_eq_getElem hi, ?_⟩
          rw [e, List.getD_eq_getElem?_getD, List.getElem?_eq_getElem hi] <;> rfl
        refine tx_loop ((Walks.list hh3 _ l apart items).toS) s.heap.objs.size off size few val (items.size - 0) 0 _ (by omega) (Nat.zero_le _) ⟨⟨_, Heap.get?_push_size _ rfl, rfl, rfl⟩, (list1.push _)⟩ ?start ?goal
        case start => exact txset_new (Heap.get?_push_of_some _ set0)
        case goal =>
          intro s' mv T
          obtain ⟨h', g2, d', tk', os'⟩ := s'
          have e1 : g2 = s.gens := mv.gens
          have e2 : d' = s.drawn := mv.drawn
          have e3 : os' = s.os := mv.os
          subst e1; subst e2; subst e3
          show wpAny _ _ _ _ _ _
          refine wpAny_pure ?_
          show wpAny _ _ (ret Value.none) _ _ _
          refine wpAny_pure ⟨rfl, h', tk', rfl, T, fun b o e => ?_⟩
          have lt : b < s.heap.objs.size := Heap.lt_size e
          have ne : b ≠ (s.heap.push (emptySet w)).objs.size := by rw [Heap.size_push]; exact Nat.ne_of_lt (Nat.lt_succ_of_lt lt)
          exact mv.heap b o (by simp only [List.mem_cons, List.mem_singleton, List.not_mem_nil, or_false, not_or]; exact ⟨Nat.ne_of_lt lt, ne⟩) (Heap.get?_push_of_some _ (Heap.get?_push_of_some _ e))
      · cases r2 with
        | error e => exact hr2
        | ok fl2 =>
          cases fl2 with
          | ret r =>
            obtain ⟨rfl, h', tk, rfl, T, keep⟩ := hr2
            repeat (any_goals (first | assumption | wp_step))
            exact q _ _ T keep
          | _ => exact hr2.elim
    | _ => exact hr.elim
theorem txs_of : ∀ (l : List Value), (∀ v ∈ l, ∃ x tk, v = Value.str x tk) → StrsAre l (l.map fun v => txOf (0, v))
  | [], _ => .nil
  | v :: l, h => by
    obtain ⟨x, tk, rfl⟩ := h v List.mem_cons_self
    exact .cons x tk (txs_of l fun u hu => h u (List.mem_cons_of_mem _ hu))
end
/-- a set of texts, tracked -/
def SetX (w : World) (a : Addr) (xs : List Str) : HO := .ext fun h => TxSet w h a xs
section
variable {X : Cx}
theorem setX_ok {w : World} {P : Program} {H : Hp} {h : Heap} {a : Addr} {xs : List Str} (T : TxSet w h a xs) : ObjOk P w H h a (SetX w a xs) := by
  have ⟨o, _, _, _, ho, _⟩ := T
  exact ⟨T, ⟨o, ho⟩, fun h1 h2 p k => TxSet.stay p k⟩
/-- set(a list of texts) -/
def rSetS (K : PySem.W.Frag) (w : World) : List V → Hp → VK → Prop := fun vs H Q => ∃ (l : Addr) (xs : List Str), vs = [.ref l] ∧ SqL K H l (xs.map V.str) ∧ xs.length < 1000 ∧ ∀ p, H p = none → Q (.ref p) (upd H p (SetX w p (gather xs)))
theorem call_setS (hc : X.calm = true) : CallR X (.type "set") (rSetS X.K X.w) := by
  intro pins s σ H vs us Q I r h
  obtain ⟨l, xs, rfl, hl, few, q⟩ := h
  rw [Vals.ref1 r]
  obtain ⟨its, rv, hi, _⟩ := I.list hl
  refine tx_call (xs := xs) (I.ok.hd hc) hi.isList (by simpa using strsAre_of rv) (by show _ < scanBound; unfold scanBound; omega) fun h' tk T k => ?_
  exact ⟨.ref _, _, I.laid (t' := tk) k (Nat.le_refl _) (setX_ok T), rfl, q _ (I.hok.fresh (Nat.le_refl _))⟩
/-- sorted(a set of texts) -/
def rSortX (w : World) : List V → Hp → VK → Prop := fun vs H Q => ∃ (a : Addr) (xs : List Str), vs = [.ref a] ∧ H a = some (SetX w a xs) ∧ xs.length < 64 ∧ ∀ ys p, ys.Perm xs → sortedS ys = true → H p = none → Q (.ref p) (upd H p (.lst (ys.map V.str)))
theorem call_sortX (hc : X.calm = true) : CallR X (.builtin "sorted") (rSortX X.w) := by
  intro pins s σ H vs us Q I r h
  obtain ⟨a, xs, rfl, ha, few, q⟩ := h
  rw [Vals.ref1 r]
  obtain ⟨o, es, ep, t, ho, hex, hd, good, mem, small, fit, rise, led⟩ := (I.hok a _ ha).1
  refine Calls.call_function_entry PyProof.Rows.kind_sorted PyProof.Rows.plain_sorted PyProof.Rows.entry_sorted (PyProof.Rows.args_sorted1 _) ?_
  unfold Builtin.«sorted»
  refine wpAny_bind (m := checkCount "sorted" 1 1 _) (wpAny_pure ?_)
  refine wpAny_bind (collect_set (A := X.A.in1) (I.ok.hd hc) ⟨o, ho, hex.1, hd⟩ fit small rise led fun s1 vs k1 hz g1 o1 pm => ?_)
  have are : StrsAre vs (vs.map fun v => txOf (0, v)) := txs_of vs fun v hv => by
    obtain ⟨e, he, e2⟩ := List.mem_map.mp (pm.mem_iff.mp hv)
    obtain ⟨x, tk, e3, _⟩ := good e he
    exact ⟨x, tk, by rw [← e2]; exact e3⟩
  have perm : (vs.map fun v => txOf (0, v)).Perm xs := by
    have z := pm.map fun v => txOf (0, v)
    rw [List.map_map] at z
    exact z.trans mem
  have many : vs.length = xs.length := by rw [← perm.length_eq, List.length_map]
  have I1 : Inv X pins σ H { s with heap := s1.heap, gens := s1.gens, drawn := s1.drawn, toks := s1.toks } := I.call (ch := []) (Un.kept k1) (I.hok.kept k1) (by rw [g1]; exact I.bare) fun _ z => nomatch z
  have es1 : s1 = { s with heap := s1.heap, gens := s1.gens, drawn := s1.drawn, toks := s1.toks } := by
    cases s1
    cases s
    cases o1
    rfl
  rw [es1]
  refine wpAny_bind (wpAny_newList ?_ (by rw [many, sizeLine_eq]; omega))
  have spot : (s1.heap.push (seqObj "list" vs.toArray 0)).get? s1.heap.objs.size = some (seqObj "list" vs.toArray 0) := Heap.get?_push_size _ rfl
  refine wpAny_bind (wpAny_holding (wpAny_call_entry PyProof.Rows.slot_list_sort ⟨_, spot, rfl⟩ PyProof.Rows.entry_list_sort
    (list_sort_treeK strKind_oneLt (s := { s with heap := s1.heap.push (seqObj "list" vs.toArray 0), gens := s1.gens, drawn := s1.drawn, toks := s1.toks }) spot are.keysOf (fun v1 v2 rest e => keyKind_strs (by rw [← e]; exact are)) (by rw [many]; exact few) fun st' hp hs => ⟨_, rfl, ?_⟩)
    (PyProof.Rows.args_list_sort _)))
  obtain ⟨ys, y1, y2, y3⟩ := sorted_out_str are hp hs
  obtain ⟨c, hc2⟩ := PyProof.Rows.sortedHeap_at (vs := vs) (out := (arrOf st').map (·.2)) spot
  have len : (ys.map V.str).length ≤ sizeLine := by rw [List.length_map, y2.length_eq, List.length_map, many, sizeLine_eq]; omega
  refine wpAny_pure ⟨_, rfl, .ref s1.heap.objs.size, upd H s1.heap.objs.size (.lst (ys.map V.str)), I1.laid (t' := s1.toks) (fun b u e => ?_) (Nat.le_refl _)
    (show ObjOk X.prog X.w _ _ _ (.lst (ys.map V.str)) from ⟨len, ((arrOf st').map (·.2)).toList, c, vals_of_strs y1, by rw [Array.toArray_toList]; exact hc2⟩), rfl, q ys _ (y2.trans perm) y3 (I1.hok.fresh (Nat.le_refl _))⟩
  have hb : b < s1.heap.objs.size := Heap.lt_size e
  rw [PyProof.Rows.sortedHeap_old (Nat.ne_of_lt hb) (by rw [size_push']; exact Nat.lt_succ_of_lt hb)]
  exact Heap.get?_push_of_some _ e
end
end K8
set_option Elab.async false
set_option linter.all false
set_option maxRecDepth 100000
set_option maxHeartbeats 4000000
/-! Rules: own exceptions over KeyError (made as LookupError makes them, filled as KeyError fills them). -/
namespace K8
open PySem PySem.Spec PyProof.Rows L2
abbrev keTail : List Value := [.type "KeyError", .type "LookupError", .type "Exception", .type "BaseException", .type "object"]
/-- own classes ahead of KeyError's row of classes -/
def refsKE : List Value → Bool
  | .ref _ :: r => refsKE r
  | l => l == keTail
theorem refsKE_or : ∀ l : List Value, refsKE l = true → (∃ c r, l = .ref c :: r ∧ refsKE r = true) ∨ l = keTail := fun l e => by
  cases l with
  | nil => exact .inr (beq_iff_eq.mp e)
  | cons a r =>
    cases a with
    | ref c => exact .inl ⟨c, r, rfl, e⟩
    | _ => exact .inr (beq_iff_eq.mp e)
theorem ke_passes (self : Value) : refuseLoop self "__setattr__" keTail = pure () := by kernel_rfl
theorem refsKE_pass (self : Value) : ∀ l : List Value, refsKE l = true → refuseLoop self "__setattr__" l = pure ()
  | [], e => absurd e (by decide)
  | a :: r, e => by
    rcases refsKE_or _ e with ⟨c, r', q, h⟩ | q
    · obtain ⟨rfl, rfl⟩ := List.cons.inj q
      rw [refuseLoop_ref]; exact refsKE_pass self r h
    · rw [q]; exact ke_passes self
theorem refsKE_has (T : String) : ∀ l : List Value, refsKE l = true → l.contains (.type T) = keTail.contains (.type T)
  | [], e => absurd e (by decide)
  | a :: r, e => by
    rcases refsKE_or _ e with ⟨c, r', q, h⟩ | q
    · obtain ⟨rfl, rfl⟩ := List.cons.inj q
      rw [List.contains_cons, refsKE_has T r h]; rfl
    · rw [q]
theorem refsKE_ne {l : List Value} (e : refsKE l = true) : l.isEmpty = false := by
  cases l with
  | nil => exact absurd e (by decide)
  | cons _ _ => rfl
theorem lu : ExcBaseFacts "LookupError" "LookupError.__new__" "LookupError.__init__" [.type "LookupError", .type "Exception", .type "BaseException", .type "object"] := PySem.F.excBase_LookupError
theorem ki_entry : entryFor table "KeyError.__init__" = some Builtin.«BaseException.__init__» := entryFor_alias (id' := "BaseException.__init__") (by rw [fastTable_eq_tree]; kernel_rfl) (by first | rfl | decide +kernel) (by decide +kernel) (by rw [fastTable_eq_tree]; kernel_rfl)
theorem ki_slot : Slot "KeyError" "__init__" "KeyError.__init__" := .of (owner := "KeyError") (n := "__init__") (by rw [typeLookup_type, builtinLookup_eq_fast]; kernel_rfl) (by decide +kernel) (by decide +kernel) (by decide +kernel) (by first | exact .inl (by decide +kernel) | exact .inr (by decide +kernel)) (by rw [isSubtype_type]; kernel_rfl)
theorem ki_split : splitId "KeyError.__init__" = some ("KeyError", "__init__") := by kernel_rfl
theorem ki_kind : builtinKind "KeyError.__init__" = some .slot := by kernel_rfl
theorem ki_row : Manifest.signature? "KeyError.__init__" = some ⟨.positional, "*", "KeyError", .self, [⟨"args", .varPos, false⟩]⟩ := by kernel_rfl

/-! ### such an exception is made -/
section
open PySem.HandSPX
variable {prog : Program} {w : World} {M : Model} {A : Around} {E : Value → Shared → Prop} {R : Result → Shared → Prop} {h : Heap} {g : Array GenState} {d : Drawn} {t : Nat} {os : OsState}
variable {nm q : Str} {C N : Addr} {bs bm : List Value} {hdct : Bool} {sn : List Str} {sub : List Value} {ab : Bool} {col : Option Bool} {dd : Option Addr} {k0 k1 k2 k3 k5 : Option Value}
abbrev keCls (nm q : Str) (C N : Addr) (bs bm : List Value) (hdct : Bool) (sn : List Str) (sub : List Value) (ab : Bool) (col : Option Bool) (dd : Option Addr) (k0 k1 k2 k3 k5 : Option Value) : Obj :=
  excClassObj nm q C N bs bm hdct sn sub ab col dd k0 k1 k2 k3 k5 "LookupError.__new__"
theorem has_tail {T : String} (hm : refsKE bm = true) : (Value.ref C :: bm).contains (.type T) = keTail.contains (.type T) := by
  rw [List.contains_cons, refsKE_has _ _ hm]
  rfl
theorem ke_checkNew (hm : refsKE bm = true) {rest : List Value} {Q : Unit → Shared → Prop} (hC : h.get? C = some (keCls nm q C N bs bm hdct sn sub ab col dd k0 k1 k2 k3 k5)) (z : Q () ⟨h, g, d, t, os⟩) :
    wpAny M A (checkBuiltinCall "LookupError.__new__" ⟨.ref C :: rest, []⟩) Q E ⟨h, g, d, t, os⟩ := by
  have c1 : (Value.ref C :: bm).contains (.type "LookupError") = true := by rw [has_tail hm]; decide +kernel
  have c2 := lu.noStar
  simp only [checkBuiltinCall, lu.newKind, lu.newSplit, lu.newRow]
  repeat (first | refine wpAny_loadPart_at hC ?_ | (refine wpAny_isSubtype_exc hC ?_; rw [c1]) | refine wpAny_staticBase_exc hC ?_ | refine wpAny_madeBy_exc hC ?_ | simp only [bne_self_eq_false, Bool.false_eq_true, if_false] | wp_step)
  exact z
theorem ke_checkInit (hm : refsKE bm = true) {e : Addr} {oe : Obj} {rest : List Value} {Q : Unit → Shared → Prop} (hC : h.get? C = some (keCls nm q C N bs bm hdct sn sub ab col dd k0 k1 k2 k3 k5)) (he : h.get? e = some oe) (hcls : oe.cls = .ref C) (z : Q () ⟨h, g, d, t, os⟩) :
    wpAny M A (checkBuiltinCall "KeyError.__init__" ⟨.ref e :: rest, []⟩) Q E ⟨h, g, d, t, os⟩ := by
  have c1 : (Value.ref C :: bm).contains (.type "KeyError") = true := by rw [has_tail hm]; decide +kernel
  have c2 : ("KeyError" != "*") = true := by decide +kernel
  simp only [checkBuiltinCall, ki_kind, ki_split, ki_row]
  repeat (first | (with_reducible refine wpAny_loadPart_at he ?_; rw [hcls]) | with_reducible refine wpAny_loadPart_at hC ?_ | (with_reducible refine wpAny_isSubtype_exc hC ?_; rw [c1]) | wp_step)
  refine wpAny_onRaise ?_
  rw [show ∀ (a b : String) (n : Nat), Bind.check ⟨.positional, "*", "KeyError", .self, [⟨"args", .varPos, false⟩]⟩ a b n (List.map (fun x => x.fst) ({ pos := Value.ref e :: rest } : Args).kw) = pure () from
    fun a b n => check_star_args _ _ _ _ _ _]
  exact wpAny_pure z
theorem ke_new (hm : refsKE bm = true) {rest : List Value} (hC : h.get? C = some (keCls nm q C N bs bm hdct sn sub ab col dd k0 k1 k2 k3 k5))
    (z : R (.ok (.ret (.ref (h.objs.size + 1)))) ⟨(h.push { cls := .type "tuple", data := .seq rest.toArray }).push { cls := .ref C, data := .fields #[.ref h.objs.size, .none, .none, .none, .bool false, .none] }, g, d, t, os⟩) (few : rest.length ≤ sizeLine) :
    codeAny (model prog w) A (.builtin "LookupError.__new__" ⟨.ref C :: rest, []⟩) R ⟨h, g, d, t, os⟩ := by
  have ends := lu.ends
  have c1 : (Value.ref C :: bm).contains (.type "LookupError") = true := by rw [has_tail hm]; decide +kernel
  have c2 : (Value.ref C :: bm).contains (.type "AttributeError") = false := by rw [has_tail hm]; decide +kernel
  have c3 : (Value.ref C :: bm).contains (.type "NameError") = false := by rw [has_tail hm]; decide +kernel
  refine codeAny_builtinAt lu.entry ?_
  unfold Builtin.«BaseException.__new__»
  refine PySem.wpAt_bind ?_
  show PySem.wpAt _ _ _ (stack >>= _) _ _ _
  refine PySem.wpAt_bind (PySem.wpAt_stack fun p below => PySem.wpAt_of_wpAny ?_)
  wp_walk
  refine PySem.wpAt_of_wpAny ?_
  rw [lu.owner]
  repeat (first | with_reducible refine wpAny_madeHere_exc lu.canon hC ?_ | with_reducible refine wpAny_loadPart_at hC ?_ | (with_reducible refine wpAny_isSubtype_exc hC ?_; first | rw [c1] | rw [c2] | rw [c3]) | wp_step)
  show R _ _
  rw [Heap.size_push]
  exact z
theorem ke_typeCall (hm : refsKE bm = true) {rest : List Value} {fI : Addr} {Q : Fin → Shared → Prop} (hC : h.get? C = some (keCls nm q C N bs bm hdct sn sub ab col dd k0 k1 k2 k3 k5))
    (hi : W.Looks (model prog w) h (typeLookup (.ref C) "__init__") (some (.ref fI))) (hb : ∀ self, W.Looks (model prog w) h (bindSpecial (.ref fI) self) (.ref fI, [self])) (few : rest.length ≤ sizeLine)
    (run : codeAny (model prog w) A (.call (.ref fI) ⟨.ref (h.objs.size + 1) :: rest, []⟩)
      (fun r s' => match r with | .ok (.ret v) => v = .none ∧ Q (.done (.ret (.ref (h.objs.size + 1)))) s' | .ok _ => False | .error e => E e s')
      ⟨(h.push (W.kdv_tup rest)).push (excO C h.objs.size), g, d, t, os⟩) :
    wpAny (model prog w) A (Builtin.«type.__call__» ⟨.ref C :: rest, []⟩) Q E ⟨h, g, d, t, os⟩ := by
  repeat (first | with_reducible refine wpAny_loadPart_at hC ?_ | with_reducible refine wpAny_madeBy_exc hC ?_ | wp_step)
  refine codeAny_call_builtin_code (Code.quiet_builtin _ lu.quiet) (ke_checkNew hm hC ?_)
  refine ke_new hm hC ?_ few
  show wpAny _ _ _ _ _ _
  have stay : ∀ b o, h.get? b = some o → ((h.push (W.kdv_tup rest)).push (excO C h.objs.size)).get? b = some o := fun b o e => Heap.get?_push_of_some _ (Heap.get?_push_of_some _ e)
  have cls1 := stay _ _ hC
  have made : ((h.push (W.kdv_tup rest)).push (excO C h.objs.size)).get? (h.objs.size + 1) = some (excO C h.objs.size) := by heap_get
  have mine : (Value.ref C :: bm).contains (.ref C) = true := by simp
  have i1 := hi.keeps stay
  have b1 := (hb (.ref (h.objs.size + 1))).keeps stay
  unfold isInstance
  repeat (first | with_reducible refine wpAny_loadPart_at made ?_ | (with_reducible refine wpAny_isSubtype_exc cls1 ?_; rw [mine]) | wp_step)
  show wpAny _ _ (typeLookup (.ref C) _) _ _ _
  refine i1.at ?_
  refine wpAny_holding (wpAny_bind (b1.at ?_))
  refine wpAny_bind (wpAny_call (codeAny_mono run fun r s' z => ?_))
  rcases r with e | (v | _ | _ | _) <;> first | exact z | exact z.elim | skip
  obtain ⟨rfl, z⟩ := z
  first
    | exact wpAny_pure (wpAny_pure z)
    | (wp_walk; exact z)
theorem ke_make (hm : refsKE bm = true) {rest : List Value} {fI : Addr} (hC : h.get? C = some (keCls nm q C N bs bm hdct sn sub ab col dd k0 k1 k2 k3 k5))
    (hi : W.Looks (model prog w) h (typeLookup (.ref C) "__init__") (some (.ref fI))) (hb : ∀ self, W.Looks (model prog w) h (bindSpecial (.ref fI) self) (.ref fI, [self])) (few : rest.length ≤ sizeLine)
    (run : codeAny (model prog w) (A.under (.builtin "type.__call__" ⟨.ref C :: rest, []⟩)) (.call (.ref fI) ⟨.ref (h.objs.size + 1) :: rest, []⟩) (W.InitBack (h.objs.size + 1) R)
      ⟨(h.push (W.kdv_tup rest)).push (excO C h.objs.size), g, d, t, os⟩) :
    codeAny (model prog w) A (.call (.ref C) ⟨rest, []⟩) R ⟨h, g, d, t, os⟩ := by
  have l1 := tc_lookup
  have l2 := tc_bind (.ref C)
  have ty : (⟨h, g, d, t, os⟩ : Shared).TypeIs (.ref C) "type" := ⟨_, hC, rfl⟩
  refine codeAny_of_tree ?_
  show wpAny _ _ (callAny (.ref C) _) _ _ _
  repeat (any_goals (first | assumption | with_reducible refine wpAny_loadPart_at hC ?_ | wp_step))
  refine ⟨rfl, ?_⟩
  refine codeAny_call_builtin_at (Code.quiet_builtin _ (by decide +kernel)) entry_typeCall (wpAny_check_type_call_sub hC (ke_typeCall hm hC hi hb few ?_))
  refine codeAny_mono run fun r s' z => ?_
  rcases r with e | (v | _ | _ | _) <;> exact z
/-- KeyError.__init__(e, ..) -/
theorem ke_init (hm : refsKE bm = true) {e t0 : Addr} {rest : List Value} (hC : h.get? C = some (keCls nm q C N bs bm hdct sn sub ab col dd k0 k1 k2 k3 k5)) (he : h.get? e = some (excO C t0)) (few : rest.length ≤ sizeLine)
    (z : ∀ h' t1, (∀ b o, b ≠ e → h.get? b = some o → h'.get? b = some o) → h'.get? e = some (excO C t1) → R (.ok (.ret .none)) ⟨h', g, d, t, os⟩) :
    codeAny (model prog w) A (.call (.builtin "KeyError.__init__") ⟨.ref e :: rest, []⟩) R ⟨h, g, d, t, os⟩ := by
  refine codeAny_call_builtin ki_slot.plain ki_entry (ke_checkInit hm hC he rfl ?_)
  wp_walk
  refine z _ h.objs.size (fun b o hb ho => ?_) ?_
  · rw [Heap.get?_update_other _ _ (Ne.symm hb)]
    exact Heap.get?_push_of_some _ ho
  · rw [Heap.get?_update_self _ (Heap.get?_push_of_some _ he) rfl]
    rfl
/-- the first field -/
theorem ke_osa {K : W.Frag} {name : Str} {tk : Tok} {v : Value} {x C : Addr} {fv : Array Value} {cd : ClassData} (X : K.In h) (hx : h.get? x = some { cls := .ref C, data := .fields fv }) (hcd : W.clsIn K C = some cd) (hm : refsKE cd.mro = true) (hh : cd.hasDict = true) (ha : W.findIn K (.ref C) name = some none)
    (z : ∀ h' tk' dx, (∀ b o, b ≠ x → h.get? b = some o → h'.get? b = some o) → h.objs.size ≤ dx → dx ≠ x → h'.get? x = some { cls := .ref C, dict := some dx, data := .fields fv } →
      h'.Ns1 dx (fun y => if y = name then some v else none) → R (.ok (.ret .none)) ⟨h', g, d, tk', os⟩) :
    codeAny (model prog w) A (.call (.builtin "object.__setattr__") ⟨[.ref x, .str name tk, v], []⟩) R ⟨h, g, d, t, os⟩ := by
  have I : W.InstAt h x { cls := .ref C, data := .fields fv } C none := ⟨hx, rfl, rfl, trivial⟩
  have SF := PySem.F.store_object
  have obj : cd.mro.contains (.type "object") = true := (refsKE_has "object" _ hm).trans (by decide +kernel)
  have new : x ≠ h.objs.size := Nat.ne_of_lt (Heap.lt_size hx)
  have sub : W.Looks (model prog w) h (isInstance (.ref x) (.type "object")) true := I.type.andThen (W.looks_mroIn X (by unfold W.mroIn; rw [hcd, Option.bind_some, if_neg (by rw [refsKE_ne hm]; decide), obj]))
  refine codeAny_call_builtin SF.slot.plain SF.entry (@W.check_slot (model prog w) _ _ ⟨h, g, d, t, os⟩ "object.__setattr__" "object" "__setattr__" (.ref x) [.str name tk, v] [] _ SF.kind SF.split sub (SF.args (.ref x) (.str name tk) v) ?_)
  have row : W.Looks (model prog w) h (mroOf (.ref C)) cd.mro := (W.looks_clsIn X hcd).andThen .now
  have taker : W.Looks (model prog w) h (Builtin.ObjectAttr.storeTaker? none) none := .now
  have data : W.Looks (model prog w) h (classData C) cd := W.looks_clsIn X hcd
  rw [W.osa_eq, refuse_eq]
  refine wpAny_bind (wpAny_bind (I.type.at (wpAny_bind (row.at ?_))))
  rw [refsKE_pass _ _ hm]
  refine wpAny_pure (wpAny_bind (I.type.at (wpAny_bind ((W.looks_findIn X ha).at (wpAny_bind (taker.at ?_))))))
  show wpAny _ _ (Builtin.ObjectAttr.storeInOwnDict (.ref x) (.ref C) (.str name tk) name v false) _ _ _
  obtain ⟨nm, bs, mro, ns, qn, hd, sn, sb, ab, col, del⟩ := cd
  dsimp only at hh
  subst hh
  unfold Builtin.ObjectAttr.storeInOwnDict Builtin.ObjectAttr.ownDictForStores
  repeat (first | with_reducible refine store_in_new ?_ ?_ | with_reducible refine wpAny_loadPart_at hx ?_ | with_reducible refine data.at ?_ | wp_step)
  · exact ⟨_, #[], _, (Heap.get?_update_ne _ _ _ _ new.symm).trans (Heap.get?_push_at rfl rfl), rfl, fun e he => absurd he (by simp), fun _ => rfl⟩
  · intro h' tk' hn' hs
    have hx1 : (h.push { cls := .type "dict", data := .dict #[] }).get? x = some { cls := .ref C, data := .fields fv } := Heap.get?_push_of_some _ hx
    refine z h' tk' h.objs.size (fun b o hb ho => ?_) (Nat.le_refl _) new.symm ?_ hn'
    · exact (hs.2 b (Nat.ne_of_lt (Heap.lt_size ho))).trans ((Heap.get?_update_ne _ _ _ _ hb).trans (Heap.get?_push_of_some _ ho))
    · exact (hs.2 x new).trans (Heap.get?_update_self _ hx1 rfl)
end
/-- what the written part says of such a class -/
structure KexC (K : PySem.W.Frag) (C : Addr) : Prop where
  cls : ∃ nm q N bs bm sn sub ab col dd k0 k1 k2 k3 k5, K.lookup C = some (keCls nm q C N bs bm true sn sub ab col dd k0 k1 k2 k3 k5) ∧ refsKE bm = true
  sa : PySem.W.findIn K (.ref C) "__setattr__" = some (some (.builtin "object.__setattr__"))
  exC : PySem.W.subIn K (.ref C) (.type "BaseException") = some true
  tyC : PySem.W.typeIn K (.ref C) = some (.type "type")
  kC : PySem.W.keepIn K (.ref C) = true
section
variable {X : Cx} {pins : List (Addr × Obj)} {σ : L2.St} {H : Hp} {s : Shared} {a C dx : Addr} {f : Str} {y : V} {u : Value} {A : Around} {E : Value → Shared → Prop}
theorem ke_ost {Q : Unit → Shared → Prop} (T : KexC X.K C) (I : Inv X pins σ H s) (e : H a = some (exo a C none)) (no : PySem.W.findIn X.K (.ref C) f = some none) (ry : RelV y u)
    (q : ∀ dx s', H dx = none → dx ≠ a → Inv X pins σ (upd (upd H dx (exd dx [(f, y)])) a (exo a C (some dx))) s' → Q () s') : wpAny (model X.prog X.w) A (setAttr (.ref a) f u) Q E s := by
  obtain ⟨nm, qn, N, bs, bm, sn, sub, ab, col, dd, k0, k1, k2, k3, k5, hC, hm⟩ := T.cls
  have cl : PySem.W.clsIn X.K C = some { name := nm, bases := bs, mro := .ref C :: bm, ns := N, qualname := qn, hasDict := true, slotNames := sn, subclasses := sub, abstract := ab, collection := col, hasDel := false } := by unfold PySem.W.clsIn; rw [hC] <;> rfl
  obtain ⟨t1, ho⟩ := exo_at I.hok e
  obtain ⟨hp, g, d, t, os⟩ := s
  refine PySem.W.set_plain I.kIn (ox := { cls := .ref C, dict := none, data := .fields #[.ref t1, .none, .none, .none, .bool false, .none] }) (od := none) ⟨ho, rfl, rfl, trivial⟩ T.sa ?_
  refine ke_osa I.kIn ho cl (show refsKE (.ref C :: bm) = true from hm) rfl no (fun h' tk' dx k dn dne hx hn => ?_)
  have free : H dx = none := I.hok.fresh dn
  have low : ∀ {b : Addr} {o : Obj}, hp.get? b = some o → b ≠ dx := fun {b o} z => Nat.ne_of_lt (Nat.lt_of_lt_of_le (Heap.lt_size z) dn)
  have off : ∀ {b : Addr}, H b = none → b ≠ a := fun {b} n z => by
    rw [z, e] at n
    cases n
  have U : Un X.fs [] H (upd (upd H dx (exd dx [(f, y)])) a (exo a C (some dx))) hp h' := {
    keep := fun b o z n _ _ => k b o (off n) z
    slot := fun b o z n _ _ => ⟨o.slots, k b o (off n) z⟩
    free := fun b o z n _ => by rw [upd_ne (off n), upd_ne (low z)]; exact n
    there := fun b o z _ => by
      by_cases hb : b = a
      · exact ⟨_, by rw [hb]; exact hx⟩
      · exact ⟨o, k b o hb z⟩
    tups := fun b xs z => by rw [upd_ne (at_ne e z exo_tup), upd_ne (ne_of_none z free)]; exact z
    frzs := fun b o v z => by rw [upd_ne (at_ne e z exo_frz), upd_ne (ne_of_none z free)]; exact z
    tbls := fun b ps z => ⟨#[], by rw [upd_ne (at_ne e z exo_tbl), upd_ne (ne_of_none z free), z]; simp⟩ }
  refine q dx _ free dne (I.un (t' := tk') U fun b o z => ?_)
  by_cases hb : b = a
  · subst hb
    rw [upd_same] at z
    cases z
    exact exo_ok hx
  · rw [upd_ne hb] at z
    by_cases hd : b = dx
    · subst hd
      rw [upd_same] at z
      cases z
      exact exd_ok hn (relO_put (fs := []) ry fun g => True.intro)
    · rw [upd_ne hd] at z
      refine (I.hok b o z).stay (fun c v hc y => k c v ?_ y) (fun c hc => ?_) fun c xs hc => ?_
      · rcases hc with hc | hc
        · rw [hc]; exact hb
        · exact at_ne e hc exo_own
      · rw [upd_ne (at_ne e hc exo_own), upd_ne (ne_of_none hc free)]; exact hc
      · rw [upd_ne (at_ne e hc exo_tup), upd_ne (ne_of_none hc free)]; exact hc
theorem ke_initok {us : List Value} {Q : Value → Shared → Prop} (T : KexC X.K C) (I : Inv X pins σ H s) (e : H a = some (exo a C none)) (few : us.length ≤ sizeLine) (q : ∀ s', Inv X pins σ H s' → Q .none s') :
    wpAny (model X.prog X.w) A (call (.builtin "KeyError.__init__") (.ref a :: us)) Q E s := by
  obtain ⟨nm, qn, N, bs, bm, sn, sub, ab, col, dd, k0, k1, k2, k3, k5, hC, hm⟩ := T.cls
  obtain ⟨t1, ho⟩ := exo_at I.hok e
  obtain ⟨hp, g, d, t, os⟩ := s
  refine wpAny_call (ke_init hm (I.kIn _ _ hC) ho few fun h' t2 k hx => ?_)
  have J := I.write (t' := t) (x := a) (e := a) (o := exo a C none) (by rw [e]; exact True.intro) (.inl rfl) k ⟨_, hx⟩ (exo_ok hx)
  have same : upd H a (exo a C none) = H := by
    funext b
    by_cases hb : b = a
    · rw [hb, upd_same, e]
    · rw [upd_ne hb]
  rw [same] at J
  exact q _ J
end
def tKeI (K : PySem.W.Frag) (ta : TA) : TE := fun σ H Q => ta σ H fun vs H1 => ∃ (a C : Addr) (ws : List V), vs = .ref a :: ws ∧ ws.length ≤ 1000 ∧ KexC K C ∧ H1 a = some (exo a C none) ∧ Q .non H1
def tKst (K : PySem.W.Frag) (f : Str) (to te : TE) : TS := fun D σ H => te σ H fun y H1 => to σ H1 fun x H2 => ∃ a C : Addr, x = .ref a ∧ KexC K C ∧ PySem.W.findIn K (.ref C) f = some none ∧
  H2 a = some (exo a C none) ∧ ∀ dx, H2 dx = none → dx ≠ a → D.nx σ (upd (upd H2 dx (exd dx [(f, y)])) a (exo a C (some dx)))
section
variable {X : Cx} {o e : Expr} {es : List Expr} {to te : TE} {ta : TA} {f : Str} {p p' p1 p2 pos : Pos}
theorem pe_keinit {pl : Sem Bool} (hg : Gl X "KeyError") (hm : X.mg "KeyError" = none) (vV : PySem.W.findCls X.K (.type "KeyError") (.type "type") "__init__" = some (.val (.builtin "KeyError.__init__"))) (ha : PA X (e :: es) ta)
    (hc : eval (.Call (.Attribute (.Name "KeyError" p1) "__init__" p2) (e :: es) [] pos) X.env = (do
      let ov ← eval (.Name "KeyError" p1) X.env
      standAt p2.atName
      let (f, first) ← holding [ov] (getMethod ov "__init__" pl)
      callWith pos f first (backTo pos (starEach (e :: es) X.env)) (backToKw pos (keywordEach [] X.env))) := by rfl)
    (he : starEach (e :: es) X.env = (false, eval e X.env) :: starEach es X.env := by rfl) (hpl : (backTo pos (starEach es X.env)).any (·.1) = false := by rfl) :
    PE X (.Call (.Attribute (.Name "KeyError" p1) "__init__" p2) (e :: es) [] pos) (tKeI X.K ta) := by
  refine ⟨fun pins s σ H Q I h => ?_⟩
  refine PySem.W.methodCall_KW (ld_blt I hg hm (u := .type "KeyError") (by decide +kernel) ?_ (by decide) (by decide)) hc
  obtain ⟨m, fr⟩ := I.fr
  refine PySem.W.method_type fr I.ok.mod.kin (show typeOf (.type "KeyError") = pure (.type "type") from by kernel_rfl) (by decide +kernel) vV (by decide +kernel) ?_
  show wpAny _ _ (callWith pos (Value.builtin "KeyError.__init__") [] (backTo pos (starEach (e :: es) X.env)) []) _ _ _
  refine PyProof.Rows.callWith_method1 (thn (ha.run pos pins _ σ H _ (I.tok _) h) fun us s1 ⟨vs, H1, I1, r1, a, C, ws, ev, few, T, ea, q⟩ => ?_) he hpl
  subst ev
  cases r1 with
  | @cons _ u0 _ ur ra rw' =>
    obtain rfl : u0 = Value.ref a := ra
    exact ke_initok T I1 ea (by rw [← Paired.length rw', sizeLine_eq]; omega) fun s' J => ⟨.non, H1, J, rfl, q⟩
/-- C.__init__(self, ..), C an own class without __init__ over ValueError -/
theorem pe_veown {C : Addr} {x : Str} {pl : Sem Bool} (hg : Gl X x) (hm : X.mg x = some (.ref C)) (rd : PySem.W.readsIn X.K C (.type "type") = true) (ga : PySem.W.specialIn X.K (.ref C) "__getattribute__" = some (some (.builtin "type.__getattribute__")))
    (vV : PySem.W.findCls X.K (.ref C) (.type "type") "__init__" = some (.val (.builtin "ValueError.__init__"))) (ha : PA X (e :: es) ta) (hdb : (x == ("__debug__" : Str)) = false := by decide)
    (hc : eval (.Call (.Attribute (.Name x p1) "__init__" p2) (e :: es) [] pos) X.env = (do
      let ov ← eval (.Name x p1) X.env
      standAt p2.atName
      let (f, first) ← holding [ov] (getMethod ov "__init__" pl)
      callWith pos f first (backTo pos (starEach (e :: es) X.env)) (backToKw pos (keywordEach [] X.env))) := by rfl)
    (he : starEach (e :: es) X.env = (false, eval e X.env) :: starEach es X.env := by rfl) (hpl : (backTo pos (starEach es X.env)).any (·.1) = false := by rfl) :
    PE X (.Call (.Attribute (.Name x p1) "__init__" p2) (e :: es) [] pos) (tVeI X.K ta) := by
  refine ⟨fun pins s σ H Q I h => ?_⟩
  refine PySem.W.methodCall_KW (ld_glob I hg hm ?_ hdb) hc
  refine PySem.W.method_cls I.kIn ga (PySem.W.cls_value I.kIn rd vV (by decide +kernel) ?_)
  show wpAny _ _ (callWith pos (Value.builtin "ValueError.__init__") [] (backTo pos (starEach (e :: es) X.env)) []) _ _ _
  refine PyProof.Rows.callWith_method1 (thn (ha.run pos pins _ σ H _ (I.tok _) h) fun us s1 ⟨vs, H1, I1, r1, a, D, ws, ev, few, T, ea, q⟩ => ?_) he hpl
  subst ev
  cases r1 with
  | @cons _ u0 _ ur ra rw' =>
    obtain rfl : u0 = Value.ref a := ra
    exact oinit_ok T I1 ea (by rw [← Paired.length rw', sizeLine_eq]; omega) fun s' J => ⟨.non, H1, J, rfl, q⟩
theorem ps_kst (ho : PE X o to) (he : PE X e te) (hs : swapsWith e (some (.Attribute o f p')) pos.line X.env = pure false := by rfl) : PS X (.Assign [.Attribute o f p'] e pos) (tKst X.K f to te) := by
  refine ⟨fun pins s σ H D I h => ?_⟩
  refine plainObj_wpAny_Assign_Attribute (thn (he.run pins s σ H _ I h) fun v s1 ⟨y, H1, I1, r1, q1⟩ => thn (ho.run pins s1 σ H1 _ I1 q1) fun u s2 ⟨x, H2, I2, r2, a, C, ex, T, no, ea, q⟩ => ?_) hs
  subst ex
  obtain rfl : u = Value.ref a := r2
  exact ke_ost T I2 ea no r1 fun dx s' n ne J => ⟨σ, _, J, q dx n ne⟩
theorem pmk_kex {CX : CXT} {x : Str} {C fI : Addr} {k : Nat} {fd : FuncData} {ps : List Str} {sp : Sp} {ds : List Value} {dvs : List V} (T : KexC X.K C) (iC : PySem.W.findIn X.K (.ref C) "__init__" = some (some (.ref fI))) (tI : PySem.W.typeIn X.K (.ref fI) = some (.type "function"))
    (F1 : FnOk X.prog X.w X.K X.mg X.base CX k fI fd ps sp) (hr : Room (k + 1) X.A) (hb : Binds X.K fd ps ds) (hd : Vals dvs ds) (hx : Passes CX X (fun _ _ _ => False)) (hg : Gl X x) (hm : X.mg x = some (.ref C)) (ha : PA X (e :: es) ta)
    (hdb : (x == ("__debug__" : Str)) = false := by decide) (he : starEach (e :: es) X.env = (false, eval e X.env) :: starEach es X.env := by rfl) (hpl : (backTo pos (starEach es X.env)).any (·.1) = false := by rfl) :
    PMk X (.Call (.Name x p) (e :: es) [] pos) (tMkO C sp dvs ta) := by
  intro pins s σ H Q I h
  obtain ⟨nm, q, N, bs, bm, sn, sub, ab, col, dd, k0, k1, k2, k3, k5, hC, hbm⟩ := T.cls
  refine wpAny_Call_Name_kw (ld_glob I hg hm ?_ hdb)
  refine PySem.W.callWith_K (h₀ := X.base) I.ok.mod.kin T.kC (thn (ha.run pos pins s σ H _ I h) fun us s1 ⟨vs, H1, I1, r1, few, q1⟩ => ⟨I1.kIn, ?_⟩) he hpl
  show wpAny _ _ (call (.ref C) us) _ _ _
  obtain ⟨hp, g, dr, tk, os⟩ := s1
  have up : hp.objs.size ≤ hp.objs.size + 1 := Nat.le_succ _
  have hq := q1 (hp.objs.size + 1) (I1.hok.fresh up)
  have stay : ∀ b o, hp.get? b = some o → ((hp.push (PySem.W.kdv_tup us)).push (PySem.HandSPX.excO C hp.objs.size)).get? b = some o := fun b o e => Heap.get?_push_of_some _ (Heap.get?_push_of_some _ e)
  have made : ((hp.push (PySem.W.kdv_tup us)).push (PySem.HandSPX.excO C hp.objs.size)).get? (hp.objs.size + 1) = some (PySem.HandSPX.excO C hp.objs.size) := by heap_get
  have I2 : Inv X pins σ (upd H1 (hp.objs.size + 1) (exo (hp.objs.size + 1) C none)) ⟨(hp.push (PySem.W.kdv_tup us)).push (PySem.HandSPX.excO C hp.objs.size), g, dr, tk, os⟩ :=
    I1.laid (t' := tk) (a := hp.objs.size + 1) (o := exo (hp.objs.size + 1) C none) (h' := (hp.push (PySem.W.kdv_tup us)).push (PySem.HandSPX.excO C hp.objs.size)) stay up (exo_ok made)
  have r2 : Vals (V.ref (hp.objs.size + 1) :: (vs ++ dvs)) (Value.ref (hp.objs.size + 1) :: (us ++ ds)) := .cons rfl (r1.append hd)
  have len : (Value.ref (hp.objs.size + 1) :: us ++ ds).length = ps.length := by
    have e := r2.length
    rw [F1.len _ _ _ _ hq] at e
    exact e.symm
  refine wpAny_call (ke_make hbm (I1.kIn _ _ hC) (PySem.W.looks_findIn I1.kIn iC) (fun self => PySem.W.bind_fn I1.kIn self tI) (by rw [← Paired.length r1, sizeLine_eq]; omega)
    (codeAny_mono (F1.run _ X.stack _ _ ⟨Value.ref (hp.objs.size + 1) :: us, []⟩ (Value.ref (hp.objs.size + 1) :: (us ++ ds)) _ _ (fun _ _ _ => False) (hr.make C us []) (I2.env0.make C us []) (hb _ (Value.ref (hp.objs.size + 1) :: us) I2.kIn len) r2 hq) fun r s' hq' => ?_))
  cases r with
  | error er => exact hx pins σ _ _ er s' I2 hq'
  | ok fl =>
    cases fl with
    | ret u =>
      obtain ⟨v, H2, os2, bare2, un2, hok2, rv, ev, d, fs, ea, ed, hd1, q2⟩ := hq'
      subst ev
      obtain ⟨h2, g2, d2, t2, os'⟩ := s'
      exact ⟨rv, mk_end (raises_own T.exC T.tyC) I1 up stay un2 hok2 os2 bare2 ea ed hd1 q2⟩
    | next => exact hq'.elim
    | brk => exact hq'.elim
    | cont => exact hq'.elim
end
end K8
set_option Elab.async false
set_option linter.all false
set_option maxRecDepth 100000
set_option maxHeartbeats 4000000
/-! Rules: try with several clauses that name the exception; isinstance of a caught exception that has a dict. -/
namespace K8
open PySem PySem.Spec PyProof.Rows L2
/-- what the clauses wish, the name's slot being i -/
def wManyAs (K : PySem.W.Frag) (i : Nat) (Wout : WX) (D : Ends) : List (Value × (Addr → Value → Option Addr → TS)) → WX
  | [] => Wout
  | (c, ts) :: r => fun cls d σ H => ∃ b, PySem.W.exmOne K cls c = some b ∧
      (b = true → ∀ a, H a = none → ts a cls d { nx := fun σ' H' => D.nx (σ'.set i none) H', rt := D.rt, bk := fun σ' H' => D.bk (σ'.set i none) H', ct := fun σ' H' => D.ct (σ'.set i none) H' } (σ.set i (some (.ref a))) H) ∧
      (b = false → wManyAs K i Wout D r cls d σ H)
inductive HdsAs (X : Cx) (n : Str) : List ExceptHandler → List (Value × (Addr → Value → Option Addr → TS)) → Prop
  | nil : HdsAs X n [] []
  | cons {x : Str} {c : Value} {ts : Addr → Value → Option Addr → TS} {b0 : Stmt} {suite : List Stmt} {np p' : Pos} {hds : List ExceptHandler} {l : List (Value × (Addr → Value → Option Addr → TS))} (hc : Names X x c)
      (run : ∀ (a : Addr) (oe : Obj) (cls : Value) (d : Option Addr) (pn : List (Addr × Obj)), Zc cls d oe → (∃ vs, oe.data = .fields vs) → PSs (X.suite a ((a, oe) :: pn)) (b0 :: suite) (ts a cls d)) (r : HdsAs X n hds l) :
      HdsAs X n (.ExceptHandler (some (.Name x np)) (some n) (b0 :: suite) p' :: hds) ((c, ts) :: l)
section
variable {X : Cx} {n : Str} {i : Nat} {body : List Stmt} {h0 : ExceptHandler} {hds : List ExceptHandler} {l : List (Value × (Addr → Value → Option Addr → TS))} {pos : Pos} {tb : WX → TS} {Wout : WX}
theorem ps_try_manyAs (hs : X.stack = X.env :: X.outer) (hf : X.env.frame = some X.env.locals) (hN : X.N.Nodup) (hi : X.N[i]? = some n) (loc : X.env.kindOf n = some .local) (tk : Takes X Wout)
    (hb : ∀ (W : WX) (pn : List (Addr × Obj)) (xe : Value → Shared → Prop), Takes (X.tr pn xe) W → PassesOwn (model X.prog X.w) X.A X.env xe → PSs (X.tr pn xe) body (tb W))
    (hh : HdsAs X n (h0 :: hds) l) : PS X (.Try body (h0 :: hds) [] [] pos) (fun D σ H => tb (wManyAs X.K i Wout D l) D σ H) := by
  refine ⟨fun pins s σ H D I h => ?_⟩
  have ok := I.ok
  have frames : X.A.frames = some (X.env :: X.outer) := by rw [ok.frames, hs]
  refine wpAny_Try_except ?_
  refine wpAny_mono ((hb (wManyAs X.K i Wout D l) (X.pn ++ pins) (fun e s1 => wpAny (model X.prog X.w) X.A (noteFrame e X.env) (fun _ s2 => wpAny (model X.prog X.w) X.A (setFlight e none) (fun _ s3 =>
    wpAny (model X.prog X.w) X.A (handleBy e X.env (h0 :: hds)) (SP X pins D) X.xe s3) X.xe s2) X.xe s1) (fun u s' xx => ?_) PassesOwn.looking).run [] s σ H D (I.toTry _) h) (fun f s1 hsp => ?_) (fun _ _ z => z)
  · obtain ⟨a, B, sI, pins', σ', H', cls, d, rfl, J', nb, up, sky, na, os, ag, w⟩ := xx
    have J : Inv X pins σ' H' sI := J'.ofTry ok
    have sky' : Sky B (X.env :: X.outer) a (Zc cls d) X.env.locals s'.heap := by rw [← hs]; exact sky
    show wpAny (model X.prog X.w) X.A (noteFrame (.ref a) X.env) _ _ _
    refine Sky.land Zc.steady frames hf sky' fun h3 fly up3 => ?_
    have J3 : Inv X pins σ' H' { s' with heap := h3 } := J.landed nb fly.1 (up.trans up3) os ag
    obtain ⟨oe, vs, he, hz, hd⟩ := fly.there
    have off : a ∉ frs (X.env :: X.outer) := fun hm => by
      obtain ⟨_, o', e', hnf⟩ := fly.2.2.1.mem hm
      rw [he] at e'; cases e'
      exact hnf _ hd
    have nL : a ≠ X.env.locals := fun z => off (List.mem_filterMap.mpr ⟨X.env, List.mem_cons_self, by rw [hf, z]⟩)
    have nF : a ∉ X.fs := fun hm => by
      obtain ⟨e, he, q⟩ := List.mem_filterMap.mp hm
      exact off (List.mem_filterMap.mpr ⟨e, List.mem_cons_of_mem _ he, q⟩)
    have S3 := J3.suite he hd na nL nF
    have go : ∀ {hds' : List ExceptHandler} {l' : List (Value × (Addr → Value → Option Addr → TS))}, HdsAs X n hds' l' → wManyAs X.K i Wout D l' cls d σ' H' →
        wpAny (model X.prog X.w) X.A (handleBy (.ref a) X.env hds') (SP X pins D) X.xe { s' with heap := h3 } := by
      intro hds' l' hk
      induction hk with
      | nil =>
        intro w
        refine wpAny_handleBy_nil ?_
        obtain ⟨k1, k2, k3, oe', vs', T, oT, ts', he', hz', hd', h1, hr⟩ := id fly
        unfold PySem.passOn
        refine wpAny_bind (wpAny_field he' hd' h1 ?_)
        rw [if_neg (show ¬ ((Value.ref T == Value.none) = true) from by simp)]
        have fin : wpAny (model X.prog X.w) X.A (setFlight (.ref a) X.env.frame) (fun _ s4 => wpAny (model X.prog X.w) X.A (throw (.ref a) : Sem Flow) (SP X pins D) X.xe s4) X.xe { s' with heap := h3 } := by
          rw [hf]
          exact HandSPX.setFlight_upZ fly fun h4 hh4 up4 => wpAny_throw (tk _ _ ⟨a, B, sI, pins, σ', H', cls, d, rfl, J, nb, (up.trans up3).trans up4, .inr (.inr (by rw [hs]; exact hh4)), na, os, ag, w⟩)
        first
          | exact wpAny_bind (wpAny_pure (wpAny_bind fin))
          | exact wpAny_bind fin
      | @cons x c ts b0 suite np p' hds2 l2 hc run r ih =>
        intro w
        obtain ⟨b, hb1, yes, no⟩ := w
        refine wpAny_handleBy_cons (codeAny_handlers_test ?_) (by intro q; cases q)
        have LT : PySem.W.Looks (model X.prog X.w) h3 (typeOf (.ref a)) cls := fun A Q E s k q => wpAny_typeOf_ref (k _ _ he) (by rw [hz.1]; exact q)
        have LM := PySem.W.exm_one (M := model X.prog X.w) (J3.kIn) LT hb1
        have test : ∀ {Q : Value → Shared → Prop} {E : Value → Shared → Prop}, Q c { s' with heap := h3 } → wpAny (model X.prog X.w) (X.A.mark (some (.ref a))) (eval (.Name x np) X.env) Q E { s' with heap := h3 } := fun {Q E} q => by
          obtain ⟨hg, dbg, hm | ⟨hm, hv, nn⟩⟩ := hc
          · exact ld_glob (X := X.suite a ((a, oe) :: (X.pn ++ pins))) S3 hg hm q dbg
          · exact ld_blt (X := X.suite a ((a, oe) :: (X.pn ++ pins))) S3 hg hm hv q nn dbg
        refine test (LM.here ?_)
        cases b with
        | true =>
          refine codeAny_handlers_suite_as ?_
          refine HandSPX.lands_againZ fly fun h4 fly4 up4 => ?_
          have J4 : Inv X pins σ' H' { s' with heap := h4 } := J.landed nb fly4.1 ((up.trans up3).trans up4) os ag
          obtain ⟨oe4, vs4, he4, hz4, hd4⟩ := fly4.there
          have S4 := J4.suite he4 hd4 na nL nF
          refine store_ok (X := X.suite a ((a, oe4) :: (X.pn ++ pins))) (v := .ref a) S4 hN hi (.inl loc) rfl (fun s5 S5 => ?_) (.inr loc)
          refine wpAny_mono ((run a oe4 cls d (X.pn ++ pins) hz4 ⟨_, hd4⟩).run [] s5 _ H' _ S5 (yes rfl a na)) (fun f s6 hsp => ?_) (fun _ _ z => False.elim z)
          have gone : ∀ {σ6 : L2.St} {H6 : Hp} {Q : Shared → Prop}, Inv (X.suite a ((a, oe4) :: (X.pn ++ pins))) [] σ6 H6 s6 → (∀ s7, Inv X pins (σ6.set i none) H6 s7 → Q s7) →
              wpAny (model X.prog X.w) X.A (do bindName X.env n .none; unbindBehindTheSuite X.env n p') (fun _ s7 => Q s7) X.xe s6 := fun {σ6 H6 Q} S6 hq => gone_ok (S6.unsuite ok) hN hi loc hq
          cases f with
          | next =>
            obtain ⟨σ6, H6, S6, q6⟩ := hsp
            exact gone S6 fun s7 J7 => ⟨_, _, J7, q6⟩
          | brk =>
            obtain ⟨σ6, H6, S6, q6⟩ := hsp
            exact gone S6 fun s7 J7 => ⟨_, _, J7, q6⟩
          | cont =>
            obtain ⟨σ6, H6, S6, q6⟩ := hsp
            exact gone S6 fun s7 J7 => ⟨_, _, J7, q6⟩
          | ret u =>
            obtain ⟨v6, σ6, H6, S6, r6, q6⟩ := hsp
            exact gone S6 fun s7 J7 => ⟨_, _, _, J7, r6, q6⟩
        | false =>
          show wpAny _ X.A (handleBy (.ref a) X.env hds2) _ _ _
          exact ih (no rfl)
    exact go hh w
  · cases f with
    | next =>
      obtain ⟨σ', H', J', q⟩ := hsp
      exact wpAny_execs_nil ⟨σ', H', J'.ofTry ok, q⟩
    | brk =>
      obtain ⟨σ', H', J', q⟩ := hsp
      exact ⟨σ', H', J'.ofTry ok, q⟩
    | cont =>
      obtain ⟨σ', H', J', q⟩ := hsp
      exact ⟨σ', H', J'.ofTry ok, q⟩
    | ret u =>
      obtain ⟨v, σ', H', J', r, q⟩ := hsp
      exact ⟨v, σ', H', J'.ofTry ok, r, q⟩
end
/-! isinstance(e, C) -/
section
open PySem.W
variable {prog : Program} {w : World} {A : Around} {E : Value → Shared → Prop} {s : Shared} {K : Frag} {x D : Addr} {ox : Obj} {od : Obj}
theorem has_cls {C : Addr} (hdct : hasDictIn K C = true) : ∃ cd, clsIn K C = some cd := by
  obtain ⟨cd, hc, _⟩ := any_some hdct
  exact ⟨cd, hc⟩
theorem obj_class {C : Addr} {name : Str} {a g : Value} (hdct : hasDictIn K C = true) (ha : findIn K (.ref C) name = some (some a)) (hg : specialIn K a "__get__" = some (some g)) (ht : takesIn K a = some true) : findObj K C (some od) name = some (.bind g a) := by
  obtain ⟨cd, hc⟩ := has_cls hdct
  unfold findObj
  rw [hc, Option.bind_some, ha, Option.bind_some]
  simp [hg, ht]
theorem exc_class {Q : Option Value → Shared → Prop} (C : ExcC K D) (X : K.In s.heap) (I : InstAt s.heap x ox D (some od)) (h : Q (some (.ref D)) { s with toks := s.toks + 1 }) : wpAny (model prog w) A (getAttr? (.ref x) "__class__") Q E s := by
  have found : findObj K D (some od) "__class__" = some (.bind (.builtin "getset_descriptor.__get__") (.builtin "object.__class__")) := obj_class C.hd C.ha C.hn C.ht
  obtain ⟨hp, g, d, t, os⟩ := s
  have L0 := I.type (M := model prog w)
  have L1 := looks_findIn (M := model prog w) X C.hg
  have L2 := looks_findIn (M := model prog w) X C.hk
  have L3 := looks_find (M := model prog w) X I found
  have sub : Looks (model prog w) hp (isInstance (.ref x) (.type "BaseException")) true := L0.andThen (looks_subIn X C.hs)
  have c0 : (false && onTheHeap (Value.builtin "BaseException.__getattribute__")) = false := rfl
  have c2 : (Value.builtin "BaseException.__getattribute__" == Value.builtin "object.__getattribute__") = false := by decide +kernel
  have c1 : (onTheHeap (Value.ref D) && Value.builtin "BaseException.__getattribute__" == Value.builtin "object.__getattribute__") = false := by rw [c2]; rfl
  unfold getAttr? getAttrBy? getAttrBy
  refine wpAny_bind (wpAny_mkText (wpAny_bind (wpAny_attempt (wpAny_holding (wpAny_bind (L0.at (wpAny_bind (L1.at ?_))))))))
  show wpAny _ _ (if (onTheHeap (Value.ref D) && Value.builtin "BaseException.__getattribute__" == Value.builtin "object.__getattribute__") = true then _ else _) _ _ _
  rw [c1, if_neg Bool.false_ne_true]
  unfold getAttrByItsOwn hookBefore
  refine wpAny_bind ?_
  rw [if_pos (show onTheHeap (Value.ref D) = true from rfl)]
  refine L2.at ?_
  refine wpAny_bind (wpAny_attempt (wpAny_holding ?_))
  unfold callGetattribute
  rw [c0, if_neg Bool.false_ne_true]
  unfold boundAndCalled
  rw [PySem.F.excAttr_ValueError.ga.bind (.ref x)]
  refine wpAny_bind (wpAny_pure ?_)
  show wpAny _ _ (call (.builtin "BaseException.__getattribute__") [.ref x, .str "__class__" t]) _ _ _
  refine wpAny_call (codeAny_call_builtin PySem.F.excAttr_ValueError.ga.plain PySem.F.entry_bexc_ga ?_)
  refine @check_slot (model prog w) _ _ ⟨hp, g, d, t + 1, os⟩ "BaseException.__getattribute__" "BaseException" "__getattribute__" (.ref x) [.str "__class__" t] [] _ (by decide +kernel) (by decide +kernel) sub (PySem.F.args_bexc_ga (.ref x) (.str "__class__" t)) ?_
  unfold Builtin.«object.__getattribute__»
  refine wpAny_bind (wpAny_of_eq (a := ((Value.ref x : Value), [Value.str "__class__" t])) (by first | rfl | (simp only [slotArgs]; rfl)) ?_)
  refine wpAny_bind (wpAny_pure (wpAny_bind (L0.at (wpAny_bind (L3.at ?_)))))
  show wpAny _ _ (holding [Value.builtin "object.__class__"] (call (.builtin "getset_descriptor.__get__") [.builtin "object.__class__", .ref x, .ref D]) >>= ret) _ _ _
  refine wpAny_bind (wpAny_holding (wpAny_call (class_get (s := ⟨hp, g, d, t + 1, os⟩) (ox := ox) (od := some od) X I C.hm ?_)))
  refine wpAny_pure ?_
  show wpAny _ _ (handedOut (.ref D)) _ _ _
  rw [handedOut_of (v := .ref D) rfl]
  first
    | exact wpAny_pure (wpAny_pure h)
    | exact wpAny_pure h
    | exact wpAny_pure (wpAny_bind (wpAny_pure (wpAny_pure h)))
theorem exc_kit (C : ExcC K D) : KitX K (.ref x) (.ref D) (fun h => InstAt h x ox D (some od) ) where
  ty := fun _ _ _ I => I.type
  it := fun _ _ X _ => by
    obtain ⟨cd, hc⟩ := has_cls C.hd
    unfold clsIn at hc
    split at hc
    · rename_i c' d' cd' sl' ho
      intro A' Q' E' s' k q
      unfold isType loadHead
      exact wpAny_bind (wpAny_loadPart (k _ _ (X _ _ ho)) (wpAny_pure q))
    · cases hc
  ne := fun h tp dd its n sl X htp => by
    obtain ⟨cd, hc⟩ := has_cls C.hd
    refine Bool.eq_false_iff.mpr fun q => ?_
    obtain rfl : D = tp := Value.ref.inj (beq_iff_eq.mp q)
    unfold clsIn at hc
    split at hc
    · rename_i c' d' cd' sl' ho
      cases (X _ _ ho).symm.trans htp
    · cases hc
  ca := fun X I k => exc_class C X I k
end
/-- isinstance(e, c), e the caught exception, its dict at dd -/
theorem call_isED {X : Cx} {a D dd : Addr} {oe : Obj} {pn : List (Addr × Obj)} (C : ExcC X.K D) (hz : Zc (.ref D) (some dd) oe) (hf : ∃ vs, oe.data = .fields vs) :
    CallR (X.suite a ((a, oe) :: pn)) (.builtin "isinstance") (fun xs H Q => (∃ fs, H dd = some (.xd fs)) ∧ rIsE X.K D a xs H Q) := by
  intro pins s σ H xs us Q I r h
  obtain ⟨⟨fs, hdd⟩, c, cv, b, rfl, hcv, e, q⟩ := h
  cases r with
  | cons rx rr =>
    cases rr with
    | cons rt rr =>
      cases rr
      cases rx
      have ec := hcv _ rt
      subst ec
      obtain ⟨hget, _⟩ := I.pin (a, oe) (List.mem_append.mpr (.inl List.mem_cons_self))
      obtain ⟨vs, hv⟩ := hf
      have hx : ObjOk X.prog X.w H s.heap dd (.xd fs) := I.hok dd _ hdd
      obtain ⟨mA, hns, hr⟩ := hx
      obtain ⟨od, ho, _⟩ := lookIn_ns hns
      have J : PySem.W.InstAt s.heap a oe D (some od) := ⟨hget, hz.1, by unfold PySem.W.notCls; rw [hv] <;> rfl, by rw [hz.2]; exact ho⟩
      exact PySem.W.kia_one (exc_kit C) I.kIn J e (fun z => nomatch z) fun tk => ⟨.bl b, H, I.kept (t' := tk) fun _ _ z => z, rfl, q⟩
end K8
set_option Elab.async false
set_option linter.all false
set_option maxRecDepth 100000
set_option maxHeartbeats 4000000
/-! Rule: list(zip(a, b)) of two lists of keys. -/
namespace K8
open PySem PySem.Spec PyProof.Rows L2 PySem.W
theorem up_ne {a b c : Nat} (h : a < b) (k : b < c) : c ≠ a := by omega
theorem five {S n : Nat} (h : S = n + 5) (j : Nat) (hj : j < 5) : S ≠ n + j := by omega
theorem five0 {S n : Nat} (h : S = n + 5) : S ≠ n := by omega
theorem fiveL {S n l : Nat} (h : S = n + 5) (k : l < n) : S ≠ l := by omega
theorem fiveB {S n : Nat} (h : S = n + 5) (j : Nat) (hj : j < 5) : n + j < S := by omega
theorem fiveB0 {S n : Nat} (h : S = n + 5) : n < S := by omega
theorem lowN {b n : Nat} (h : b < n) (j : Nat) : b ≠ n + j := by omega
theorem fiveU {S n t : Nat} (h : S = n + 5) (k : S < t) : n ≤ t := by omega
theorem zip_len : typeLookup (.type "zip") "__len__" = pure none := by rw [typeLookup_type, builtinLookup_eq_fast]; kernel_rfl
theorem zip_hint : typeLookup (.type "zip") "__length_hint__" = pure none := by rw [typeLookup_type, builtinLookup_eq_fast]; kernel_rfl
section
variable {prog : Program} {w : World} {A : Around} {E : Value → Shared → Prop} {s : Shared} {R : Result → Shared → Prop} {z TI TO i1 i2 l1 l2 S : Addr} {xs ys : Array Value}
/-- the zip ahead of its i-th pair; S, the list that takes the pairs, is none of its records -/
structure ZSt (z TI TO i1 i2 l1 l2 S : Addr) (xs ys : Array Value) (i : Nat) (h : Heap) : Prop where
  ti : IsPair h TI (.ref i1) (.ref i2)
  a : h.IsListIter i1 l1 i
  b : h.IsListIter i2 l2 i
  la : h.IsList l1 xs
  lb : h.IsList l2 ys
  out : (IsZip h z TI TO .none ∧ ∃ a b, IsPair h TO a b) ∨ ∃ T f oT, IsZipHeld h z TI TO T f ∧ h.get? T = some oT ∧ T ≠ z ∧ T ≠ i1 ∧ T ≠ i2 ∧ T ≠ S
structure Off (z TI TO i1 i2 l1 l2 S : Addr) : Prop where
  z : S ≠ z
  ti : S ≠ TI
  to : S ≠ TO
  i1 : S ≠ i1
  i2 : S ≠ i2
  l1 : S ≠ l1
  l2 : S ≠ l2
theorem ZSt.stay {i : Nat} {h h' : Heap} (O : Off z TI TO i1 i2 l1 l2 S) (x : ZSt z TI TO i1 i2 l1 l2 S xs ys i h) (k : ∀ b o, b ≠ S → h.get? b = some o → h'.get? b = some o) : ZSt z TI TO i1 i2 l1 l2 S xs ys i h' := by
  refine ⟨k _ _ O.ti.symm x.ti, x.a.at fun o => k _ o O.i1.symm, x.b.at fun o => k _ o O.i2.symm, x.la.at fun o => k _ o O.l1.symm, x.lb.at fun o => k _ o O.l2.symm, ?_⟩
  rcases x.out with ⟨q, a, b, t⟩ | ⟨T, f, oT, q, t, r1, r2, r3, r4⟩
  · exact .inl ⟨k _ _ O.z.symm q, a, b, k _ _ O.to.symm t⟩
  · exact .inr ⟨T, f, oT, k _ _ O.z.symm q, k _ _ r4 t, r1, r2, r3, r4⟩
theorem zl_item {i : Nat} {x y : Value} {Q : Option Value → Shared → Prop} (D : ZipApart z TI TO i1 i2 l1 l2) (st : ZSt z TI TO i1 i2 l1 l2 S xs ys i s.heap) (low : S < s.heap.objs.size) (hx : xs[i]? = some x) (hy : ys[i]? = some y)
    (q : ∀ h', ZSt z TI TO i1 i2 l1 l2 S xs ys (i + 1) h' → IsPair h' s.heap.objs.size x y → (∀ c o, c ≠ z → c ≠ TO → c ≠ i1 → c ≠ i2 → s.heap.get? c = some o → h'.get? c = some o) → Q (some (.ref s.heap.objs.size)) { s with heap := h' }) :
    wpAny (model prog w) A (pyNext (.ref z)) Q E s := by
  have lt : ∀ {c o}, s.heap.get? c = some o → s.heap.objs.size ≠ c := fun e => Nat.ne_of_gt (Heap.lt_size e)
  have n1 : s.heap.objs.size ≠ i1 := let ⟨_, e, _⟩ := st.a; lt e
  have n2 : s.heap.objs.size ≠ i2 := let ⟨_, e, _⟩ := st.b; lt e
  rcases st.out with ⟨hz, a, b, hTO⟩ | ⟨T, f, oT, hz, hT, r1, r2, r3, r4⟩
  · refine wpAny_pyNext_zip_item D hz st.ti hTO st.a st.b st.la st.lb hx hy fun h' a1 a2 a3 a4 a5 a6 k => ?_
    exact q h' ⟨k _ _ D.TIz D.TITO D.TIi1 D.TIi2 st.ti, a3, a4, st.la.at fun o e => k _ o D.l1z D.l1TO D.l1i1 D.l1i2 e, st.lb.at fun o e => k _ o D.l2z D.l2TO D.l2i1 D.l2i2 e, .inr ⟨_, false, _, a1, a5, lt hz, n1, n2, Nat.ne_of_gt low⟩⟩ a5 k
  · refine wpAny_pyNext_zip_item_held D hz hT st.ti st.a st.b st.la st.lb hx hy fun h' a1 a3 a4 a5 a6 k => ?_
    exact q h' ⟨k _ _ D.TIz D.TIi1 D.TIi2 st.ti, a3, a4, st.la.at fun o e => k _ o D.l1z D.l1i1 D.l1i2 e, st.lb.at fun o e => k _ o D.l2z D.l2i1 D.l2i2 e, .inr ⟨T, true, oT, a1, k _ _ r1 r2 r3 hT, r1, r2, r3, r4⟩⟩ a5 fun c o c1 _ c3 c4 e => k c o c1 c3 c4 e
theorem zl_done {i : Nat} {Q : Option Value → Shared → Prop} (hh : A.handled = none) (D : ZipApart z TI TO i1 i2 l1 l2) (st : ZSt z TI TO i1 i2 l1 l2 S xs ys i s.heap) (hend : xs[i]? = none ∨ ys[i]? = none)
    (q : ∀ h', (∀ c o, c ≠ z → c ≠ i1 → c ≠ i2 → c ≠ TO → s.heap.get? c = some o → h'.get? c = some o) → Q none { s with heap := h' }) : wpAny (model prog w) A (pyNext (.ref z)) Q E s := by
  rcases st.out with ⟨hz, a, b, hTO⟩ | ⟨T, f, oT, hz, hT, _⟩
  · exact wpAny_pyNext_zip_end hh D hz st.ti hTO st.a st.b st.la st.lb hend fun h' k => q h' fun c o c1 c2 c3 c4 e => by
      first
        | exact k c o c1 c4 c2 c3 e
        | exact k c o c1 c2 c3 e
        | exact k c o c1 c2 c3 c4 e
  · exact wpAny_pyNext_zip_end_held hh D hz hT st.ti st.a st.b st.la st.lb hend fun h' k => q h' fun c o c1 c2 c3 _ e => k c o c1 c2 c3 e
/-- the pairs at ts, above lo -/
structure Prs (knd : KeyKind prog w Key) (kvs : List (Key × Value)) (lo : Addr) (h : Heap) (ts : List Addr) : Prop where
  g : KdxG knd kvs lo h ts
theorem zl_loop {kvs : List (Key × Value)} (hh : A.handled = none) (D : ZipApart z TI TO i1 i2 l1 l2) (O : Off z TI TO i1 i2 l1 l2 S) (zS : z < S ∧ TO < S ∧ i1 < S ∧ i2 < S)
    (n : Nat) (e1 : xs.size = n) (e2 : ys.size = n) (en : kvs.length = n) (hn : n ≤ sizeLine) (item : ∀ (j : Nat) (x y : Value), xs[j]? = some x → ys[j]? = some y → ∃ k, kvs[j]? = some (k, y) ∧ keyIs k x = true) (res : Value) {h1 : Heap}
    (q : ∀ h' acc c ts, (∀ b o, b ≠ S → b ≠ z → b ≠ TO → b ≠ i1 → b ≠ i2 → h1.get? b = some o → h'.get? b = some o) → h'.get? S = some { cls := .type "list", dict := none, data := .seq acc c, slots := #[] } → ts.length = n → KdxG (mixKind prog w) kvs S h' ts →
      acc.toList = ts.map Value.ref → R (.ok (.ret res)) { s with heap := h' }) :
    ∀ (k i : Nat) (h : Heap) (c : Nat) (acc : Array Value) (ts : List Addr), n - i = k → i ≤ n → ZSt z TI TO i1 i2 l1 l2 S xs ys i h → (∀ b o, b ≠ S → b ≠ z → b ≠ TO → b ≠ i1 → b ≠ i2 → h1.get? b = some o → h.get? b = some o) →
      h.get? S = some { cls := .type "list", dict := none, data := .seq acc c, slots := #[] } → acc.toList = ts.map Value.ref → ts.length = i → KdxG (mixKind prog w) kvs S h ts →
      codeAny (model prog w) A (.builtin "list.extend.loop" ⟨[.ref S, .ref z, res], []⟩) R { s with heap := h } := by
  intro k
  induction k with
  | zero =>
    intro i h c acc ts hk hi st keep hS hacc hl G
    obtain rfl : i = n := by omega
    refine codeAny_builtin PySem.F.entry_extend_loop ?_
    rw [Around.under_plainId PySem.F.plain_extend_loop _]
    show wpAny _ A.in1 (pyNext (.ref z) >>= _) _ _ _
    refine wpAny_bind (zl_done (s := { s with heap := h }) (A := A.in1) hh D st (.inl (Array.getElem?_eq_none (by omega))) fun h' k => ?_)
    refine wpAny_pure (q h' acc c ts (fun b o b1 b2 b3 b4 b5 e => k b o b2 b4 b5 b3 (keep b o b1 b2 b3 b4 b5 e)) (k S _ O.z O.i1 O.i2 O.to hS) hl ⟨G.rise, G.above, fun j a hj => ?_⟩ hacc)
    obtain ⟨key, kk, x, f1, f2, f3⟩ := G.pairs j a hj
    have up := G.above a (List.mem_of_getElem? hj)
    exact ⟨key, kk, x, f1, f2, k a _ (up_ne zS.1 up) (up_ne zS.2.2.1 up) (up_ne zS.2.2.2 up) (up_ne zS.2.1 up) f3⟩
  | succ k ih =>
    intro i h c acc ts hk hi st keep hS hacc hl G
    have lt : i < n := by omega
    have size : acc.size = i := by rw [← Array.length_toList, hacc, List.length_map, hl]
    have hx := Array.getElem?_eq_getElem (xs := xs) (i := i) (by omega)
    have hy := Array.getElem?_eq_getElem (xs := ys) (i := i) (by omega)
    refine codeAny_builtin PySem.F.entry_extend_loop ?_
    rw [Around.under_plainId PySem.F.plain_extend_loop _]
    show wpAny _ A.in1 (pyNext (.ref z) >>= _) _ _ _
    have low : S < h.objs.size := Heap.lt_size hS
    refine wpAny_bind (zl_item (s := { s with heap := h }) D st low hx hy fun h' st' ht kp => ?_)
    dsimp only at ht kp ⊢
    have hS' := kp S _ O.z O.to O.i1 O.i2 hS
    have up : ∀ b o, b ≠ S → h'.get? b = some o → (h'.update S (Obj.mapSeq (·.push (Value.ref h.objs.size)))).get? b = some o := fun b o hb e => (Heap.get?_update_other _ _ (Ne.symm hb)).trans e
    show wpAny _ A.in1 (updateSeq S (·.push (Value.ref h.objs.size)) >>= _) _ _ _
    refine wpAny_bind ?_
    refine wpAny_updateSeq hS' rfl (wpAny_pure ⟨plainId_quiet PySem.F.plain_extend_loop _, ih (i + 1) _ _ (acc.push (Value.ref h.objs.size)) (ts ++ [h.objs.size]) (by omega) lt (st'.stay O up)
      (fun b o b1 b2 b3 b4 b5 e => up b o b1 (kp b o b2 b3 b4 b5 (keep b o b1 b2 b3 b4 b5 e))) (Heap.get?_update_self _ hS' rfl) (by rw [Array.toList_push, hacc, List.map_append]; rfl) (by rw [List.length_append, hl]; rfl) ⟨?_, ?_, ?_⟩⟩) (by rw [size]; omega) (by show (acc.push (Value.ref h.objs.size)).size ≤ sizeLine + 1; rw [Array.size_push, size]; omega)
    · refine List.pairwise_append.mpr ⟨G.rise, List.pairwise_singleton _ _, fun a ha b hb => ?_⟩
      rw [List.mem_singleton.mp hb]
      exact G.there ha
    · intro a ha
      rcases List.mem_append.mp ha with ha | ha
      · exact G.above a ha
      · rw [List.mem_singleton.mp ha]; exact low
    · intro j b hj
      rcases Nat.lt_trichotomy j ts.length with g1 | g1 | g1
      · rw [List.getElem?_append_left g1] at hj
        obtain ⟨key, kk, x, f1, f2, f3⟩ := G.pairs j b hj
        have hb := G.above b (List.mem_of_getElem? hj)
        exact ⟨key, kk, x, f1, f2, up b _ (Nat.ne_of_gt hb) (kp b _ (up_ne zS.1 hb) (up_ne zS.2.1 hb) (up_ne zS.2.2.1 hb) (up_ne zS.2.2.2 hb) f3)⟩
      · subst g1
        have hb : h.objs.size = b := by simpa using hj
        subst hb
        obtain ⟨kk, f1, f2⟩ := item _ _ _ hx hy
        exact ⟨_, kk, _, by rw [hl]; exact f1, f2, up _ _ (Nat.ne_of_gt low) ht⟩
      · rw [List.getElem?_eq_none (by rw [List.length_append, List.length_singleton]; omega)] at hj
        cases hj
theorem zl_call {kvs : List (Key × Value)} {Q : Value → Shared → Prop} (hh : A.handled = none) (D : ZipApart z TI TO i1 i2 l1 l2) (st : ∀ S, S = s.heap.objs.size → ZSt z TI TO i1 i2 l1 l2 S xs ys 0 s.heap) (O : Off z TI TO i1 i2 l1 l2 s.heap.objs.size) (zS : z < s.heap.objs.size ∧ TO < s.heap.objs.size ∧ i1 < s.heap.objs.size ∧ i2 < s.heap.objs.size)
    (hz : IsZip s.heap z TI TO .none) (n : Nat) (e1 : xs.size = n) (e2 : ys.size = n) (en : kvs.length = n) (hn : n ≤ sizeLine) (item : ∀ (j : Nat) (x y : Value), xs[j]? = some x → ys[j]? = some y → ∃ k, kvs[j]? = some (k, y) ∧ keyIs k x = true)
    (q : ∀ h' acc c ts, (∀ b o, b ≠ z → b ≠ TO → b ≠ i1 → b ≠ i2 → s.heap.get? b = some o → h'.get? b = some o) → h'.get? s.heap.objs.size = some { cls := .type "list", dict := none, data := .seq acc c, slots := #[] } → ts.length = n → KdxG (mixKind prog w) kvs s.heap.objs.size h' ts →
      acc.toList = ts.map Value.ref → Q (.ref s.heap.objs.size) { s with heap := h' }) :
    wpAny (model prog w) A (call (.type "list") [.ref z]) Q E s := by
  refine callType_codes (Q₁ := fun obj s1 => obj = .ref s.heap.objs.size ∧ s1 = { s with heap := s.heap.push { cls := .type "list", data := .seq #[] } }) PySem.F.called_list (PySem.F.typeCall_list_1 _) PySem.F.entry_list_init
    (code_list_new _ ⟨rfl, rfl⟩) fun obj s1 h1 => ?_
  obtain ⟨rfl, rfl⟩ := h1
  have hS : (s.heap.push { cls := .type "list", data := .seq #[] }).get? s.heap.objs.size = some { cls := .type "list", data := .seq #[] } := Heap.get?_push_size _ rfl
  have push : ∀ b o, s.heap.get? b = some o → (s.heap.push { cls := .type "list", data := .seq #[] }).get? b = some o := fun b o e => Heap.get?_push_of_some _ e
  refine ⟨⟨_, hS, rfl⟩, PySem.F.args_list_init_2 _ _, ?_⟩
  show wpAny _ A.in1.in1 (do let old ← Builtin.List.listItems (.ref s.heap.objs.size); Builtin.List.listUpdate (.ref s.heap.objs.size) (fun _ => #[]); letGo old.toList.reverse; Builtin.List.listExtendWith (.ref s.heap.objs.size) (.ref z) .none) _ _ _
  refine wpAny_bind ?_
  unfold Builtin.List.listItems
  refine wpAny_bind (wpAny_seqItems hS rfl (wpAny_pure ?_))
  show wpAny _ _ (updateSeq s.heap.objs.size (fun _ => #[]) >>= fun _ => letGo (#[] : Array Value).toList.reverse >>= fun _ => Builtin.List.listExtendWith (.ref s.heap.objs.size) (.ref z) .none) _ _ _
  refine wpAny_bind (wpAny_updateSeq hS rfl ?_)
  have hS2 := Heap.get?_update_self (Obj.mapSeq (fun _ => (#[] : Array Value))) hS rfl
  have oth : ∀ b o, b ≠ s.heap.objs.size → (s.heap.push { cls := .type "list", data := .seq #[] }).get? b = some o → ((s.heap.push { cls := .type "list", data := .seq #[] }).update s.heap.objs.size (Obj.mapSeq (fun _ => (#[] : Array Value)))).get? b = some o :=
    fun b o hb e => (Heap.get?_update_other _ _ (Ne.symm hb)).trans e
  refine wpAny_bind (wpAny_letGo ?_)
  have hz2 : IsZip ((s.heap.push { cls := .type "list", data := .seq #[] }).update s.heap.objs.size (Obj.mapSeq (fun _ => (#[] : Array Value)))) z TI TO .none := oth _ _ O.z.symm (push _ _ hz)
  have ty : Shared.TypeIs { s with heap := (s.heap.push { cls := .type "list", data := .seq #[] }).update s.heap.objs.size (Obj.mapSeq (fun _ => (#[] : Array Value))) } (.ref z) "zip" := ⟨_, hz2, rfl⟩
  unfold Builtin.List.listExtendWith
  refine wpAny_bind (wpAny_typeOf ty ?_)
  have c1 : Builtin.List.listSameRef (.ref s.heap.objs.size) (.ref z) = false := by simp [Builtin.List.listSameRef, O.z]
  have c2 : (Value.type "zip" == Value.type "list") = false := by decide
  have c3 : (Value.type "zip" == Value.type "tuple") = false := by decide
  simp only [c1, c2, c3, Bool.or_false, Bool.false_eq_true, if_false]
  refine wpAny_bind (wpAny_pyIter_zip hz2 ?_)
  refine wpAny_bind (wpAny_holding ?_)
  unfold Builtin.List.listLengthHint
  refine wpAny_bind (wpAny_specialOf ty zip_len ?_)
  show wpAny _ _ (specialOf (Value.ref z) (Str.ofString "__length_hint__") >>= _) _ _ _
  refine wpAny_bind (wpAny_specialOf ty zip_hint ?_)
  refine wpAny_pure ?_
  show wpAny _ _ (rule "list.extend.makes-room" >>= fun _ => Builtin.List.listTouch (.ref s.heap.objs.size) >>= fun _ =>
    again (.builtin "list.extend.loop" ⟨[.ref s.heap.objs.size, .ref z, .none], []⟩)) _ _ _
  refine wpAny_bind (wpAny_rule ?_)
  refine wpAny_bind ?_
  show wpAny _ _ (updateSeq s.heap.objs.size (·.push .none) >>= fun _ => updateSeq s.heap.objs.size (·.pop)) _ _ _
  refine wpAny_bind (wpAny_updateSeq hS2 rfl ?_)
  have hS3 := Heap.get?_update_self (Obj.mapSeq (·.push Value.none)) hS2 rfl
  refine wpAny_updateSeq (hz := by seq_fits) hS3 rfl ?_
  have hS4 := Heap.get?_update_self (Obj.mapSeq (·.pop)) hS3 rfl
  have kp : ∀ b o, b ≠ s.heap.objs.size → s.heap.get? b = some o → ((((s.heap.push { cls := .type "list", data := .seq #[] }).update s.heap.objs.size (Obj.mapSeq (fun _ => (#[] : Array Value)))).update s.heap.objs.size (Obj.mapSeq (·.push Value.none))).update s.heap.objs.size (Obj.mapSeq (·.pop))).get? b = some o :=
    fun b o hb e => (Heap.get?_update_other _ _ (Ne.symm hb)).trans ((Heap.get?_update_other _ _ (Ne.symm hb)).trans (oth b o hb (push b o e)))
  refine wpAny_pure ⟨plainId_quiet PySem.F.plain_extend_loop _, zl_loop (kvs := kvs) (s := s) (h1 := s.heap) (by simp [hh]) D O zS n e1 e2 en hn item .none (fun h' acc c ts k hL hl G ha => ⟨rfl, q h' acc c ts (fun b o b2 b3 b4 b5 e => k b o (Nat.ne_of_lt (Heap.lt_size e)) b2 b3 b4 b5 e) hL hl G ha⟩)
    n 0 _ _ #[] [] (Nat.sub_zero _) (Nat.zero_le _) ((st _ rfl).stay O kp) (fun b o b1 _ _ _ _ e => kp b o b1 e) hS4 rfl rfl ⟨List.Pairwise.nil, (fun _ z => nomatch z), fun j a z => by simp at z⟩⟩
end
section
variable {X : Cx} {e1 e2 : Expr} {ta : TA} {p p2 pos pos2 : Pos}
/-- list(zip(a, b)), both lists of keys and values of one length -/
def tListZip (K : PySem.W.Frag) (ta : TA) : TE := fun σ H Q => ta σ H fun vs H1 => ∃ (a b : Addr) (ks : List Key) (ys : List V), vs = [.ref a, .ref b] ∧ SqL K H1 a (ks.map kV) ∧ SqL K H1 b ys ∧ ks.length = ys.length ∧ ys.length ≤ 1000 ∧
  ∀ (H' : Hp) (p : Addr) (ts : List Addr), (∀ b o, H1 b = some o → H' b = some o) → H1 p = none → (∀ t ∈ ts, H1 t = none) → p ∉ ts → H' p = some (.lst (ts.map V.ref)) → Paired (fun (t : Addr) (q : Key × V) => H' t = some (.tup [kV q.1, q.2])) ts (ks.zip ys) → Q (.ref p) H'
theorem kv_zip : ∀ {ks : List Key} {ys : List V} {us : List Value}, ks.length = ys.length → Vals ys us → KV (ks.zip ys) (ks.zip us)
  | [], _, _, _, _ => .nil
  | k :: ks, _, _, h, .nil => by cases h
  | k :: ks, _, _, h, .cons r t => .cons ⟨rfl, r⟩ (kv_zip (Nat.succ.inj h) t)
theorem zl_laid {X : Cx} {pins : List (Addr × Obj)} {σ : L2.St} {H : Hp} {s : Shared} {S : Addr} {h' : Heap} {tk : Nat} {kvs : List (Key × V)} {vs : List (Key × Value)} {acc : Array Value} {c : Nat} {ts : List Addr} (I : Inv X pins σ H s) (hS0 : s.heap.objs.size ≤ S) (few : kvs.length ≤ sizeLine) (kv : KV kvs vs)
    (k : ∀ b o, s.heap.get? b = some o → h'.get? b = some o) (hL : h'.get? S = some { cls := .type "list", dict := none, data := .seq acc c, slots := #[] }) (hl : ts.length = vs.length) (G : KdxG (mixKind X.prog X.w) vs S h' ts) (hacc : acc.toList = ts.map Value.ref) :
    ∃ H' : Hp, (∀ b o, H b = some o → H' b = some o) ∧ H S = none ∧ (∀ t ∈ ts, H t = none) ∧ S ∉ ts ∧ H' S = some (.lst (ts.map V.ref)) ∧ Paired (fun (t : Addr) (q : Key × V) => H' t = some (.tup [kV q.1, q.2])) ts kvs ∧ Inv X pins σ H' { s with heap := h', toks := tk } := by
  have lk : kvs.length = vs.length := Paired.length kv
  have out : S ∉ ts := fun z => Nat.lt_irrefl _ (G.above _ z)
  have nd : ts.Nodup := List.Pairwise.imp (fun {a b} (h : a < b) => Nat.ne_of_lt h) G.rise
  have up : ∀ t ∈ ts, s.heap.objs.size ≤ t := fun t ht => Nat.le_of_lt (Nat.lt_of_le_of_lt hS0 (G.above t ht))
  have new : ∀ t ∈ ts, H t = none := fun t ht => I.hok.fresh (up t ht)
  have newS : H S = none := I.hok.fresh hS0
  have all := LiI.putT_at ts kvs (upd H S (.lst (ts.map V.ref))) (by omega) nd
  have off : ∀ b, b ∉ ts → b ≠ S → LiI.putT (upd H S (.lst (ts.map V.ref))) ts kvs b = H b := fun b h1 h2 => by rw [LiI.putT_off ts kvs _ h1, upd_ne h2]
  have low : ∀ b o, s.heap.get? b = some o → b ∉ ts ∧ b ≠ S := fun b o e => ⟨fun z => absurd (Heap.lt_size e) (Nat.not_lt.mpr (up b z)), Nat.ne_of_lt (Nat.lt_of_lt_of_le (Heap.lt_size e) hS0)⟩
  have kp : ∀ b u, H b = some u → (LiI.putT (upd H S (.lst (ts.map V.ref))) ts kvs) b = some u := fun b u e => by
    rw [off b (fun z => by rw [new b z] at e; cases e) (fun z => by rw [z, newS] at e; cases e)]
    exact e
  have eS : LiI.putT (upd H S (.lst (ts.map V.ref))) ts kvs S = some (.lst (ts.map V.ref)) := by rw [LiI.putT_off ts kvs _ out, upd_same]
  refine ⟨LiI.putT (upd H S (.lst (ts.map V.ref))) ts kvs, kp, newS, new, out, eS, all, ?_⟩
  refine I.call' (ch := []) rfl ⟨fun b o q _ _ _ => k b o q, fun b o q _ _ _ => ⟨o.slots, k b o q⟩, fun b o q n _ => ?_, fun b o q _ => ⟨o, k b o q⟩, fun b xs q => kp b _ q, fun b o u q => kp b _ q, fun b ps q => ⟨#[], by rw [kp b _ q]; simp⟩⟩ (fun b u q => ?_) I.bare fun b z => by simp at z
  · obtain ⟨z1, z2⟩ := low b o q
    rw [off b z1 z2]
    exact n
  · by_cases hb : b ∈ ts
    · obtain ⟨j, pk, f1, f2, f3⟩ := LiI.paired_ix all hb
      rw [f3] at q
      cases q
      obtain ⟨key, kk, x, g1, g2, g3⟩ := G.pairs j b f1
      obtain ⟨qv, p1, p2, p3⟩ := LiI.paired_get kv f2
      rw [g1] at p1
      cases p1
      have rk : RelV (kV pk.1) key := by
        rw [p2]
        exact relV_key (show keyIs kk key = true from g2)
      exact ⟨by show 2 ≤ sizeLine; decide, [key, x], .cons rk (.cons p3 .nil), ⟨_, g3, rfl, _, rfl⟩⟩
    · by_cases hb2 : b = S
      · rw [hb2] at q ⊢
        rw [eS] at q
        cases q
        refine ⟨by rw [List.length_map]; omega, acc.toList, c, by rw [hacc]; exact LiI.vals_refs ts, ?_⟩
        rw [Array.toArray_toList]
        exact hL
      · rw [off b hb hb2] at q
        exact (I.hok b u q).stay (fun d v _ y => k d v y) (fun d y => kp d _ y) fun d xs y => kp d _ y
theorem pe_listZip (hc : X.calm = true) (ha : PA X [e1, e2] ta) (hg : Gl X "list") (hm : X.mg "list" = none) (hg2 : Gl X "zip") (hm2 : X.mg "zip" = none)
    (hs : starEach [.Call (.Name "zip" p2) [e1, e2] [] pos2] X.env = (false, eval (.Call (.Name "zip" p2) [e1, e2] [] pos2) X.env) :: starEach [] X.env := by rfl)
    (hs2 : starEach [e1, e2] X.env = (false, eval e1 X.env) :: starEach [e2] X.env := by rfl) (hpl : (backTo pos2 (starEach [e2] X.env)).any (·.1) = false := by rfl) :
    PE X (.Call (.Name "list" p) [.Call (.Name "zip" p2) [e1, e2] [] pos2] [] pos) (tListZip X.K ta) := by
  refine ⟨fun pins s σ H Q I h => ?_⟩
  refine wpAny_Call_Name_kw (ld_blt I hg hm (u := .type "list") (by decide +kernel) ?_)
  refine PyProof.Rows.callWith_type1 ?_ hs rfl
  rw [hs]
  show wpAny _ _ (spliced ((false, eval (.Call (.Name "zip" p2) [e1, e2] [] pos2) X.env) :: backTo pos (starEach [] X.env))) _ _ s
  refine Calls.spliced_cons ?_
  refine wpAny_Call_Name_kw (ld_blt I hg2 hm2 PyProof.Rows.boot_zip ?_)
  refine PyProof.Rows.callWith_type1 (thn (ha.run pos2 pins s σ H _ I h) fun us s1 ⟨vs, H1, I1, r1, q1⟩ => ?_) hs2 hpl
  obtain ⟨a, b, ks, ys, ex, hqx, hqy, hl, hz, q⟩ := q1
  subst ex
  cases r1 with
  | cons r rr =>
    cases rr with
    | cons r' rr =>
      cases rr
      cases r
      cases r'
      obtain ⟨its, rv, p1, z1⟩ := I1.list hqx
      obtain ⟨its2, rv2, p2, z2⟩ := I1.list hqy
      have n1 : its.length = ks.length := by rw [← rv.length, List.length_map]
      have n2 : its2.length = ks.length := by rw [← rv2.length, hl]
      refine call_zip_2 p1.isList p2.isList fun h' hz' hTI hTO h1 h2 hsz hk => ?_
      have I2 : Inv X pins σ H1 { s1 with heap := h' } := I1.kept (t' := s1.toks) hk
      refine Calls.spliced_nil ?_
      have la : a < s1.heap.objs.size := p1.lt
      have lb : b < s1.heap.objs.size := p2.lt
      refine zl_call (s := { s1 with heap := h' }) (kvs := ks.zip its2) (xs := its.toArray) (ys := its2.toArray) (I1.ok.hd hc) (PySem.W.ktu_apart s1.heap.objs.size a b la lb)
        (fun S hS => ⟨hTI, h1, h2, p1.isList.at fun o e => hk _ o e, p2.isList.at fun o e => hk _ o e, .inl ⟨hz', _, _, hTO⟩⟩) ⟨five hsz 4 (by decide), five hsz 2 (by decide), five hsz 3 (by decide), five0 hsz, five hsz 1 (by decide), fiveL hsz la, fiveL hsz lb⟩
        ⟨fiveB hsz 4 (by decide), fiveB hsz 3 (by decide), fiveB0 hsz, fiveB hsz 1 (by decide)⟩ hz' ks.length (by rw [List.size_toArray, n1]) (by rw [List.size_toArray, n2]) (by rw [List.length_zip, n2, Nat.min_self]) (by rw [hl, sizeLine_eq]; omega) (fun j x y hx hy => ?_) fun h2 acc c ts k hL hl2 G hacc => ?_
      · have hx' : its[j]? = some x := by simpa using hx
        have hy' : its2[j]? = some y := by simpa using hy
        have jlt : j < ks.length := by rw [← n1]; exact (List.getElem?_eq_some_iff.mp hx').1
        have hk0 := List.getElem?_eq_getElem jlt
        obtain ⟨u, hu, ru⟩ := rv.get (i := j) (x := kV ks[j]) (by rw [List.getElem?_map, hk0]; rfl)
        rw [hx'] at hu
        cases hu
        exact ⟨ks[j], List.getElem?_zip_eq_some.mpr ⟨hk0, hy'⟩, kV_is (P := X.prog) (w := X.w) ru⟩
      · have low : ∀ b o, s1.heap.get? b = some o → h2.get? b = some o := fun b o e => by
          have hb := Heap.lt_size e
          exact k b o (lowN hb 4) (lowN hb 3) (lowN hb 0) (lowN hb 1) (hk b o e)
        have I3 : Inv X pins σ H1 { s1 with heap := h' } := I2
        -- the records of the zip are not tracked: the list and its pairs are laid over what stood ahead
        have below : ∀ t ∈ ts, s1.heap.objs.size ≤ t := fun t ht => fiveU hsz (G.above t ht)
        obtain ⟨H', k1, k2, k3, k4, k5, k6, J⟩ := zl_laid (S := h'.objs.size) (tk := s1.toks) I1 (by omega) (by rw [List.length_zip, sizeLine_eq]; omega) (kv_zip hl rv2) low hL (by rw [hl2, List.length_zip, n2, Nat.min_self]) G hacc
        exact ⟨.ref _, H', J, rfl, q H' _ ts k1 k2 k3 k4 k5 k6⟩
end
end K8
set_option Elab.async false
set_option linter.all false
set_option maxRecDepth 100000
set_option maxHeartbeats 4000000
/-! The names that may be drawn. -/
namespace K8
open PySem
def sig (c : Nat) : Str := ⟨#[c]⟩
def base0 (first : Nat) : List Str := (List.range 8).map fun k => sig (97 + (first + 7 * k) % 26)
def base1 (first : Nat) : List Str := (List.range 8).map fun k => Txt.mul (sig (97 + first)) (Int.ofNat k + 1)
def base2 (first : Nat) : List Str := (base0 first).map fun x => "kqzjxvw" ++ x
def base3 : List Str := Txt.split "main ended says gates keep jobs walks notes" " "
def fresh : List Str := (List.range 8).map fun k => "zz" ++ sig (97 + k)
def good8 (xs : List Str) : Bool := decide (xs.length = 8) && decide xs.Nodup && xs.all fun x => decide (Nm x) && decide (x ∉ fresh)
theorem good_all : (List.range 26).all (fun f => good8 (base0 f) && good8 (base1 f) && good8 (base2 f)) = true := by decide +kernel
theorem good_3 : good8 base3 = true := by decide +kernel
/-- a name that is drawn -/
structure Nd (x : Str) : Prop where
  nm : Nm x
  out : x ∉ fresh
structure Names8 (xs : List Str) : Prop where
  len : xs.length = 8
  nd : xs.Nodup
  ok : ∀ x ∈ xs, Nd x
theorem names8 {xs : List Str} (h : good8 xs = true) : Names8 xs := by
  unfold good8 at h
  simp only [Bool.and_eq_true, decide_eq_true_eq, List.all_eq_true] at h
  exact ⟨h.1.1, h.1.2, fun x hx => ⟨(h.2 x hx).1, (h.2 x hx).2⟩⟩
theorem good_at {f : Nat} (h : f < 26) : Names8 (base0 f) ∧ Names8 (base1 f) ∧ Names8 (base2 f) := by
  have q := List.all_eq_true.mp good_all f (List.mem_range.mpr h)
  simp only [Bool.and_eq_true] at q
  exact ⟨names8 q.1.1, names8 q.1.2, names8 q.2⟩
theorem letter_at {j : Nat} (h : j < 26) : ("abcdefghijklmnopqrstuvwxyz" : Str).cps[j]? = some (97 + j) := by
  have all : ∀ j < 26, ("abcdefghijklmnopqrstuvwxyz" : Str).cps[j]? = some (97 + j) := by decide +kernel
  exact all j h
end K8
set_option Elab.async false
set_option linter.all false
set_option maxRecDepth 100000
set_option maxHeartbeats 4000000
/-! Readings of comprehensions in one step. -/
namespace K8
open PySem L2
theorem seq_asg {te : TE} {g : TG} {u : TS} {D : Ends} {σ : L2.St} {H : Hp} (h : te σ H fun x H1 => g x σ H1 (u D)) : tSeq (tAsg te g) u D σ H := h
theorem asg1 {te : TE} {g : TG} {D : Ends} {σ : L2.St} {H : Hp} (h : te σ H fun x H1 => g x σ H1 D.nx) : tAsg te g D σ H := h
theorem wipe1 (σ : L2.St) (i : Nat) (x : Option V) : wipe ((wipe σ [i]).set i x) [i] = wipe σ [i] := by
  show (((σ.set i none).set i x).set i none) = σ.set i none
  rw [List.set_set, List.set_set]
/-- over range(n), the element a plain value of the number -/
theorem lc_rangeF {wi : TI} {i : Nat} {te : TE} {σ : L2.St} {H : Hp} {Q : VK} (n : Nat) (F : Nat → V) (hn : n ≤ 1000) (hi : ∀ R : It → Hp → Prop, R (Itr 0 n) H → wi σ H R) (hq : ∀ D, H D = none → Q (.ref D) (upd H D (.lst ((List.range n).map F))))
    (he : ∀ j, j < n → ∀ (H' : Hp) (Q' : VK), Q' (F j) H' → te ((σ.set i none).set i (some (.int (0 + (j : Int))))) H' Q') : tLc wi (gName i) tYes te [i] σ H Q := by
  refine hi _ fun D hD => ?_
  refine lc_it (walk_range (lo := 0) (n := n)) (Qd := fun H' => Q (.ref D) H') (fun k H' => H' = upd H D (.lst ((List.range k).map F))) rfl (fun _ _ _ _ => trivial) (fun k x H1 H2 hk p y => ?_) fun H' p => by rw [p]; exact hq D hD
  obtain ⟨rfl, rfl⟩ := y
  subst p
  refine ⟨wipe1 _ _ _, ?_⟩
  unfold tYes
  dsimp only
  rw [if_pos rfl]
  refine he k hk _ _ ?_
  refine ⟨_, upd_same, by rw [List.length_map, List.length_range]; exact small1000 (by omega), ?_⟩
  rw [upd_upd, List.range_succ, List.map_append]
  rfl
/-- over a list that C tells of, at the heap behind the list's making: the test and the element leave what is tracked as it is -/
theorem lc_listC {K : PySem.W.Frag} {wi : TI} {i : Nat} {tt : TT} {te : TE} {σ : L2.St} {H0 : Hp} {Q : VK} (C : Addr → List V → Hp → Prop) (p : V → Bool) (F : V → V) (hi : ∀ R : It → Hp → Prop, (∀ a xs H, C a xs H → R (Itl K a) H) → wi σ H0 R)
    (hl : ∀ a xs H, C a xs H → SqL K H a xs ∧ xs.length ≤ 1000)
    (hq : ∀ a xs H D H', C a xs H → H D = none → Same H H' → H' D = some (.lst ((xs.filter p).map F)) → Q (.ref D) H')
    (ht : ∀ a xs H (x : V) (H' : Hp) (Q' : Bool → Hp → Prop), C a xs H → x ∈ xs → Same H H' → (∀ H'', Same H' H'' → Q' (p x) H'') → tt ((σ.set i none).set i (some x)) H' Q')
    (he : ∀ a xs H (x : V) (H' : Hp) (Q' : VK), C a xs H → x ∈ xs → p x = true → Same H H' → (∀ H'', Same H' H'' → Q' (F x) H'') → te ((σ.set i none).set i (some x)) H' Q') : tLc wi (gName i) tt te [i] σ H0 Q := by
  refine hi _ fun a xs H hc D hD => ?_
  obtain ⟨hl, hn⟩ := hl a xs H hc
  refine lc_it (walk_list (K := K) (a := a) (xs := xs)) (Qd := fun H' => Q (.ref D) H') (fun k H' => Same H H' ∧ H' D = some (.lst (((xs.take k).filter p).map F))) ⟨same_new (Same.refl H) hD, upd_same⟩ (fun k H' _ pv => pv.1.seq hl) (fun k x H1 H2 hk pv y => ?_) fun H' pv => hq a xs H D H' hc hD pv.1 (by rw [List.take_length] at pv; exact pv.2)
  obtain ⟨rfl, hx⟩ := y
  have mem : x ∈ xs := List.mem_of_getElem? hx
  have tk : xs.take (k + 1) = xs.take k ++ [x] := by rw [List.take_add_one, hx]; rfl
  refine ⟨wipe1 _ _ _, ht a xs H x _ _ hc mem pv.1 fun H3 s3 => ?_⟩
  cases hp : p x with
  | false =>
    refine iteF ⟨pv.1.trans s3, ?_⟩
    rw [tk, List.filter_append, List.filter_cons_of_neg (by rw [hp]; decide), List.filter_nil, List.append_nil]
    exact s3 _ _ pv.2
  | true =>
    refine iteT ?_
    refine he a xs H x _ _ hc mem hp (pv.1.trans s3) fun H4 s4 => ?_
    refine ⟨_, s4 _ _ (s3 _ _ pv.2), ?_, ?_, ?_⟩
    · rw [List.length_map]
      refine small1000 (Nat.le_trans (List.length_filter_le _ _) ?_)
      rw [List.length_take]
      omega
    · exact same_put ((pv.1.trans s3).trans s4) hD
    · rw [tk, List.filter_append, List.filter_cons_of_pos hp, List.filter_nil, List.map_append]
      exact upd_same
/-- over a list that stands -/
theorem lc_listG {K : PySem.W.Frag} {wi : TI} {i : Nat} {tt : TT} {te : TE} {σ : L2.St} {H : Hp} {Q : VK} (a : Addr) (xs : List V) (p : V → Bool) (F : V → V) (hi : ∀ R : It → Hp → Prop, R (Itl K a) H → wi σ H R) (hl : SqL K H a xs) (hn : xs.length ≤ 1000)
    (hq : ∀ D H', H D = none → Same H H' → H' D = some (.lst ((xs.filter p).map F)) → Q (.ref D) H')
    (ht : ∀ (x : V) (H' : Hp) (Q' : Bool → Hp → Prop), x ∈ xs → Same H H' → (∀ H'', Same H' H'' → Q' (p x) H'') → tt ((σ.set i none).set i (some x)) H' Q')
    (he : ∀ (x : V) (H' : Hp) (Q' : VK), x ∈ xs → p x = true → Same H H' → (∀ H'', Same H' H'' → Q' (F x) H'') → te ((σ.set i none).set i (some x)) H' Q') : tLc wi (gName i) tt te [i] σ H Q := by
  refine lc_listC (K := K) (fun a' xs' H' => a' = a ∧ xs' = xs ∧ H' = H) p F (fun R h => hi R (h a xs H ⟨rfl, rfl, rfl⟩)) (fun _ _ _ h => ?_) (fun _ _ _ D H' h => ?_) (fun _ _ _ x H' Q' h => ?_) (fun _ _ _ x H' Q' h => ?_)
  all_goals obtain ⟨rfl, rfl, rfl⟩ := h
  · exact ⟨hl, hn⟩
  · exact hq D H'
  · exact ht x H' Q'
  · exact he x H' Q'
/-! texts as values -/
def vstr : V → Str
  | .str x => x
  | _ => Str.empty
theorem vstr_map (xs : List Str) : (xs.map V.str).map vstr = xs := by
  rw [List.map_map]
  exact List.map_id xs
theorem perm_strs {ys : List V} {xs : List Str} (h : ys.Perm (xs.map V.str)) : ∃ zs : List Str, ys = zs.map V.str ∧ zs.Perm xs := by
  have all : ∀ y ∈ ys, V.str (vstr y) = y := fun y hy => by
    obtain ⟨x, _, rfl⟩ := List.mem_map.mp (h.mem_iff.mp hy)
    rfl
  refine ⟨ys.map vstr, ?_, by have q := h.map vstr; rw [vstr_map] at q; exact q⟩
  rw [List.map_map]
  exact (List.map_congr_left (g := id) all).trans (List.map_id ys) |>.symm
theorem cut_to (xs : List V) (m : Nat) : cutV xs none (some (m : Int)) = xs.take m := by
  unfold cutV
  rw [HT.sIx_none, HT.sIx_nat, List.drop_zero, Nat.sub_zero]
  rcases Nat.le_total m xs.length with h | h
  · rw [Nat.min_eq_left h]
  · rw [Nat.min_eq_right h, List.take_length, List.take_of_length_le h]
theorem cut_from (xs : List V) (m : Nat) : cutV xs (some (m : Int)) none = xs.drop m := by
  unfold cutV
  rw [HT.sIx_none, HT.sIx_nat]
  rcases Nat.le_total m xs.length with h | h
  · rw [Nat.min_eq_left h, ← List.length_drop, List.take_length]
  · rw [Nat.min_eq_right h, List.drop_length, List.drop_of_length_le h, List.take_nil]
end K8
set_option Elab.async false
set_option linter.all false
set_option maxRecDepth 100000
set_option maxHeartbeats 4000000
/-! The world that rows are drawn in, as a dict. -/
namespace K8
open PySem L2
theorem dg {H : Hp} {a : Addr} {kvs : List (Key × V)} {k : Str} {v : V} (e : H a = some (.dK kvs)) (h : valV kvs (.inr k) = some v) : DGet H a (.str k) (some v) := by
  rw [← h]
  exact DGet.k (k := .inr k) e
theorem dgo {H : Hp} {a : Addr} {kvs : List (Key × V)} {k : Str} (e : H a = some (.dK kvs)) : DGet H a (.str k) (valV kvs (.inr k)) := DGet.k (k := .inr k) e
theorem dp {H : Hp} {a : Addr} {kvs kvs' : List (Key × V)} {k : Str} {v : V} (e : H a = some (.dK kvs)) (hl : kvs.length ≤ 1000) (h : putK kvs (.inr k) v = kvs') : DPut H a (.str k) v (upd H a (.dK kvs')) := by
  rw [← h]
  exact DPut.k (k := .inr k) e (small1000 hl)
def wkv (jl wl gl nl kl : Addr) (walk : Bool) (left : Nat) : List (Key × V) :=
  [(.inr "jobs", .ref jl), (.inr "sort", .str (dword walk)), (.inr "left", .int left), (.inr "deep", .int 4), (.inr "known", .ref kl), (.inr "walks", .ref wl), (.inr "gates", .ref gl), (.inr "notes", .ref nl)]
section
variable {jl wl gl nl kl kl' : Addr} {walk walk' : Bool} {left left' : Nat}
theorem w_jobs : valV (wkv jl wl gl nl kl walk left) (.inr "jobs") = some (.ref jl) := by rfl
theorem w_sort : valV (wkv jl wl gl nl kl walk left) (.inr "sort") = some (.str (dword walk)) := by rfl
theorem w_left : valV (wkv jl wl gl nl kl walk left) (.inr "left") = some (.int left) := by rfl
theorem w_deep : valV (wkv jl wl gl nl kl walk left) (.inr "deep") = some (.int 4) := by rfl
theorem w_known : valV (wkv jl wl gl nl kl walk left) (.inr "known") = some (.ref kl) := by rfl
theorem w_walks : valV (wkv jl wl gl nl kl walk left) (.inr "walks") = some (.ref wl) := by rfl
theorem w_gates : valV (wkv jl wl gl nl kl walk left) (.inr "gates") = some (.ref gl) := by rfl
theorem w_notes : valV (wkv jl wl gl nl kl walk left) (.inr "notes") = some (.ref nl) := by rfl
theorem p_left : putK (wkv jl wl gl nl kl walk left) (.inr "left") (.int left') = wkv jl wl gl nl kl walk left' := by rfl
theorem p_sort : putK (wkv jl wl gl nl kl walk left) (.inr "sort") (.str (dword walk')) = wkv jl wl gl nl kl walk' left := by rfl
theorem p_known : putK (wkv jl wl gl nl kl walk left) (.inr "known") (.ref kl') = wkv jl wl gl nl kl' walk left := by rfl
theorem w_first : mergeK [] [(.inr "jobs", .ref jl), (.inr "sort", .str "job"), (.inr "left", .int 0), (.inr "deep", .int 4), (.inr "known", .ref kl)] = ([(.inr "jobs", .ref jl), (.inr "sort", .str "job"), (.inr "left", .int 0), (.inr "deep", .int 4), (.inr "known", .ref kl)] : List (Key × V)) := by rfl
theorem p_1 : putK [(.inr "jobs", .ref jl), (.inr "sort", .str "job"), (.inr "left", .int 0), (.inr "deep", .int 4), (.inr "known", .ref kl)] (.inr "walks") (.ref wl) = ([(.inr "jobs", .ref jl), (.inr "sort", .str "job"), (.inr "left", .int 0), (.inr "deep", .int 4), (.inr "known", .ref kl), (.inr "walks", .ref wl)] : List (Key × V)) := by rfl
theorem p_2 : putK [(.inr "jobs", .ref jl), (.inr "sort", .str "job"), (.inr "left", .int 0), (.inr "deep", .int 4), (.inr "known", .ref kl), (.inr "walks", .ref wl)] (.inr "gates") (.ref gl) = ([(.inr "jobs", .ref jl), (.inr "sort", .str "job"), (.inr "left", .int 0), (.inr "deep", .int 4), (.inr "known", .ref kl), (.inr "walks", .ref wl), (.inr "gates", .ref gl)] : List (Key × V)) := by rfl
theorem p_3 : putK [(.inr "jobs", .ref jl), (.inr "sort", .str "job"), (.inr "left", .int 0), (.inr "deep", .int 4), (.inr "known", .ref kl), (.inr "walks", .ref wl), (.inr "gates", .ref gl)] (.inr "notes") (.ref nl) = wkv jl wl gl nl kl false 0 := by rfl
end
/-- the lists that a world holds -/
structure Lists where
  jobs : List Str
  walks : List Str
  gates : List Str
  notes : List Str
/-- where they stand -/
structure Ats where
  j : Addr
  w : Addr
  g : Addr
  n : Addr
abbrev lstS (xs : List Str) : HO := .lst (xs.map V.str)
structure WorldAt (H : Hp) (d : Addr) (L : Lists) (A : Ats) (kl : Addr) (walk : Bool) (left : Nat) (known : List Str) : Prop where
  d : H d = some (.dK (wkv A.j A.w A.g A.n kl walk left))
  j : H A.j = some (lstS L.jobs)
  w : H A.w = some (lstS L.walks)
  g : H A.g = some (lstS L.gates)
  n : H A.n = some (lstS L.notes)
  k : H kl = some (lstS known)
/-- what the lists are -/
structure LOk (L : Lists) : Prop where
  jobs : L.jobs.Nodup ∧ (∀ x ∈ L.jobs, Nd x) ∧ 1 ≤ L.jobs.length ∧ L.jobs.length ≤ 3 ∧ ("main" : Str) ∈ L.jobs
  walks : L.walks.Nodup ∧ (∀ x ∈ L.walks, Nd x) ∧ L.walks.length ≤ 2
  gates : L.gates.Nodup ∧ (∀ x ∈ L.gates, Nd x) ∧ 1 ≤ L.gates.length ∧ L.gates.length ≤ 4
  notes : L.notes.Nodup ∧ (∀ x ∈ L.notes, Nd x) ∧ 1 ≤ L.notes.length ∧ L.notes.length ≤ 4
section
variable {H H' : Hp} {d a kl : Addr} {L : Lists} {A : Ats} {walk : Bool} {left : Nat} {known : List Str} {as : List Addr}
/-- a box is no list of texts -/
theorem box_strs {xs : List Str} {l : Addr} (h : BoxAt H a) (e : H l = some (lstS xs)) : l ≠ a := by
  intro z
  obtain ⟨x, y, t, b⟩ := h
  rw [z, b] at e
  cases xs with
  | nil => cases e
  | cons y ys => cases e
theorem dict_strs {xs : List Str} {l : Addr} {kvs : List (Key × V)} (h : H d = some (.dK kvs)) (e : H l = some (lstS xs)) : l ≠ d := fun z => by
  rw [z, h] at e
  cases e
theorem box_dict {kvs : List (Key × V)} (h : BoxAt H a) (e : H d = some (.dK kvs)) : d ≠ a := fun z => by
  obtain ⟨x, y, t, b⟩ := h
  rw [z, b] at e
  cases e
/-- the lists stand, whatever becomes of the box and the dict -/
theorem WorldAt.lists (W : WorldAt H d L A kl walk left known) (B : BoxAt H a) (b : But [a, d] H H') : H' A.j = some (lstS L.jobs) ∧ H' A.w = some (lstS L.walks) ∧ H' A.g = some (lstS L.gates) ∧ H' A.n = some (lstS L.notes) ∧ H' kl = some (lstS known) :=
  have go : ∀ {l : Addr} {xs : List Str}, H l = some (lstS xs) → H' l = some (lstS xs) := fun e => b _ _ e (n2 (box_strs B e) (dict_strs W.d e))
  ⟨go W.j, go W.w, go W.g, go W.n, go W.k⟩
/-- only the box has changed -/
theorem WorldAt.box (W : WorldAt H d L A kl walk left known) (B : BoxAt H a) (b : But [a] H H') : WorldAt H' d L A kl walk left known :=
  have go : ∀ {l : Addr} {xs : List Str}, H l = some (lstS xs) → H' l = some (lstS xs) := fun e => b _ _ e (n1 (box_strs B e))
  ⟨b _ _ W.d (n1 (box_dict B W.d)), go W.j, go W.w, go W.g, go W.n, go W.k⟩
theorem WorldAt.new (W : WorldAt H d L A kl walk left known) {p : Addr} {o : HO} (n : H p = none) : WorldAt (upd H p o) d L A kl walk left known :=
  ⟨kn W.d n, kn W.j n, kn W.w n, kn W.g n, kn W.n n, kn W.k n⟩
theorem WorldAt.same (W : WorldAt H d L A kl walk left known) (s : Same H H') : WorldAt H' d L A kl walk left known :=
  ⟨s _ _ W.d, s _ _ W.j, s _ _ W.w, s _ _ W.g, s _ _ W.n, s _ _ W.k⟩
/-- the dict is written -/
theorem WorldAt.put (W : WorldAt H d L A kl walk left known) (walk' : Bool) (left' : Nat) : WorldAt (upd H d (.dK (wkv A.j A.w A.g A.n kl walk' left'))) d L A kl walk' left' known :=
  ⟨upd_same, ku W.j (dict_strs W.d W.j), ku W.w (dict_strs W.d W.w), ku W.g (dict_strs W.d W.g), ku W.n (dict_strs W.d W.n), ku W.k (dict_strs W.d W.k)⟩
theorem WorldAt.free {p : Addr} (W : WorldAt H d L A kl walk left known) (n : H p = none) : d ≠ p := ne_of_none W.d n
/-- another place, another list there -/
theorem WorldAt.oth (W : WorldAt H d L A kl walk left known) {p : Addr} {o : HO} (n1 : p ≠ d) (nj : p ≠ A.j) (nw : p ≠ A.w) (ng : p ≠ A.g) (nn : p ≠ A.n) (nk : p ≠ kl) : WorldAt (upd H p o) d L A kl walk left known :=
  ⟨ku W.d n1.symm, ku W.j nj.symm, ku W.w nw.symm, ku W.g ng.symm, ku W.n nn.symm, ku W.k nk.symm⟩
/-- a place that was free ahead of all -/
theorem WorldAt.put0 {H0 : Hp} {p : Addr} {o : HO} {walk0 : Bool} {left0 : Nat} (W0 : WorldAt H0 d L A kl walk0 left0 known) (W : WorldAt H d L A kl walk left known) (n : H0 p = none) : WorldAt (upd H p o) d L A kl walk left known :=
  ⟨ku W.d (ne_of_none W0.d n), ku W.j (ne_of_none W0.j n), ku W.w (ne_of_none W0.w n), ku W.g (ne_of_none W0.g n), ku W.n (ne_of_none W0.n n), ku W.k (ne_of_none W0.k n)⟩
end
end K8
set_option Elab.async false
set_option linter.all false
set_option maxRecDepth 100000
set_option maxHeartbeats 4000000
namespace K8
open PySem L2
section
variable {P : Program} {w : World} {K : PySem.W.Frag} {mg : Str → Option Value} {base : Heap} {f : Addr} {fd : FuncData}
abbrev sTake : Stmt := top 30
theorem scTake : FnScope ["_law_box_here", "_law_many", "_law_digit", "_law_raw"] ["_law_box_here", "_law_many"] (defScope sTake) := ⟨rfl, rfl, rfl, by decide +kernel, rfl, by decide +kernel, by decide +kernel⟩
def spTake : Sp := fun vs H Q _ => ∃ (a : Addr) (m : Int), vs = [.ref a, .int m] ∧ BoxAt H a ∧ 0 < m ∧ m < 1000000 ∧
  ∀ (r : Int) (H' : Hp), 0 ≤ r → r < m → But [a] H H' → BoxAt H' a → Q (.int r) H'
theorem ok_take (F : Fun K "_law_take" "_law_take" sTake f fd) (m_int : mg "int" = none) : FnOk P w K mg base CX0 1 f fd ["_law_box_here", "_law_many"] spTake := by
  refine F.ok scTake (fun vs H Q E h => ?_) (fun cdv A outer s H vs Q E hr h => ?_)
  · obtain ⟨a, m, rfl, _⟩ := h
    rfl
  obtain ⟨a, m, rfl, ⟨x, y, z, hb⟩, h0, h1, q⟩ := h
  have nd := scTake.nd
  refine ⟨_, (pss_cons (ps_if (pt_cmpR op_gt (pe_ix ix_list (pv 0) pe_int (fun _ _ => rfl)) pe_int (nomark _)) (pss_cons (ps_set (i := 2) nd rfl (.inl rfl) (pe_op op_mod (pe_callTy call_int1 (by rfl) m_int (by decide +kernel) (pa_cons (pe_ix ix_list (pv 0) pe_int (fun _ _ => rfl)) pa_nil)) (pv 1)))
    (pss_cons (ps_asg (pe_op op_fdiv (pe_ix ix_list (pv 0) pe_int (fun _ _ => rfl)) (pv 1)) (pg_sub (pv 0) pe_int set_list))
    (pss_one (ps_ret (pv 2))))) pss_nil)
    (pss_cons (ps_asg (pe_op op_add (pe_ix ix_list (pv 0) pe_int (fun _ _ => rfl)) pe_int) (pg_sub (pv 0) pe_int set_list))
    (pss_cons (ps_set (i := 3) nd rfl (.inl rfl) (pe_op op_mod (pe_callTy call_int1 (by rfl) m_int (by decide +kernel) (pa_cons (pe_op op_mul (pe_op op_add (pe_ix ix_list (pv 0) pe_int (fun _ _ => rfl)) (pe_op op_mul pe_int (pe_ix ix_list (pv 0) pe_int (fun _ _ => rfl)))) pe_int) pa_nil)) pe_int))
    (pss_cons (ps_asg (pe_op op_add (pe_op op_mod (pe_callTy call_int1 (by rfl) m_int (by decide +kernel) (pa_cons (pe_op op_add (pe_op op_mul (pv 3) pe_int) pe_int) pa_nil)) pe_int) pe_int) (pg_sub (pv 0) pe_int set_list))
    (pss_one (ps_ret (pe_op op_mod (pe_callTy call_int1 (by rfl) m_int (by decide +kernel) (pa_cons (pe_op op_fdiv (pe_op op_add (pe_op op_mul (pv 3) pe_int) (pe_ix ix_list (pv 0) pe_int (fun _ _ => rfl))) pe_int) pa_nil)) (pv 1)))))))), ?_⟩
  refine ⟨_, rfl, a, _, _, _, rfl, rfl, SqL.of hb, atI_nat (j := 0) rfl, _, _, rfl, rfl, _, rfl, ?_⟩
  refine ite2 (fun c => ?_) (fun c => ?_)
  · refine ⟨_, rfl, a, _, _, _, rfl, rfl, SqL.of hb, atI_nat (j := 0) rfl, .inl ⟨_, rfl, _, rfl, _, _, rfl, rfl, h0, ?_⟩⟩
    refine ⟨_, rfl, a, _, _, _, rfl, rfl, SqL.of hb, atI_nat (j := 0) rfl, _, rfl, _, _, rfl, rfl, ⟨h0, by omega⟩, ?_⟩
    refine ⟨_, rfl, a, _, 0, 0, rfl, rfl, hb, rfl, ?_⟩
    refine ⟨_, rfl, ?_⟩
    exact q _ _ (Int.emod_nonneg _ (by omega)) (Int.emod_lt_of_pos _ h0) (But.refl.put m1) ⟨_, _, _, upd_same⟩
  · refine ⟨_, rfl, a, _, _, _, rfl, rfl, SqL.of hb, atI_nat (j := 2) rfl, _, _, rfl, rfl, _, rfl, a, _, 2, 2, rfl, rfl, hb, rfl, ?_⟩
    refine ⟨_, rfl, a, _, _, _, rfl, rfl, SqL.of upd_same, atI_nat (j := 1) rfl, _, rfl, a, _, _, _, rfl, rfl, SqL.of upd_same, atI_nat (j := 2) rfl, ?_⟩
    refine ⟨_, _, rfl, rfl, .inl ⟨by decide, by decide⟩, _, _, rfl, rfl, _, _, rfl, rfl, .inr ⟨by decide, by decide⟩, .inl ⟨_, rfl, _, _, rfl, rfl, (by show (0 : Int) < 2147483647; decide), ?_⟩⟩
    refine ⟨_, rfl, _, _, rfl, rfl, .inr ⟨by decide, by decide⟩, _, _, rfl, rfl, .inl ⟨_, rfl, _, _, rfl, rfl, (by show (0 : Int) < 2147483629; decide), ?_⟩⟩
    refine ⟨_, _, rfl, rfl, _, rfl, a, _, 1, 1, rfl, rfl, upd_same, rfl, ?_⟩
    refine ⟨_, rfl, _, _, rfl, rfl, .inr ⟨by decide, by decide⟩, _, rfl, a, _, _, _, rfl, rfl, SqL.of upd_same, atI_nat (j := 1) rfl, _, _, rfl, rfl, _, _, rfl, rfl, ⟨by decide, by decide⟩, .inl ⟨_, rfl, _, rfl, _, _, rfl, rfl, h0, ?_⟩⟩
    exact q _ _ (Int.emod_nonneg _ (by omega)) (Int.emod_lt_of_pos _ h0) ((But.refl.put m1).put m1) ⟨_, _, _, upd_same⟩
end
end K8
set_option Elab.async false
set_option linter.all false
set_option maxRecDepth 100000
set_option maxHeartbeats 4000000
/-! The walks of what draws the programs. -/
namespace K8
open PySem L2
theorem seqIx {j n : Nat} (h : j < n) : seqIndex? (j : Int) n = some j := by
  have q := seqIndex_of (k := (j : Int)) (n := n) (Int.natCast_nonneg j) (Int.ofNat_lt.mpr h)
  rw [Int.toNat_natCast] at q
  exact q
section
variable {P : Program} {w : World} {K : PySem.W.Frag} {mg : Str → Option Value} {base : Heap} {f : Addr} {fd : FuncData}
abbrev sMixed : Stmt := top 31
theorem scMixed : FnScope ["_law_box_here", "_law_items", "_law_left", "_law_found"] ["_law_box_here", "_law_items"] (defScope sMixed) := ⟨rfl, rfl, rfl, by decide +kernel, rfl, by decide +kernel, by decide +kernel⟩
/-- a list, its items in another order -/
def spMixed (K : PySem.W.Frag) : Sp := fun vs H Q _ => ∃ (a l : Addr) (xs : List V), vs = [.ref a, .ref l] ∧ BoxAt H a ∧ SqL K H l xs ∧ xs.length ≤ 1000 ∧
  ∀ (r : Addr) (ys : List V) (H' : Hp), ys.Perm xs → But [a] H H' → BoxAt H' a → H r = none → H' r = some (.lst ys) → Q (.ref r) H'
theorem ok_mixed (F : Fun K "_law_mixed" "_law_mixed" sMixed f fd) (c_take : C8.Cal P w K mg base 1 "_law_take" spTake []) (m_len : mg "len" = none) (m_list : mg "list" = none) : FnOk P w K mg base CX0 3 f fd ["_law_box_here", "_law_items"] (spMixed K) := by
  refine F.ok scMixed (fun vs H Q E h => ?_) (fun cdv A outer s H vs Q E hr h => ?_)
  · obtain ⟨a, l, xs, rfl, _⟩ := h
    rfl
  obtain ⟨a, l, xs, rfl, hb, hl, few, q⟩ := h
  have nd := scMixed.nd
  have hu := hu_of hr
  refine ⟨_, (pss_cons (ps_par (i := 2) (j := 3) rfl nd rfl rfl (by decide) rfl rfl (pa_cons (pe_callTy call_list_of (by rfl) m_list (by decide +kernel) (pa_cons (pv 1) pa_nil)) (pa_cons (pe_lst pa_nil) pa_nil)) (by rfl))
    (pss_cons (ps_while PassesOwn.never (pt_cmpR (op_neE hr.units0) (pv 2) (pe_lst pa_nil) (nomark _)) (pss_one (ps_expr (pe_bm PySem.F.plainAttrs_list PySem.F.slot_list_append PySem.F.type_list_append mt_append (pv 3) (pa_cons (pe_bm PySem.F.plainAttrs_list PySem.F.slot_list_pop PySem.F.type_list_pop mt_popAt (pv 2) (pa_cons (C8.pe_c c_take hr (by decide) rfl (pa_cons (pv 0) (pa_cons (pe_callB call_len_seq (by rfl) m_len (by decide +kernel) (pa_cons (pv 2) pa_nil)) pa_nil))) pa_nil)) pa_nil)))))
    (pss_one (ps_ret (pv 3))))), ?_⟩
  refine ⟨_, rfl, l, xs, rfl, .inl hl, fun l2 n2 => ⟨by show 0 ≤ sizeLine; decide, fun l3 n3 => ⟨_, _, rfl, ?_⟩⟩⟩
  obtain ⟨n3', ne32⟩ := fr n3
  have na2 := hb.ne n2
  have na3 := hb.ne n3'
  refine ⟨fun m σ H' => σ = [some (.ref a), some (.ref l), some (.ref l2), some (.ref l3)] ∧ ∃ rest done, rest.length = m ∧ H' l2 = some (.lst rest) ∧ H' l3 = some (.lst done) ∧ (done ++ rest).Perm xs ∧ But [a] H H' ∧ BoxAt H' a,
    ⟨_, rfl, xs, [], rfl, ku upd_same (Ne.symm ne32), upd_same, .refl _, (But.refl.new n2).new n3, (hb.new n2).new n3⟩, ?_⟩
  rintro m σ H1 ⟨rfl, rest, done, rfl, h2, h3, pm, bt, hb1⟩
  refine ⟨_, rfl, ⟨by show 0 ≤ sizeLine; decide, fun l4 n4 => ⟨l2, l4, rest, rfl, rfl, SqL.of (kn h2 n4), SqL.of upd_same, true != rest.isEmpty, rfl, ?_⟩⟩⟩
  cases rest with
  | nil =>
    refine iteF ⟨_, rfl, q l3 done _ (by simpa using pm) (bt.new n4) (hb1.new n4) n3' (kn h3 n4)⟩
  | cons y0 ys =>
    have pl := pm.length_eq
    rw [List.length_append, List.length_cons] at pl
    refine iteT ⟨_, fun _ _ h => h, ?_⟩
    refine ⟨_, rfl, .inl ⟨rfl, _, SqL.of (kn h3 n4)⟩, _, rfl, .inl ⟨rfl, _, SqL.of (kn h2 n4)⟩, _, rfl, _, rfl, l2, _, rfl, .inl (SqL.of (kn h2 n4)), a, _, rfl, hb1.new n4, by simp, by simp; omega, fun r H2 r0 r1 b2 hb2 => ?_⟩
    have e2 := b2 _ _ (kn h2 n4) (n1 (Ne.symm na2))
    have e3 := b2 _ _ (kn h3 n4) (n1 (Ne.symm na3))
    obtain ⟨j, rfl⟩ : ∃ j : Nat, r = j := ⟨r.toNat, by omega⟩
    have hj : j < (y0 :: ys).length := Int.ofNat_lt.mp r1
    refine ⟨l2, _, _, j, _, rfl, rfl, e2, by omega, by simp at hj; omega, seqIx hj, List.getElem?_eq_getElem hj, ?_⟩
    have ne : l3 ≠ l2 := ne32
    refine ⟨l3, done, _, rfl, rfl, ku e3 ne, small1000 (by omega), ?_⟩
    refine ⟨((y0 :: ys).eraseIdx j).length, by rw [List.length_eraseIdx_of_lt hj]; simp, rfl, _, _, rfl, ku upd_same (Ne.symm ne), upd_same, ?_, ((((bt.new n4).trans b2).put0 n2).put0 n3'), (hb2.oth na2).oth na3⟩
    refine List.Perm.trans ?_ pm
    rw [List.append_assoc]
    exact List.Perm.append_left done (erase_perm _ _ _ (List.getElem?_eq_getElem hj))
abbrev sPick : Stmt := top 32
theorem scPick : FnScope ["_law_box_here", "_law_items"] ["_law_box_here", "_law_items"] (defScope sPick) := ⟨rfl, rfl, rfl, by decide +kernel, rfl, by decide +kernel, by decide +kernel⟩
/-- one of the items -/
def spPick (K : PySem.W.Frag) : Sp := fun vs H Q _ => ∃ (a l : Addr) (xs : List V), vs = [.ref a, .ref l] ∧ BoxAt H a ∧ SqL K H l xs ∧ l ≠ a ∧ 0 < xs.length ∧ xs.length ≤ 1000 ∧
  ∀ (y : V) (H' : Hp), y ∈ xs → But [a] H H' → BoxAt H' a → Q y H'
theorem ok_pick (F : Fun K "_law_pick" "_law_pick" sPick f fd) (c_take : C8.Cal P w K mg base 1 "_law_take" spTake []) (m_len : mg "len" = none) : FnOk P w K mg base CX0 2 f fd ["_law_box_here", "_law_items"] (spPick K) := by
  refine F.ok scPick (fun vs H Q E h => ?_) (fun cdv A outer s H vs Q E hr h => ?_)
  · obtain ⟨a, l, xs, rfl, _⟩ := h
    rfl
  obtain ⟨a, l, xs, rfl, hb, hl, na, n0, few, q⟩ := h
  refine ⟨_, (pss_one (ps_ret (pe_ix ix_list (pv 1) (C8.pe_c c_take hr (by decide) rfl (pa_cons (pv 0) (pa_cons (pe_callB call_len_seq (by rfl) m_len (by decide +kernel) (pa_cons (pv 1) pa_nil)) pa_nil))) (fun _ _ => rfl)))), ?_⟩
  refine ⟨_, rfl, _, rfl, _, rfl, l, _, rfl, .inl hl, a, _, rfl, hb, by omega, by omega, fun r H2 r0 r1 b2 hb2 => ?_⟩
  obtain ⟨j, rfl⟩ : ∃ j : Nat, r = j := ⟨r.toNat, by omega⟩
  have hj : j < xs.length := Int.ofNat_lt.mp r1
  exact ⟨l, _, _, _, rfl, rfl, b2.seq (by simpa using na) hl, atI_nat (List.getElem?_eq_getElem hj), q _ _ (List.getElem_mem hj) b2 hb2⟩
end
end K8
set_option Elab.async false
set_option linter.all false
set_option maxRecDepth 100000
set_option maxHeartbeats 4000000
/-! The walk of _law_names. -/
namespace K8
open PySem L2
theorem mul_ok {x : Str} {n : Int} (hx : x.length ≤ 100) (h0 : 0 ≤ n) (h1 : n ≤ 1000) : MulOk x n := by
  refine ⟨?_, fun c _ => ?_, fun _ _ => ?_⟩
  · rw [Bool.or_eq_false_iff]
    exact ⟨decide_eq_false (by omega), decide_eq_false (by omega)⟩
  · have q : (100 : Int) ≤ (2 ^ 63 - 1) / n := Int.le_ediv_of_mul_le (by omega) (by omega)
    omega
  · refine decide_eq_false (Nat.not_lt.mpr (Nat.le_trans (Nat.mul_le_mul hx (show n.toNat ≤ 1000 by omega)) (by decide)))
theorem atI_sign {j : Nat} (h : j < 26) : atI ("abcdefghijklmnopqrstuvwxyz" : Str).cps.toList ((j : Nat) : Int) = some (97 + j) := by
  have q := letter_at h
  rw [← Array.getElem?_toList] at q
  exact atI_nat q
section
variable {P : Program} {w : World} {K : PySem.W.Frag} {mg : Str → Option Value} {base : Heap} {f : Addr} {fd : FuncData}
abbrev sNames : Stmt := top 33
theorem scNames : FnScope ["_law_box_here", "_law_many", "_law_letters", "_law_first", "_law_form", "_law_found", "_law_k", "_law_letter"] ["_law_box_here", "_law_many"] (defScope sNames) := ⟨rfl, rfl, rfl, by decide +kernel, rfl, by decide +kernel, by decide +kernel⟩
def spNames : Sp := fun vs H Q _ => ∃ (a : Addr) (m : Nat), vs = [.ref a, .int m] ∧ BoxAt H a ∧ m ≤ 8 ∧
  ∀ (r : Addr) (ns : List Str) (H' : Hp), ns.length = m → ns.Nodup → (∀ x ∈ ns, Nd x) → But [a] H H' → BoxAt H' a → H r = none → H' r = some (.lst (ns.map V.str)) → Q (.ref r) H'
theorem ok_names (F : Fun K "_law_names" "_law_names" sNames f fd) (c_take : C8.Cal P w K mg base 1 "_law_take" spTake []) (c_mixed : C8.Cal P w K mg base 3 "_law_mixed" (spMixed K) []) (m_int : mg "int" = none) (m_range : mg "range" = none) : FnOk P w K mg base CX0 4 f fd ["_law_box_here", "_law_many"] spNames := by
  refine F.ok scNames (fun vs H Q E h => ?_) (fun cdv A outer s H vs Q E hr h => ?_)
  · obtain ⟨a, l, rfl, _⟩ := h
    rfl
  obtain ⟨a, m, rfl, hb, hm, q⟩ := h
  have nd := scNames.nd
  refine ⟨_, (pss_cons (ps_asg (pe_tup (pa_cons pe_str (pa_cons (C8.pe_c c_take hr (by decide) rfl (pa_cons (pv 0) (pa_cons pe_int pa_nil))) (pa_cons (C8.pe_c c_take hr (by decide) rfl (pa_cons (pv 0) (pa_cons pe_int pa_nil))) pa_nil)))) (pg_tup rfl (pgs_cons (pg_name (i := 2) nd rfl (.inr rfl)) (pgs_cons (pg_name (i := 3) nd rfl (.inr rfl)) (pgs_cons (pg_name (i := 4) nd rfl (.inl rfl)) pgs_nil)))))
    (pss_cons (ps_setLc (i := 5) (own := [("_law_k", 6)]) (g := gName 6) (tt := tYes) rfl nd rfl rfl (sw_true rfl rfl rfl (by decide +kernel)) (pi_range1 (by rfl) m_range (pa_cons pe_int pa_nil)) (blkOk_by (own := [("_law_k", 6)]) (N := ["_law_box_here", "_law_many", "_law_letters", "_law_first", "_law_form", "_law_found", "_law_k", "_law_letter"]) (sc := defScope (top 33)) (by decide +kernel)) (fun _ _ _ _ _ => (pg_name (i := 6) nd rfl (.inl rfl))) (fun _ _ _ _ _ => pts_nil) (fun _ _ _ _ _ => (pe_ix ix_str (pv 2) (pe_op op_mod (pe_callTy call_int1 (by rfl) m_int (by decide +kernel) (pa_cons (pe_op op_add (pv 3) (pe_op op_mul pe_int (pv 6))) pa_nil)) pe_int) (fun _ _ => rfl))))
    (pss_cons (ps_if (pt_cmpR op_eq (pv 4) pe_int (nomark _)) (pss_one (ps_setLc (i := 5) (own := [("_law_k", 6)]) (g := gName 6) (tt := tYes) rfl nd rfl rfl (sw_true rfl rfl rfl (by decide +kernel)) (pi_range1 (by rfl) m_range (pa_cons pe_int pa_nil)) (blkOk_by (own := [("_law_k", 6)]) (N := ["_law_box_here", "_law_many", "_law_letters", "_law_first", "_law_form", "_law_found", "_law_k", "_law_letter"]) (sc := defScope (top 33)) (by decide +kernel)) (fun _ _ _ _ _ => (pg_name (i := 6) nd rfl (.inl rfl))) (fun _ _ _ _ _ => pts_nil) (fun _ _ _ _ _ => (pe_op op_mulS (pe_ix ix_str (pv 2) (pv 3) (fun _ _ => rfl)) (pe_op op_add (pv 6) pe_int))))) pss_nil)
    (pss_cons (ps_if (pt_cmpR op_eq (pv 4) pe_int (nomark _)) (pss_one (ps_setLc (i := 5) (own := [("_law_letter", 7)]) (g := gName 7) (tt := tYes) rfl nd rfl rfl (sw_true rfl rfl rfl (by decide +kernel)) (pi_list (pv 5)) (blkOk_by (own := [("_law_letter", 7)]) (N := ["_law_box_here", "_law_many", "_law_letters", "_law_first", "_law_form", "_law_found", "_law_k", "_law_letter"]) (sc := defScope (top 33)) (by decide +kernel)) (fun _ _ _ _ _ => (pg_name (i := 7) nd rfl (.inl rfl))) (fun _ _ _ _ _ => pts_nil) (fun _ _ _ _ _ => (pe_op op_add_str pe_str (pv 7))))) pss_nil)
    (pss_cons (ps_if (pt_cmpR op_eq (pv 4) pe_int (nomark _)) (pss_one (ps_set (i := 5) nd rfl (.inl rfl) (pe_split pe_str pe_str))) pss_nil)
    (pss_one (ps_ret (pe_slice sl_list (C8.pe_c c_mixed hr (by decide) rfl (pa_cons (pv 0) (pa_cons (pv 5) pa_nil))) po_none (po_some (pv 1)))))))))), ?_⟩
  refine ⟨_, rfl, a, 26, rfl, hb, by decide, by decide, fun fi H1 f0 f1 b1 hb1 => ?_⟩
  refine ⟨_, rfl, a, 5, rfl, hb1, by decide, by decide, fun fo H2 g0 g1 b2 hb2 => ?_⟩
  obtain ⟨fi, rfl⟩ : ∃ j : Nat, fi = j := ⟨fi.toNat, by omega⟩
  obtain ⟨g8a, g8b, g8c⟩ := good_at (f := fi) (by omega)
  refine ⟨by show 3 ≤ sizeLine; decide, fun tp ntp => ⟨tp, _, rfl, SqT.of upd_same, rfl, _, _, rfl, _, _, rfl, _, _, rfl, rfl, ?_⟩⟩
  dsimp only
  refine seq_asg ?_
  refine lc_rangeF 8 (fun k => V.str (sig (97 + (fi + 7 * k) % 26))) (by decide) (fun R hR => ⟨8, rfl, by decide, by decide, hR⟩) (fun D nD => ?_) (fun k hk H' Q' q' => ?_)
  rotate_left 1
  · refine ⟨_, rfl, _, rfl, _, rfl, _, _, rfl, rfl, .inl ⟨by decide, by decide⟩, _, _, rfl, rfl, .inl ⟨_, rfl, _, _, rfl, rfl, (by show (0 : Int) < 26; decide), ?_⟩⟩
    refine ⟨_, _, _, rfl, rfl, by decide, ?_, q'⟩
    have e : (((fi : Int) + 7 * (0 + (k : Int))) % 26) = (((fi + 7 * k) % 26 : Nat) : Int) := by omega
    rw [e]
    exact atI_sign (Nat.mod_lt _ (by decide))
  have bt : But [a] H (upd (upd H2 tp (.tup [.str "abcdefghijklmnopqrstuvwxyz", .int fi, .int fo])) D (.lst ((List.range 8).map fun k => V.str (sig (97 + (fi + 7 * k) % 26))))) := ((b1.trans b2).new ntp).new nD
  have hb3 : BoxAt (upd (upd H2 tp (.tup [.str "abcdefghijklmnopqrstuvwxyz", .int fi, .int fo])) D (.lst ((List.range 8).map fun k => V.str (sig (97 + (fi + 7 * k) % 26))))) a := (hb2.new ntp).new nD
  have hD : (upd (upd H2 tp (.tup [.str "abcdefghijklmnopqrstuvwxyz", .int fi, .int fo])) D (.lst ((List.range 8).map fun k => V.str (sig (97 + (fi + 7 * k) % 26))))) D = some (.lst ((base0 fi).map V.str)) := by
    rw [upd_same]
    unfold base0
    rw [List.map_map]
    rfl
  revert bt hb3 hD
  generalize (upd (upd H2 tp (.tup [.str "abcdefghijklmnopqrstuvwxyz", .int fi, .int fo])) D (.lst ((List.range 8).map fun k => V.str (sig (97 + (fi + 7 * k) % 26))))) = H3
  intro bt hb3 hD
  have cases5 : fo = 0 ∨ fo = 1 ∨ fo = 2 ∨ fo = 3 ∨ fo = 4 := by omega
  rcases cases5 with rfl | rfl | rfl | rfl | rfl
  · refine ⟨_, rfl, rfl, _, rfl, iteF ⟨_, rfl, rfl, _, rfl, iteF ⟨_, rfl, rfl, _, rfl, iteF ?_⟩⟩⟩
    refine ⟨_, rfl, _, rfl, a, D, _, rfl, hb3, SqL.of hD, by rw [List.length_map, g8a.len]; decide, fun r ys H4 pm b4 hb4 nr hr4 => ?_⟩
    obtain ⟨zs, rfl, pz⟩ := perm_strs pm
    refine ⟨_, rfl, m, rfl, r, _, rfl, SqL.of hr4, fun p np => ?_⟩
    rw [cut_to, ← List.map_take]
    exact q p (zs.take m) _ (by rw [List.length_take, pz.length_eq, g8a.len]; omega) (List.Sublist.nodup (List.take_sublist m zs) (pz.nodup_iff.mpr g8a.nd)) (fun x hx => g8a.ok x (pz.mem_iff.mp (List.mem_of_mem_take hx))) ((bt.trans b4).new np) (hb4.new np) ((bt.trans b4).free np (by simpa using Ne.symm (hb4.ne np))) upd_same
  · refine ⟨_, rfl, rfl, _, rfl, iteT ?_⟩
    dsimp only
    refine asg1 ?_
    refine lc_rangeF 8 (fun k => V.str (Txt.mul (sig (97 + fi)) (Int.ofNat k + 1))) (by decide) (fun R hR => ⟨8, rfl, by decide, by decide, hR⟩) (fun D2 nD2 => ?_) (fun k hk H' Q' q' => ?_)
    · refine ⟨_, rfl, rfl, _, rfl, iteF ⟨_, rfl, rfl, _, rfl, iteF ?_⟩⟩
      have hD2 : (upd H3 D2 (.lst ((List.range 8).map fun k => V.str (Txt.mul (sig (97 + fi)) (Int.ofNat k + 1))))) D2 = some (.lst ((base1 fi).map V.str)) := by
        rw [upd_same]
        unfold base1
        rw [List.map_map]
        rfl
      refine ⟨_, rfl, _, rfl, a, D2, _, rfl, (hb3.new nD2), SqL.of hD2, by rw [List.length_map, g8b.len]; decide, fun r ys H4 pm b4 hb4 nr hr4 => ?_⟩
      obtain ⟨zs, rfl, pz⟩ := perm_strs pm
      refine ⟨_, rfl, m, rfl, r, _, rfl, SqL.of hr4, fun p np => ?_⟩
      rw [cut_to, ← List.map_take]
      exact q p (zs.take m) _ (by rw [List.length_take, pz.length_eq, g8b.len]; omega) (List.Sublist.nodup (List.take_sublist m zs) (pz.nodup_iff.mpr g8b.nd)) (fun x hx => g8b.ok x (pz.mem_iff.mp (List.mem_of_mem_take hx))) (((bt.new nD2).trans b4).new np) (hb4.new np) (((bt.new nD2).trans b4).free np (by simpa using Ne.symm (hb4.ne np))) upd_same
    · have e : (Int.ofNat k + 1) = 0 + (k : Int) + 1 := by show (k : Int) + 1 = _; omega
      rw [e] at q'
      refine ⟨_, rfl, _, rfl, _, _, _, rfl, rfl, by decide, atI_sign (by omega), _, rfl, _, _, rfl, rfl, _, _, rfl, rfl, mul_ok (by show 1 ≤ 100; decide) (by omega) (by omega), q'⟩
  · refine ⟨_, rfl, rfl, _, rfl, iteF ⟨_, rfl, rfl, _, rfl, iteT ?_⟩⟩
    dsimp only
    refine asg1 ?_
    refine lc_listG D ((base0 fi).map V.str) (fun _ => true) (fun x => V.str ("kqzjxvw" ++ vstr x)) (fun R hR => ⟨_, rfl, _, rfl, ⟨_, SqL.of hD⟩, hR⟩) (SqL.of hD) (by rw [List.length_map, g8a.len]; decide) (fun D2 H' nD2 sm hD2 => ?_) (fun x H' Q' _ _ z => z _ (Same.refl _)) (fun x H' Q' hx _ _ z => ?_)
    · refine ⟨_, rfl, rfl, _, rfl, iteF ?_⟩
      have hD2' : H' D2 = some (.lst ((base2 fi).map V.str)) := by
        rw [hD2, List.filter_eq_self.mpr (fun _ _ => rfl), List.map_map]
        unfold base2
        rw [List.map_map]
        rfl
      refine ⟨_, rfl, _, rfl, a, D2, _, rfl, (hb3.but (But.same (as := []) sm) n0), SqL.of hD2', by rw [List.length_map, g8c.len]; decide, fun r ys H4 pm b4 hb4 nr hr4 => ?_⟩
      obtain ⟨zs, rfl, pz⟩ := perm_strs pm
      refine ⟨_, rfl, m, rfl, r, _, rfl, SqL.of hr4, fun p np => ?_⟩
      rw [cut_to, ← List.map_take]
      exact q p (zs.take m) _ (by rw [List.length_take, pz.length_eq, g8c.len]; omega) (List.Sublist.nodup (List.take_sublist m zs) (pz.nodup_iff.mpr g8c.nd)) (fun x hx => g8c.ok x (pz.mem_iff.mp (List.mem_of_mem_take hx))) (((bt.trans (But.same sm)).trans b4).new np) (hb4.new np) (((bt.trans (But.same sm)).trans b4).free np (by simpa using Ne.symm (hb4.ne np))) upd_same
    · obtain ⟨y, hy, rfl⟩ := List.mem_map.mp hx
      exact ⟨_, rfl, _, _, rfl, rfl, by have := (g8a.ok y hy).nm.le; have e : ("kqzjxvw" : Str).length = 7 := (by decide); rw [e, sizeLine_eq]; omega, z _ (Same.refl _)⟩
  · refine ⟨_, rfl, rfl, _, rfl, iteF ⟨_, rfl, rfl, _, rfl, iteF ⟨_, rfl, rfl, _, rfl, iteT ?_⟩⟩⟩
    refine ⟨⟨_, rfl⟩, _, _, rfl, rfl, by decide, by decide, fun D2 nD2 => ?_⟩
    have hD2 : (upd H3 D2 (.lst ((Txt.split "main ended says gates keep jobs walks notes" " ").map V.str))) D2 = some (.lst (base3.map V.str)) := upd_same
    have g3 := names8 good_3
    refine ⟨_, rfl, _, rfl, a, D2, _, rfl, (hb3.new nD2), SqL.of hD2, by rw [List.length_map, g3.len]; decide, fun r ys H4 pm b4 hb4 nr hr4 => ?_⟩
    obtain ⟨zs, rfl, pz⟩ := perm_strs pm
    refine ⟨_, rfl, m, rfl, r, _, rfl, SqL.of hr4, fun p np => ?_⟩
    rw [cut_to, ← List.map_take]
    exact q p (zs.take m) _ (by rw [List.length_take, pz.length_eq, g3.len]; omega) (List.Sublist.nodup (List.take_sublist m zs) (pz.nodup_iff.mpr g3.nd)) (fun x hx => g3.ok x (pz.mem_iff.mp (List.mem_of_mem_take hx))) (((bt.new nD2).trans b4).new np) (hb4.new np) (((bt.new nD2).trans b4).free np (by simpa using Ne.symm (hb4.ne np))) upd_same
  · refine ⟨_, rfl, rfl, _, rfl, iteF ⟨_, rfl, rfl, _, rfl, iteF ⟨_, rfl, rfl, _, rfl, iteF ?_⟩⟩⟩
    refine ⟨_, rfl, _, rfl, a, D, _, rfl, hb3, SqL.of hD, by rw [List.length_map, g8a.len]; decide, fun r ys H4 pm b4 hb4 nr hr4 => ?_⟩
    obtain ⟨zs, rfl, pz⟩ := perm_strs pm
    refine ⟨_, rfl, m, rfl, r, _, rfl, SqL.of hr4, fun p np => ?_⟩
    rw [cut_to, ← List.map_take]
    exact q p (zs.take m) _ (by rw [List.length_take, pz.length_eq, g8a.len]; omega) (List.Sublist.nodup (List.take_sublist m zs) (pz.nodup_iff.mpr g8a.nd)) (fun x hx => g8a.ok x (pz.mem_iff.mp (List.mem_of_mem_take hx))) ((bt.trans b4).new np) (hb4.new np) ((bt.trans b4).free np (by simpa using Ne.symm (hb4.ne np))) upd_same
end
end K8
set_option Elab.async false
set_option linter.all false
set_option maxRecDepth 100000
set_option maxHeartbeats 4000000
/-! The walk of _law_world. -/
namespace K8
open PySem L2
theorem nd_main : Nd "main" := ⟨by decide +kernel, by decide +kernel⟩
theorem filter_str {p : V → Bool} (q : Str → Bool) (h : ∀ x, p (.str x) = q x) (xs : List Str) : (xs.map V.str).filter p = (xs.filter q).map V.str := by
  induction xs with
  | nil => rfl
  | cons x xs ih =>
    rw [List.map_cons, List.filter_cons, List.filter_cons, h, ih]
    cases q x <;> rfl
section
variable {P : Program} {w : World} {K : PySem.W.Frag} {mg : Str → Option Value} {base : Heap} {f : Addr} {fd : FuncData}
abbrev sWorld : Stmt := top 34
theorem scWorld : FnScope ["_law_box_here", "_law_jobs", "_law_walks", "_law_others", "_law_name", "_law_world_here"] ["_law_box_here", "_law_jobs", "_law_walks"] (defScope sWorld) := ⟨rfl, rfl, rfl, by decide +kernel, rfl, by decide +kernel, by decide +kernel⟩
def spWorld : Sp := fun vs H Q _ => ∃ a : Addr, vs = [.ref a, .int 3, .int 2] ∧ BoxAt H a ∧
  ∀ (d : Addr) (L : Lists) (A : Ats) (kl : Addr) (H' : Hp), LOk L → WorldAt H' d L A kl false 0 [] → But [a] H H' → BoxAt H' a → H d = none → Q (.ref d) H'
theorem ok_world (F : Fun K "_law_world" "_law_world" sWorld f fd) (c_take : C8.Cal P w K mg base 1 "_law_take" spTake []) (c_names : C8.Cal P w K mg base 4 "_law_names" spNames []) : FnOk P w K mg base CX0 5 f fd ["_law_box_here", "_law_jobs", "_law_walks"] spWorld := by
  refine F.ok scWorld (fun vs H Q E h => ?_) (fun cdv A outer s H vs Q E hr h => ?_)
  · obtain ⟨a, rfl, _⟩ := h
    rfl
  obtain ⟨a, rfl, hb, q⟩ := h
  have nd := scWorld.nd
  have hu := hu_of hr
  refine ⟨_, (pss_cons (ps_setLc (i := 3) (own := [("_law_name", 4)]) (g := gName 4) rfl nd rfl rfl (sw_true rfl rfl rfl (by decide +kernel)) (pi_list (C8.pe_c c_names hr (by decide) rfl (pa_cons (pv 0) (pa_cons pe_int pa_nil)))) (blkOk_by (own := [("_law_name", 4)]) (N := ["_law_box_here", "_law_jobs", "_law_walks", "_law_others", "_law_name", "_law_world_here"]) (sc := defScope (top 34)) (by decide +kernel)) (fun _ _ _ _ _ => (pg_name (i := 4) nd rfl (.inl rfl))) (fun _ _ _ _ _ => (pts_one (pt_cmpR op_ne (pv 4) pe_str (nomark _)))) (fun _ _ _ _ _ => (pv 4)))
    (pss_cons (ps_set (i := 5) nd rfl (.inl rfl) (pe_disp (pps_cons pe_str (pe_op op_cat (pe_lst (pa_cons pe_str pa_nil)) (pe_slice sl_list (pv 3) po_none (po_some (C8.pe_c c_take hr (by decide) rfl (pa_cons (pv 0) (pa_cons (pv 1) pa_nil)))))) (pps_cons pe_str pe_str (pps_cons pe_str pe_int (pps_cons pe_str pe_int (pps_cons pe_str (pe_lst pa_nil) pps_nil))))) (by rfl) (by rfl) (fun z => by cases z) (by decide)))
    (pss_cons (ps_dput hu (pv 5) pe_str (pe_slice sl_list (C8.pe_c c_names hr (by decide) rfl (pa_cons (pv 0) (pa_cons pe_int pa_nil))) po_none (po_some (C8.pe_c c_take hr (by decide) rfl (pa_cons (pv 0) (pa_cons (pe_op op_add (pv 2) pe_int) pa_nil))))) rfl)
    (pss_cons (ps_dput hu (pv 5) pe_str (C8.pe_c c_names hr (by decide) rfl (pa_cons (pv 0) (pa_cons (pe_op op_add pe_int (C8.pe_c c_take hr (by decide) rfl (pa_cons (pv 0) (pa_cons pe_int pa_nil)))) pa_nil))) rfl)
    (pss_cons (ps_dput hu (pv 5) pe_str (C8.pe_c c_names hr (by decide) rfl (pa_cons (pv 0) (pa_cons (pe_op op_add pe_int (C8.pe_c c_take hr (by decide) rfl (pa_cons (pv 0) (pa_cons pe_int pa_nil)))) pa_nil))) rfl)
    (pss_one (ps_ret (pv 5)))))))), ?_⟩
  dsimp only
  refine seq_asg ?_
  refine lc_listC (fun r l H1 => ∃ ns : List Str, l = ns.map V.str ∧ ns.length = 7 ∧ ns.Nodup ∧ (∀ x ∈ ns, Nd x) ∧ But [a] H H1 ∧ BoxAt H1 a ∧ H1 r = some (lstS ns)) (fun x => !decide (x = V.str "main")) id
    (fun R hR => ⟨_, rfl, a, 7, rfl, hb, by decide, fun r ns H1 n1 n2 n3 b1 hb1 nr hr1 => ⟨r, rfl, ⟨_, SqL.of hr1⟩, hR r _ H1 ⟨ns, rfl, n1, n2, n3, b1, hb1, hr1⟩⟩⟩)
    (fun r l H1 h => ?_) (fun r l H1 D H2 h nD sm hD => ?_) (fun r l H1 x H2 Q' h hx sm z => ?_) (fun r l H1 x H2 Q' h hx _ sm z => ⟨_, rfl, z _ (Same.refl _)⟩)
  · obtain ⟨ns, rfl, n1, n2, n3, b1, hb1, hr1⟩ := h
    exact ⟨SqL.of hr1, by rw [List.length_map, n1]; decide⟩
  rotate_left 1
  · obtain ⟨ns, rfl, n1, n2, n3, b1, hb1, hr1⟩ := h
    obtain ⟨y, hy, rfl⟩ := List.mem_map.mp hx
    exact ⟨_, rfl, rfl, _, rfl, z _ (Same.refl _)⟩
  obtain ⟨ns, rfl, n1, n2, n3, b1, hb1, hr1⟩ := h
  rw [List.map_id, filter_str (fun x => !decide (x = "main")) (fun x => by simp)] at hD
  have f1 : (ns.filter fun x => !decide (x = ("main" : Str))).length ≤ 7 := n1 ▸ List.length_filter_le _ _
  have f2 := n2.sublist (List.filter_sublist (p := fun x => !decide (x = ("main" : Str))) (l := ns))
  have f3 : ∀ x ∈ ns.filter (fun x => !decide (x = ("main" : Str))), Nd x ∧ x ≠ "main" := fun x hx => ⟨n3 x (List.mem_filter.mp hx).1, by simpa using (List.mem_filter.mp hx).2⟩
  revert hD f1 f2 f3
  generalize ns.filter (fun x => !decide (x = ("main" : Str))) = os
  intro hD f1 f2 f3
  have b2 : But [a] H H2 := b1.trans (But.same sm)
  have hb2 : BoxAt H2 a := hb1.but (But.same (as := []) sm) n0
  refine fun d n1' => ?_
  have nda := hb2.ne n1'
  refine ⟨by show 1 ≤ sizeLine; decide, fun l1 e1 => ⟨_, rfl, _, rfl, _, rfl, a, 3, rfl, (hb2.new n1').new e1, by decide, by decide, fun r3 H3 r0 r1 b3 hb3 => ?_⟩⟩
  obtain ⟨k3, rfl⟩ : ∃ j : Nat, r3 = j := ⟨r3.toNat, by omega⟩
  have na1 := (hb2.new n1').ne e1
  have d3 := b3 _ _ (kn upd_same e1) (K8.n1 (Ne.symm nda))
  have l3 := b3 _ _ upd_same (K8.n1 (Ne.symm na1))
  have D3 := b3 _ _ (kn (kn hD n1') e1) (K8.n1 (box_strs hb2 hD))
  have bt3 := ((b2.new n1').new e1).trans b3
  refine ⟨_, rfl, _, _, rfl, SqL.of D3, fun l2 e2 => ?_⟩
  rw [cut_to, ← List.map_take] at *
  have f4 : (os.take k3).length ≤ 2 := by rw [List.length_take]; omega
  refine ⟨_, _, _, _, rfl, rfl, kn l3 e2, upd_same, by show 1 + _ ≤ _; rw [List.length_map, sizeLine_eq]; omega, fun l5 e5 => ?_⟩
  refine ⟨by show 0 ≤ sizeLine; decide, fun l4 e4 => ⟨kn (kn (kn d3 e2) e5) e4, [(.inr "jobs", .ref l5), (.inr "sort", .str "job"), (.inr "left", .int 0), (.inr "deep", .int 4), (.inr "known", .ref l4)], rfl, by show 5 ≤ 15; decide, ?_⟩⟩
  rw [w_first]
  have nd0 : H d = none := b2.free n1' (K8.n1 (Ne.symm nda))
  have e5' := fr e5
  have e4' := fr e4
  have e4'' := fr e4'.1
  have bt4 : But [a] H (upd (upd (upd (upd H3 l2 (.lst ((os.take k3).map V.str))) l5 (.lst ([V.str "main"] ++ (os.take k3).map V.str))) l4 (.lst [])) d (.dK [(.inr "jobs", .ref l5), (.inr "sort", .str "job"), (.inr "left", .int 0), (.inr "deep", .int 4), (.inr "known", .ref l4)])) := (((bt3.new e2).new e5).new e4).put0 nd0
  have hb4 : BoxAt (upd (upd (upd (upd H3 l2 (.lst ((os.take k3).map V.str))) l5 (.lst ([V.str "main"] ++ (os.take k3).map V.str))) l4 (.lst [])) d (.dK [(.inr "jobs", .ref l5), (.inr "sort", .str "job"), (.inr "left", .int 0), (.inr "deep", .int 4), (.inr "known", .ref l4)])) a := (((hb3.new e2).new e5).new e4).oth nda
  have hd4 : (upd (upd (upd (upd H3 l2 (.lst ((os.take k3).map V.str))) l5 (.lst ([V.str "main"] ++ (os.take k3).map V.str))) l4 (.lst [])) d (.dK [(.inr "jobs", .ref l5), (.inr "sort", .str "job"), (.inr "left", .int 0), (.inr "deep", .int 4), (.inr "known", .ref l4)])) d = some (.dK [(.inr "jobs", .ref l5), (.inr "sort", .str "job"), (.inr "left", .int 0), (.inr "deep", .int 4), (.inr "known", .ref l4)]) := upd_same
  have hj4 : (upd (upd (upd (upd H3 l2 (.lst ((os.take k3).map V.str))) l5 (.lst ([V.str "main"] ++ (os.take k3).map V.str))) l4 (.lst [])) d (.dK [(.inr "jobs", .ref l5), (.inr "sort", .str "job"), (.inr "left", .int 0), (.inr "deep", .int 4), (.inr "known", .ref l4)])) l5 = some (lstS ("main" :: os.take k3)) := ku (kn upd_same e4) (Ne.symm (ne_of_none (kn d3 e2) e5))
  have hk4 : (upd (upd (upd (upd H3 l2 (.lst ((os.take k3).map V.str))) l5 (.lst ([V.str "main"] ++ (os.take k3).map V.str))) l4 (.lst [])) d (.dK [(.inr "jobs", .ref l5), (.inr "sort", .str "job"), (.inr "left", .int 0), (.inr "deep", .int 4), (.inr "known", .ref l4)])) l4 = some (lstS []) := ku upd_same (Ne.symm (ne_of_none (kn (kn d3 e2) e5) e4))
  revert bt4 hb4 hd4 hj4 hk4
  generalize (upd (upd (upd (upd H3 l2 (.lst ((os.take k3).map V.str))) l5 (.lst ([V.str "main"] ++ (os.take k3).map V.str))) l4 (.lst [])) d (.dK [(.inr "jobs", .ref l5), (.inr "sort", .str "job"), (.inr "left", .int 0), (.inr "deep", .int 4), (.inr "known", .ref l4)])) = H4
  intro bt4 hb4 hd4 hj4 hk4
  refine ⟨_, rfl, a, 6, rfl, hb4, by decide, fun r6 ns6 H6 x1 x2 x3 b6 hb6 nr6 hr6 => ?_⟩
  refine ⟨_, rfl, _, rfl, _, _, rfl, rfl, a, _, rfl, hb6, by decide, by decide, fun r7 H7 s0 s1 b7 hb7 => ?_⟩
  obtain ⟨k7, rfl⟩ : ∃ j : Nat, r7 = j := ⟨r7.toNat, by omega⟩
  refine ⟨_, rfl, _, _, rfl, SqL.of (b7 _ _ hr6 (K8.n1 (box_strs hb6 hr6))), fun l8 e8 => ?_⟩
  rw [cut_to, ← List.map_take]
  have hd8 := kn (o := _) (u := .lst ((ns6.take k7).map V.str)) ((b6.trans b7) _ _ hd4 (K8.n1 (box_dict hb4 hd4))) e8
  have hj8 : (upd H7 l8 (.lst ((ns6.take k7).map V.str))) l5 = some (lstS ("main" :: os.take k3)) := kn ((b6.trans b7) _ _ hj4 (K8.n1 (box_strs hb4 hj4))) e8
  have hk8 : (upd H7 l8 (.lst ((ns6.take k7).map V.str))) l4 = some (lstS []) := kn ((b6.trans b7) _ _ hk4 (K8.n1 (box_strs hb4 hk4))) e8
  have hw8 : (upd H7 l8 (.lst ((ns6.take k7).map V.str))) l8 = some (lstS (ns6.take k7)) := upd_same
  have bt8 : But [a] H (upd H7 l8 (.lst ((ns6.take k7).map V.str))) := (bt4.trans (b6.trans b7)).new e8
  have hb8 := hb7.new (o := (.lst ((ns6.take k7).map V.str))) e8
  refine ⟨_, rfl, _, _, rfl, dp hd8 (by show 5 ≤ 1000; decide) p_1, ?_⟩
  revert hj8 hk8 hw8 bt8 hb8 hd8
  generalize (upd H7 l8 (.lst ((ns6.take k7).map V.str))) = H8
  intro hd8 hj8 hk8 hw8 bt8 hb8
  refine ⟨_, rfl, _, rfl, a, 4, rfl, (hb8.oth nda), by decide, by decide, fun r9 H9 t0 t1 b9 hb9 => ?_⟩
  obtain ⟨k9, rfl⟩ : ∃ j : Nat, r9 = j := ⟨r9.toNat, by omega⟩
  refine ⟨_, _, rfl, rfl, a, 1 + k9, rfl, hb9, by omega, fun gl gs H10 y1 y2 y3 b10 hb10 nr10 hg10 => ?_⟩
  have go : ∀ {l : Addr} {xs : List Str}, H8 l = some (lstS xs) → H10 l = some (lstS xs) := fun e => (b9.trans b10) _ _ (ku e (dict_strs hd8 e)) (K8.n1 (box_strs hb8 e))
  have hd10 := (b9.trans b10) _ _ (upd_same (H := H8)) (K8.n1 (box_dict hb8 hd8))
  refine ⟨_, rfl, _, _, rfl, dp hd10 (by show 6 ≤ 1000; decide) p_2, ?_⟩
  have bt10 : But [a] H H10 := (bt8.put0 nd0).trans (b9.trans b10)
  refine ⟨_, rfl, _, rfl, a, 4, rfl, (hb10.oth nda), by decide, by decide, fun r11 H11 u0 u1 b11 hb11 => ?_⟩
  obtain ⟨k11, rfl⟩ : ∃ j : Nat, r11 = j := ⟨r11.toNat, by omega⟩
  refine ⟨_, _, rfl, rfl, a, 1 + k11, rfl, hb11, by omega, fun nl ms H12 z1 z2 z3 b12 hb12 nr12 hn12 => ?_⟩
  have go2 : ∀ {l : Addr} {xs : List Str}, H10 l = some (lstS xs) → H12 l = some (lstS xs) := fun e => (b11.trans b12) _ _ (ku e (dict_strs hd10 e)) (K8.n1 (box_strs hb10 e))
  have hd12 := (b11.trans b12) _ _ (upd_same (H := H10)) (K8.n1 (box_dict hb10 hd10))
  have bt12 : But [a] H H12 := (bt10.put0 nd0).trans (b11.trans b12)
  refine ⟨_, rfl, _, _, rfl, dp hd12 (by show 7 ≤ 1000; decide) p_3, ?_⟩
  have fin : ∀ {l : Addr} {xs : List Str}, H12 l = some (lstS xs) → (upd H12 d (.dK (wkv l5 l8 gl nl l4 false 0))) l = some (lstS xs) := fun e => ku e (dict_strs hd12 e)
  refine ⟨_, rfl, q d ⟨"main" :: os.take k3, ns6.take k7, gs, ms⟩ ⟨l5, l8, gl, nl⟩ l4 _ ⟨⟨?_, ?_, by simp, by simp; omega, by simp⟩, ⟨x2.sublist (List.take_sublist _ _), fun x hx => x3 x (List.mem_of_mem_take hx), by rw [List.length_take]; omega⟩, ⟨y2, y3, by show 1 ≤ gs.length; omega, by show gs.length ≤ 4; omega⟩, ⟨z2, z3, by show 1 ≤ ms.length; omega, by show ms.length ≤ 4; omega⟩⟩
    ⟨upd_same, fin (go2 (go hj8)), fin (go2 (go hw8)), fin (go2 hg10), fin hn12, fin (go2 (go hk8))⟩ (bt12.put0 nd0) (hb12.oth nda) nd0⟩
  · exact List.nodup_cons.mpr ⟨fun z => (f3 _ (List.mem_of_mem_take z)).2 rfl, f2.sublist (List.take_sublist _ _)⟩
  · intro x hx
    rcases List.mem_cons.mp hx with rfl | hx
    · exact nd_main
    · exact (f3 x (List.mem_of_mem_take hx)).1
end
end K8
set_option Elab.async false
set_option linter.all false
set_option maxRecDepth 100000
set_option maxHeartbeats 4000000
/-! The walks of _law_row, _law_rows, _law_block. -/
namespace K8
open PySem L2
abbrev ctxOf (L : Lists) (walk : Bool) (known : List Str) (late : Bool) (kept : List Str) : Ctx := ⟨walk, known, late, kept, L.jobs, L.gates, L.notes⟩
abbrev rtexts (rs : List Row) : HO := .lst (rs.map fun r => V.str r.text)
/-- what _law_row, _law_rows and _law_block are given: the box, the world, the depth, whether it is late, what is kept -/
structure Given (H : Hp) (a d : Addr) (L : Lists) (A : Ats) (kl : Addr) (walk : Bool) (left : Nat) (known : List Str) (m : Nat) (deep : Int) (kp : Addr) (kept : List Str) (room : Nat) : Prop where
  box : BoxAt H a
  W : WorldAt H d L A kl walk left known
  ok : LOk L
  kn : (∀ x ∈ known, x ∈ L.walks) ∧ known.length ≤ 2
  deep : deep + m = 4 ∧ m ≤ 4
  kp : H kp = some (lstS kept)
  few : kept.length + m ≤ room
/-- the promise: rows of the grammar; plus: how many more rows there may be than what is left gives -/
def spDraw (room plus m : Nat) : Sp := fun vs H Q _ => ∃ (a d kp : Addr) (L : Lists) (A : Ats) (kl : Addr) (walk : Bool) (left : Nat) (known kept : List Str) (deep : Int) (late : Bool), vs = [.ref a, .ref d, .int deep, .bl late, .ref kp] ∧
  Given H a d L A kl walk left known m deep kp kept room ∧ left ≤ 2 ∧
  ∀ (r : Addr) (rs : List Row) (H' : Hp) (left' : Nat), Rows (ctxOf L walk known late kept) rs → rs.length + 3 * left' ≤ 3 * left + plus → But [a, d] H H' → BoxAt H' a → WorldAt H' d L A kl walk left' known → H r = none → H' r = some (rtexts rs) → Q (.ref r) H'
/-- a block is drawn at most at depth 4 -/
def spDeeper : Nat → Sp
  | 0 => fun _ _ _ _ => False
  | m + 1 => spDraw 9 3 m
section
variable {P : Program} {w : World} {K : PySem.W.Frag} {mg : Str → Option Value} {base : Heap} {f : Addr} {fd : FuncData}
abbrev sRow : Stmt := top 36
theorem scRow : FnScope ["_law_box_here", "_law_world_here", "_law_deep", "_law_is_late", "_law_kept", "_law_form", "_law_word"] ["_law_box_here", "_law_world_here", "_law_deep", "_law_is_late", "_law_kept"] (defScope sRow) := ⟨rfl, rfl, rfl, by decide +kernel, rfl, by decide +kernel, by decide +kernel⟩
theorem ok_row {m k : Nat} (hk : 2 ≤ k) (F : Fun K "_law_row" "_law_row" sRow f fd) (c_take : C8.Cal P w K mg base 1 "_law_take" spTake []) (c_pick : C8.Cal P w K mg base 2 "_law_pick" (spPick K) []) (c_block : C8.Cal P w K mg base k "_law_block" (spDeeper m) []) :
    FnOk P w K mg base CX0 (k + 1) f fd ["_law_box_here", "_law_world_here", "_law_deep", "_law_is_late", "_law_kept"] (spDraw 10 3 m) := by
  refine F.ok scRow (fun vs H Q E h => ?_) (fun cdv A outer s H vs Q E hr h => ?_)
  · obtain ⟨a, d, kp, L, A, kl, walk, left, known, kept, deep, late, rfl, _⟩ := h
    rfl
  obtain ⟨a, d, kp, L, At, kl, walk, left, known, kept, deep, late, rfl, G, l2, q⟩ := h
  have nd := scRow.nd
  have hu := hu_of hr
  refine ⟨_, (pss_cons (ps_set (i := 5) nd rfl (.inl rfl) (C8.pe_c c_take hr (by omega) rfl (pa_cons (pv 0) (pa_cons pe_int pa_nil))))
    (C8.pss_cut (ps_if (PW.pt (pw_and (pt_cmpR op_gt (pv 5) pe_int (nomark _)) (pw_and1 (pt_cmpR op_lt (pv 2) (pe_dget hu (pv 1) pe_str (fun _ _ => rfl)) (nomark _))))) (pss_one (ps_ret (C8.pe_c c_block hr (by omega) rfl (pa_cons (pv 0) (pa_cons (pv 1) (pa_cons (pe_op op_add (pv 2) pe_int) (pa_cons (pv 3) (pa_cons (pv 4) pa_nil)))))))) pss_nil)
    (C8.pss_cut (ps_if (PW.pt (pw_and (pt_cmpR op_lt (pv 5) pe_int (nomark _)) (pw_and (pt_cmpR op_eq (pe_dget hu (pv 1) pe_str (fun _ _ => rfl)) pe_str (nomark _)) (pw_and1 (pt_not (pt_val (pv 3))))))) (pss_one (ps_ret (pe_lst (pa_cons pe_str pa_nil)))) pss_nil)
    (C8.pss_cut (ps_set (i := 6) nd rfl (.inl rfl) (pe_ix ix_list (pe_lst (pa_cons pe_str (pa_cons pe_str (pa_cons pe_str (pa_cons pe_str (pa_cons pe_str (pa_cons pe_str (pa_cons pe_str (pa_cons pe_str (pa_cons pe_str (pa_cons pe_str (pa_cons pe_str pa_nil)))))))))))) (C8.pe_c c_take hr (by omega) rfl (pa_cons (pv 0) (pa_cons pe_int pa_nil))) (fun _ _ => rfl)))
    (pss_cons (ps_if (pt_cmpR op_eq (pv 6) pe_str (nomark _)) (pss_one (ps_ret (pe_lst (pa_cons pe_str pa_nil)))) pss_nil)
    (pss_cons (ps_if (pt_cmpR op_eq (pv 6) pe_str (nomark _)) (pss_one (ps_ret (pe_lst (pa_cons (pe_op op_add_str pe_str (C8.pe_c c_pick hr (by omega) rfl (pa_cons (pv 0) (pa_cons (pe_dget hu (pv 1) pe_str (fun _ _ => rfl)) pa_nil)))) pa_nil)))) pss_nil)
    (pss_one (ps_ret (pe_lst (pa_cons (pe_op op_add_str (pe_op op_add_str (pv 6) pe_str) (C8.pe_c c_pick hr (by omega) rfl (pa_cons (pv 0) (pa_cons (pe_dget hu (pv 1) (pe_ifExp (pt_cmpR op_in_seq (pv 6) (pe_tup (pa_cons pe_str (pa_cons pe_str pa_nil))) (by rfl)) pe_str pe_str) (fun _ _ => rfl)) pa_nil)))) pa_nil)))))))))), ?_⟩
  refine ⟨_, rfl, a, 16, rfl, G.box, by decide, by decide, fun fo H1 f0 f1 b1 hb1 => ?_⟩
  have W1 := G.W.box G.box b1
  have kp1 : H1 kp = some (lstS kept) := b1 _ _ G.kp (K8.n1 (box_strs G.box G.kp))
  have bb1 : But [a, d] H H1 := b1.mono (fun b hb => by rw [List.mem_singleton.mp hb]; exact List.mem_cons_self)
  refine ⟨fun σ' H' => σ' = [some (.ref a), some (.ref d), some (.int deep), some (.bl late), some (.ref kp), some (.int fo), none] ∧ H' = H1, ?_, ?_⟩
  · refine ⟨_, rfl, _, _, rfl, rfl, _, rfl, ite2 (fun c => ?_) (fun c => ?_)⟩
    · refine ⟨_, rfl, _, rfl, d, _, rfl, dg W1.d w_deep, _, _, rfl, rfl, _, rfl, ite2 (fun c2 => ?_) (fun c2 => ⟨rfl, rfl⟩)⟩
      have lt : deep < 4 := of_decide_eq_true c2
      obtain ⟨hd, hm⟩ := G.deep
      obtain ⟨m', rfl⟩ : ∃ m', m = m' + 1 := ⟨m - 1, by omega⟩
      refine ⟨_, rfl, _, rfl, _, rfl, _, _, rfl, rfl, _, rfl, _, rfl, a, d, kp, L, At, kl, walk, left, known, kept, _, late, rfl, ⟨hb1, W1, G.ok, G.kn, ⟨by omega, by omega⟩, kp1, by have := G.few; omega⟩, l2, fun r rs H2 left' R len b2 hb2 W2 nr hr2 => ?_⟩
      exact q r rs H2 left' R len (bb1.trans b2) hb2 W2 (bb1.free nr (K8.n2 (Ne.symm (hb1.ne nr)) (Ne.symm (W1.free nr)))) hr2
    · exact ⟨rfl, rfl⟩
  rintro σ' H1 ⟨rfl, rfl⟩
  refine ⟨fun σ' H' => σ' = [some (.ref a), some (.ref d), some (.int deep), some (.bl late), some (.ref kp), some (.int fo), none] ∧ H' = H1, ?_, ?_⟩
  · refine ⟨_, rfl, _, _, rfl, rfl, _, rfl, ite2 (fun c => ?_) (fun c => ⟨rfl, rfl⟩)⟩
    refine ⟨_, rfl, d, _, rfl, dg W1.d w_sort, rfl, _, rfl, ite2 (fun c2 => ?_) (fun c => ⟨rfl, rfl⟩)⟩
    refine ⟨_, rfl, _, rfl, ?_⟩
    cases late with
    | true => exact iteF ⟨rfl, rfl⟩
    | false =>
      cases walk with
      | false => exact absurd c2 (by decide)
      | true =>
        refine iteT ⟨by show 1 ≤ sizeLine; decide, fun r nr => ?_⟩
        exact q r [.give] _ left (.give rfl rfl) (by show 1 + _ ≤ _; omega) (bb1.new nr) (hb1.new nr) (W1.new nr) (bb1.free nr (K8.n2 (Ne.symm (hb1.ne nr)) (Ne.symm (W1.free nr)))) upd_same
  rintro σ' H1 ⟨rfl, rfl⟩
  refine ⟨fun σ' H2 => But [a, d] H H2 ∧ BoxAt H2 a ∧ WorldAt H2 d L At kl walk left known ∧ ∃ word : Str, σ' = [some (.ref a), some (.ref d), some (.int deep), some (.bl late), some (.ref kp), some (.int fo), some (.str word)] ∧ (word = "pause" ∨ ∃ k : NK, word = k.word), ?_, ?_⟩
  · refine ⟨by show 11 ≤ sizeLine; decide, fun l1 e1 => ⟨_, rfl, a, 11, rfl, hb1.new e1, by decide, by decide, fun wi H2 g0 g1 b2 hb2 => ?_⟩⟩
    have na1 := hb1.ne e1
    have bb2 : But [a, d] H H2 := (bb1.new e1).trans (b2.mono (fun b hb => by rw [List.mem_singleton.mp hb]; exact List.mem_cons_self))
    have W2 : WorldAt H2 d L At kl walk left known := (W1.new e1).box (hb1.new e1) b2
    have l12 := b2 _ _ upd_same (K8.n1 (Ne.symm na1))
    obtain ⟨wi, rfl⟩ : ∃ j : Nat, wi = j := ⟨wi.toNat, by omega⟩
    have cs : wi = 0 ∨ wi = 1 ∨ wi = 2 ∨ wi = 3 ∨ wi = 4 ∨ wi = 5 ∨ wi = 6 ∨ wi = 7 ∨ wi = 8 ∨ wi = 9 ∨ wi = 10 := by omega
    rcases cs with rfl | rfl | rfl | rfl | rfl | rfl | rfl | rfl | rfl | rfl | rfl
    · exact ⟨l1, _, _, _, rfl, rfl, SqL.of l12, atI_nat (j := 0) rfl, bb2, hb2, W2, _, rfl, .inr ⟨.say, rfl⟩⟩
    · exact ⟨l1, _, _, _, rfl, rfl, SqL.of l12, atI_nat (j := 1) rfl, bb2, hb2, W2, _, rfl, .inr ⟨.say, rfl⟩⟩
    · exact ⟨l1, _, _, _, rfl, rfl, SqL.of l12, atI_nat (j := 2) rfl, bb2, hb2, W2, _, rfl, .inr ⟨.say, rfl⟩⟩
    · exact ⟨l1, _, _, _, rfl, rfl, SqL.of l12, atI_nat (j := 3) rfl, bb2, hb2, W2, _, rfl, .inl rfl⟩
    · exact ⟨l1, _, _, _, rfl, rfl, SqL.of l12, atI_nat (j := 4) rfl, bb2, hb2, W2, _, rfl, .inl rfl⟩
    · exact ⟨l1, _, _, _, rfl, rfl, SqL.of l12, atI_nat (j := 5) rfl, bb2, hb2, W2, _, rfl, .inr ⟨.wait, rfl⟩⟩
    · exact ⟨l1, _, _, _, rfl, rfl, SqL.of l12, atI_nat (j := 6) rfl, bb2, hb2, W2, _, rfl, .inr ⟨.wait, rfl⟩⟩
    · exact ⟨l1, _, _, _, rfl, rfl, SqL.of l12, atI_nat (j := 7) rfl, bb2, hb2, W2, _, rfl, .inr ⟨.opn, rfl⟩⟩
    · exact ⟨l1, _, _, _, rfl, rfl, SqL.of l12, atI_nat (j := 8) rfl, bb2, hb2, W2, _, rfl, .inr ⟨.opn, rfl⟩⟩
    · exact ⟨l1, _, _, _, rfl, rfl, SqL.of l12, atI_nat (j := 9) rfl, bb2, hb2, W2, _, rfl, .inr ⟨.begin, rfl⟩⟩
    · exact ⟨l1, _, _, _, rfl, rfl, SqL.of l12, atI_nat (j := 10) rfl, bb2, hb2, W2, _, rfl, .inr ⟨.fail, rfl⟩⟩
  rintro σ' H2 ⟨bb2, hb2, W2, word, rfl, hw⟩
  have small : ∀ {x y : Str}, x.length ≤ 100 → y.length ≤ 100 → x.length + y.length ≤ sizeLine := fun h1 h2 => by rw [sizeLine_eq]; omega
  rcases hw with rfl | ⟨k', rfl⟩
  · refine ⟨_, rfl, rfl, _, rfl, iteT ⟨by show 1 ≤ sizeLine; decide, fun r nr => ?_⟩⟩
    exact q r [.pause] _ left .pause (by show 1 + _ ≤ _; omega) (bb2.new nr) (hb2.new nr) (W2.new nr) (bb2.free nr (K8.n2 (Ne.symm (hb2.ne nr)) (Ne.symm (W2.free nr)))) upd_same
  cases k' with
  | begin =>
    refine ⟨_, rfl, rfl, _, rfl, iteF ⟨_, rfl, rfl, _, rfl, iteT ?_⟩⟩
    refine ⟨_, rfl, _, rfl, d, _, rfl, dg W2.d w_jobs, a, At.j, _, rfl, hb2, SqL.of W2.j, box_strs hb2 W2.j, ?_, ?_, fun y H3 hy b3 hb3 => ?_⟩
    · rw [List.length_map]; exact G.ok.jobs.2.2.1
    · rw [List.length_map]; have := G.ok.jobs.2.2.2.1; omega
    obtain ⟨x, hx, rfl⟩ := List.mem_map.mp hy
    have nx := G.ok.jobs.2.1 x hx
    refine ⟨_, _, rfl, rfl, small (by decide) (by have := nx.nm.le; omega), by show 1 ≤ sizeLine; decide, fun r nr => ?_⟩
    have W3 := W2.box hb2 b3
    have bb3 : But [a, d] H H3 := bb2.trans (b3.mono (fun b hb => by rw [List.mem_singleton.mp hb]; exact List.mem_cons_self))
    exact q r [.named .begin x] _ left (.named hx nx.nm) (by show 1 + _ ≤ _; omega) (bb3.new nr) (hb3.new nr) (W3.new nr) (bb3.free nr (K8.n2 (Ne.symm (hb3.ne nr)) (Ne.symm (W3.free nr)))) (by rw [upd_same]; rfl)
  | say =>
    refine ⟨_, rfl, rfl, _, rfl, iteF ⟨_, rfl, rfl, _, rfl, iteF ?_⟩⟩
    refine ⟨_, rfl, _, _, rfl, rfl, small (by decide) (by decide), _, rfl, _, rfl, _, rfl, by show 2 ≤ sizeLine; decide, fun tp ntp => ⟨tp, _, rfl, .inr (SqT.of upd_same), rfl, rfl, _, rfl, iteF ?_⟩⟩
    refine ⟨d, _, rfl, dg (W2.new ntp).d w_notes, a, At.n, _, rfl, hb2.new ntp, SqL.of (W2.new ntp).n, box_strs hb2 W2.n, ?_, ?_, fun y H3 hy b3 hb3 => ?_⟩
    · rw [List.length_map]; exact G.ok.notes.2.2.1
    · rw [List.length_map]; have := G.ok.notes.2.2.2; omega
    obtain ⟨x, hx, rfl⟩ := List.mem_map.mp hy
    have nx := G.ok.notes.2.1 x hx
    have W2' : WorldAt (upd H2 tp (.tup [.str "wait", .str "open"])) d L At kl walk left known := W2.new ntp
    have hb2' : BoxAt (upd H2 tp (.tup [.str "wait", .str "open"])) a := hb2.new ntp
    have bb2' : But [a, d] H (upd H2 tp (.tup [.str "wait", .str "open"])) := bb2.new ntp
    revert hb2' W2' bb2' b3
    clear hb2 W2 bb2
    generalize (upd H2 tp (.tup [.str "wait", .str "open"])) = H2'
    intro b3 W2 hb2 bb2
    refine ⟨_, _, rfl, rfl, small (by decide) (by have := nx.nm.le; omega), by show 1 ≤ sizeLine; decide, fun r nr => ?_⟩
    have W3 := W2.box hb2 b3
    have bb3 : But [a, d] H H3 := bb2.trans (b3.mono (fun b hb => by rw [List.mem_singleton.mp hb]; exact List.mem_cons_self))
    exact q r [.named .say x] _ left (.named hx nx.nm) (by show 1 + _ ≤ _; omega) (bb3.new nr) (hb3.new nr) (W3.new nr) (bb3.free nr (K8.n2 (Ne.symm (hb3.ne nr)) (Ne.symm (W3.free nr)))) (by rw [upd_same]; rfl)
  | wait =>
    refine ⟨_, rfl, rfl, _, rfl, iteF ⟨_, rfl, rfl, _, rfl, iteF ?_⟩⟩
    refine ⟨_, rfl, _, _, rfl, rfl, small (by decide) (by decide), _, rfl, _, rfl, _, rfl, by show 2 ≤ sizeLine; decide, fun tp ntp => ⟨tp, _, rfl, .inr (SqT.of upd_same), rfl, rfl, _, rfl, iteT ?_⟩⟩
    refine ⟨d, _, rfl, dg (W2.new ntp).d w_gates, a, At.g, _, rfl, hb2.new ntp, SqL.of (W2.new ntp).g, box_strs hb2 W2.g, ?_, ?_, fun y H3 hy b3 hb3 => ?_⟩
    · rw [List.length_map]; exact G.ok.gates.2.2.1
    · rw [List.length_map]; have := G.ok.gates.2.2.2; omega
    obtain ⟨x, hx, rfl⟩ := List.mem_map.mp hy
    have nx := G.ok.gates.2.1 x hx
    have W2' : WorldAt (upd H2 tp (.tup [.str "wait", .str "open"])) d L At kl walk left known := W2.new ntp
    have hb2' : BoxAt (upd H2 tp (.tup [.str "wait", .str "open"])) a := hb2.new ntp
    have bb2' : But [a, d] H (upd H2 tp (.tup [.str "wait", .str "open"])) := bb2.new ntp
    revert hb2' W2' bb2' b3
    clear hb2 W2 bb2
    generalize (upd H2 tp (.tup [.str "wait", .str "open"])) = H2'
    intro b3 W2 hb2 bb2
    refine ⟨_, _, rfl, rfl, small (by decide) (by have := nx.nm.le; omega), by show 1 ≤ sizeLine; decide, fun r nr => ?_⟩
    have W3 := W2.box hb2 b3
    have bb3 : But [a, d] H H3 := bb2.trans (b3.mono (fun b hb => by rw [List.mem_singleton.mp hb]; exact List.mem_cons_self))
    exact q r [.named .wait x] _ left (.named hx nx.nm) (by show 1 + _ ≤ _; omega) (bb3.new nr) (hb3.new nr) (W3.new nr) (bb3.free nr (K8.n2 (Ne.symm (hb3.ne nr)) (Ne.symm (W3.free nr)))) (by rw [upd_same]; rfl)
  | opn =>
    refine ⟨_, rfl, rfl, _, rfl, iteF ⟨_, rfl, rfl, _, rfl, iteF ?_⟩⟩
    refine ⟨_, rfl, _, _, rfl, rfl, small (by decide) (by decide), _, rfl, _, rfl, _, rfl, by show 2 ≤ sizeLine; decide, fun tp ntp => ⟨tp, _, rfl, .inr (SqT.of upd_same), rfl, rfl, _, rfl, iteT ?_⟩⟩
    refine ⟨d, _, rfl, dg (W2.new ntp).d w_gates, a, At.g, _, rfl, hb2.new ntp, SqL.of (W2.new ntp).g, box_strs hb2 W2.g, ?_, ?_, fun y H3 hy b3 hb3 => ?_⟩
    · rw [List.length_map]; exact G.ok.gates.2.2.1
    · rw [List.length_map]; have := G.ok.gates.2.2.2; omega
    obtain ⟨x, hx, rfl⟩ := List.mem_map.mp hy
    have nx := G.ok.gates.2.1 x hx
    have W2' : WorldAt (upd H2 tp (.tup [.str "wait", .str "open"])) d L At kl walk left known := W2.new ntp
    have hb2' : BoxAt (upd H2 tp (.tup [.str "wait", .str "open"])) a := hb2.new ntp
    have bb2' : But [a, d] H (upd H2 tp (.tup [.str "wait", .str "open"])) := bb2.new ntp
    revert hb2' W2' bb2' b3
    clear hb2 W2 bb2
    generalize (upd H2 tp (.tup [.str "wait", .str "open"])) = H2'
    intro b3 W2 hb2 bb2
    refine ⟨_, _, rfl, rfl, small (by decide) (by have := nx.nm.le; omega), by show 1 ≤ sizeLine; decide, fun r nr => ?_⟩
    have W3 := W2.box hb2 b3
    have bb3 : But [a, d] H H3 := bb2.trans (b3.mono (fun b hb => by rw [List.mem_singleton.mp hb]; exact List.mem_cons_self))
    exact q r [.named .opn x] _ left (.named hx nx.nm) (by show 1 + _ ≤ _; omega) (bb3.new nr) (hb3.new nr) (W3.new nr) (bb3.free nr (K8.n2 (Ne.symm (hb3.ne nr)) (Ne.symm (W3.free nr)))) (by rw [upd_same]; rfl)
  | fail =>
    refine ⟨_, rfl, rfl, _, rfl, iteF ⟨_, rfl, rfl, _, rfl, iteF ?_⟩⟩
    refine ⟨_, rfl, _, _, rfl, rfl, small (by decide) (by decide), _, rfl, _, rfl, _, rfl, by show 2 ≤ sizeLine; decide, fun tp ntp => ⟨tp, _, rfl, .inr (SqT.of upd_same), rfl, rfl, _, rfl, iteF ?_⟩⟩
    refine ⟨d, _, rfl, dg (W2.new ntp).d w_notes, a, At.n, _, rfl, hb2.new ntp, SqL.of (W2.new ntp).n, box_strs hb2 W2.n, ?_, ?_, fun y H3 hy b3 hb3 => ?_⟩
    · rw [List.length_map]; exact G.ok.notes.2.2.1
    · rw [List.length_map]; have := G.ok.notes.2.2.2; omega
    obtain ⟨x, hx, rfl⟩ := List.mem_map.mp hy
    have nx := G.ok.notes.2.1 x hx
    have W2' : WorldAt (upd H2 tp (.tup [.str "wait", .str "open"])) d L At kl walk left known := W2.new ntp
    have hb2' : BoxAt (upd H2 tp (.tup [.str "wait", .str "open"])) a := hb2.new ntp
    have bb2' : But [a, d] H (upd H2 tp (.tup [.str "wait", .str "open"])) := bb2.new ntp
    revert hb2' W2' bb2' b3
    clear hb2 W2 bb2
    generalize (upd H2 tp (.tup [.str "wait", .str "open"])) = H2'
    intro b3 W2 hb2 bb2
    refine ⟨_, _, rfl, rfl, small (by decide) (by have := nx.nm.le; omega), by show 1 ≤ sizeLine; decide, fun r nr => ?_⟩
    have W3 := W2.box hb2 b3
    have bb3 : But [a, d] H H3 := bb2.trans (b3.mono (fun b hb => by rw [List.mem_singleton.mp hb]; exact List.mem_cons_self))
    exact q r [.named .fail x] _ left (.named hx nx.nm) (by show 1 + _ ≤ _; omega) (bb3.new nr) (hb3.new nr) (W3.new nr) (bb3.free nr (K8.n2 (Ne.symm (hb3.ne nr)) (Ne.symm (W3.free nr)))) (by rw [upd_same]; rfl)
end
end K8
set_option Elab.async false
set_option linter.all false
set_option maxRecDepth 100000
set_option maxHeartbeats 4000000
/-! The walks of _law_rows, _law_block. -/
namespace K8
open PySem L2
theorem dict_lst {H : Hp} {d l : Addr} {xs : List V} {kvs : List (Key × V)} (h : H d = some (.dK kvs)) (e : H l = some (.lst xs)) : l ≠ d := fun z => by
  rw [z, h] at e
  cases e
section
variable {P : Program} {w : World} {K : PySem.W.Frag} {mg : Str → Option Value} {base : Heap} {f : Addr} {fd : FuncData}
abbrev sRows : Stmt := top 35
theorem scRows : FnScope ["_law_box_here", "_law_world_here", "_law_deep", "_law_is_late", "_law_kept", "_law_found", "_law_turn"] ["_law_box_here", "_law_world_here", "_law_deep", "_law_is_late", "_law_kept"] (defScope sRows) := ⟨rfl, rfl, rfl, by decide +kernel, rfl, by decide +kernel, by decide +kernel⟩
theorem ok_rows {m k : Nat} (hk : 2 ≤ k) (F : Fun K "_law_rows" "_law_rows" sRows f fd) (c_take : C8.Cal P w K mg base 1 "_law_take" spTake []) (c_row : C8.Cal P w K mg base k "_law_row" (spDraw 10 3 m) []) (m_range : mg "range" = none) :
    FnOk P w K mg base CX0 (k + 1) f fd ["_law_box_here", "_law_world_here", "_law_deep", "_law_is_late", "_law_kept"] (spDraw 10 0 m) := by
  refine F.ok scRows (fun vs H Q E h => ?_) (fun cdv A outer s H vs Q E hr h => ?_)
  · obtain ⟨a, d, kp, L, A, kl, walk, left, known, kept, deep, late, rfl, _⟩ := h
    rfl
  obtain ⟨a, d, kp, L, At, kl, walk, left, known, kept, deep, late, rfl, G, l2, q⟩ := h
  have nd := scRows.nd
  have hu := hu_of hr
  refine ⟨_, (pss_cons (ps_set (i := 5) nd rfl (.inl rfl) (pe_lst pa_nil))
    (pss_cons (ps_for PassesOwn.never rfl (pi_range1 (by rfl) m_range (pa_cons (C8.pe_c c_take hr (by omega) rfl (pa_cons (pv 0) (pa_cons pe_int pa_nil))) pa_nil)) (pg_name (i := 6) nd rfl (.inl rfl))
    (pss_one (ps_if (pt_cmpR op_gt (pe_dget hu (pv 1) pe_str (fun _ _ => rfl)) pe_int (nomark _)) (pss_cons (ps_dput hu (pv 1) pe_str (pe_op op_sub (pe_dget hu (pv 1) pe_str (fun _ _ => rfl)) pe_int) rfl)
    (pss_one (ps_expr (pe_bm PySem.F.plainAttrs_list PySem.F.slot_list_extend PySem.F.type_list_extend mt_extend (pv 5) (pa_cons (C8.pe_c c_row hr (by omega) rfl (pa_cons (pv 0) (pa_cons (pv 1) (pa_cons (pv 2) (pa_cons (pv 3) (pa_cons (pv 4) pa_nil)))))) pa_nil))))) pss_nil)))
    (pss_one (ps_ret (pv 5))))), ?_⟩
  refine ⟨by show 0 ≤ sizeLine; decide, fun fl nf => ?_⟩
  have W0 := G.W
  have naf := G.box.ne nf
  refine ⟨_, rfl, a, 4, rfl, G.box.new nf, by decide, by decide, fun tn H1 t0 t1 b1 hb1 => ⟨tn, rfl, by omega, by omega, ?_⟩⟩
  refine for_range (n := tn.toNat) (fun i σ H' => ∃ (t : Option V) (rs : List Row) (left' : Nat), σ = [some (.ref a), some (.ref d), some (.int deep), some (.bl late), some (.ref kp), some (.ref fl), t] ∧ Rows (ctxOf L walk known late kept) rs ∧ rs.length + 3 * left' ≤ 3 * left ∧ But [a, d] H H' ∧ BoxAt H' a ∧
    WorldAt H' d L At kl walk left' known ∧ H' fl = some (rtexts rs) ∧ H' kp = some (lstS kept)) ?_ (fun i σ H' hi pv => ?_) (fun σ H' pv => ?_)
  · refine ⟨_, [], left, rfl, .nil, by simp, (But.refl.new nf).trans (b1.mono (fun b hb => by rw [List.mem_singleton.mp hb]; exact List.mem_cons_self)), hb1, (W0.new nf).box (G.box.new nf) b1, ?_, ?_⟩
    · exact b1 _ _ upd_same (K8.n1 (Ne.symm naf))
    · exact b1 _ _ (kn G.kp nf) (K8.n1 (box_strs G.box G.kp))
  · obtain ⟨t, rs, left', rfl, R, len, bt, hb, W, hf, hkp⟩ := pv
    refine ⟨_, rfl, d, _, rfl, dg W.d w_left, _, _, rfl, rfl, _, rfl, ite2 (fun c => ?_) (fun c => ⟨_, rs, left', rfl, R, len, bt, hb, W, hf, hkp⟩)⟩
    have c' : (0 : Int) < left' := of_decide_eq_true c
    obtain ⟨l', rfl⟩ : ∃ l', left' = l' + 1 := ⟨left' - 1, by omega⟩
    have e : ((l' + 1 : Nat) : Int) - 1 = (l' : Nat) := by omega
    refine ⟨_, rfl, d, _, rfl, dg W.d w_left, _, _, rfl, rfl, _, rfl, d, _, rfl, dp (kvs' := wkv At.j At.w At.g At.n kl walk l') W.d (by show 8 ≤ 1000; decide) (by show putK _ _ (V.int (((l' + 1 : Nat) : Int) - 1)) = _; rw [e]; exact p_left), ?_⟩
    have W1 := W.put walk l'
    have hb1' := hb.oth (o := .dK (wkv At.j At.w At.g At.n kl walk l')) (Ne.symm (box_dict hb W.d))
    have ndf : fl ≠ d := dict_lst W.d hf
    have ndk : kp ≠ d := dict_strs W.d hkp
    refine ⟨_, rfl, .inl ⟨rfl, _, SqL.of (ku hf ndf)⟩, _, rfl, _, rfl, _, rfl, _, rfl, _, rfl, a, d, kp, L, At, kl, walk, l', known, kept, deep, late, rfl, ⟨hb1', W1, G.ok, G.kn, G.deep, ku hkp ndk, G.few⟩, by omega, fun r rs2 H2 l2' R2 len2 b2 hb2 W2 nr hr2 => ?_⟩
    have f2 : H2 fl = some (rtexts rs) := b2 _ _ (ku hf ndf) (K8.n2 (Ne.symm naf) ndf)
    have few : rs.length + rs2.length ≤ 100 := by omega
    refine ⟨fl, r, _, _, rfl, rfl, f2, hr2, by rw [List.length_map, List.length_map, sizeLine_eq]; omega, ?_⟩
    have bd : But [a, d] H (upd H' d (.dK (wkv At.j At.w At.g At.n kl walk l'))) := bt.put K8.m2
    refine ⟨_, rs ++ rs2, l2', rfl, R.app R2, by rw [List.length_append]; omega, (bd.trans b2).put0 nf, hb2.oth naf, W0.put0 W2 nf, ?_, ?_⟩
    · rw [upd_same, ← List.map_append]
    · exact ku (b2 _ _ (ku hkp ndk) (K8.n2 (box_strs hb hkp) ndk)) (ne_of_none G.kp nf)
  · obtain ⟨t, rs, left', rfl, R, len, bt, hb, W, hf, hkp⟩ := pv
    exact ⟨_, rfl, q fl rs H' left' R (by omega) bt hb W nf hf⟩
end
end K8
set_option Elab.async false
set_option linter.all false
set_option maxRecDepth 100000
set_option maxHeartbeats 4000000
/-! The walk of _law_block. -/
namespace K8
open PySem L2
theorem tword_at {i : Int} (h0 : 0 ≤ i) (h1 : i < 3) : ∃ lt : Bool, atI [V.str "late", V.str "mend", V.str "late"] i = some (.str (tword lt)) := by
  have cs : i = 0 ∨ i = 1 ∨ i = 2 := by omega
  rcases cs with rfl | rfl | rfl
  · exact ⟨true, rfl⟩
  · exact ⟨false, rfl⟩
  · exact ⟨true, rfl⟩
theorem box_rt {H : Hp} {a l : Addr} {rs : List Row} (h : BoxAt H a) (e : H l = some (rtexts rs)) : l ≠ a := by
  intro z
  obtain ⟨x, y, t, b⟩ := h
  rw [z, b] at e
  cases rs with
  | nil => cases e
  | cons y ys => cases e
theorem flat_strs (xs : List Str) : (xs.map V.str).all flatV = true := by
  induction xs with
  | nil => rfl
  | cons x xs ih => exact ih
theorem inV_strs (x : Str) (xs : List Str) : inV (.str x) (xs.map V.str) = decide (x ∈ xs) := by
  induction xs with
  | nil => rfl
  | cons y ys ih =>
    have e : inV (.str x) ((y :: ys).map V.str) = (eqV (.str y) (.str x) || inV (.str x) (ys.map V.str)) := rfl
    rw [e, ih]
    show (y == x || decide (x ∈ ys)) = decide (x ∈ y :: ys)
    by_cases h : y = x
    · subst h; simp
    · have h' : ¬ x = y := fun z => h z.symm
      simp [h, h']
theorem hows_mem {may : Bool} {y : V} (h : y ∈ [V.str "closed", V.str "dropped", V.str "closed", V.str "dropped"] ++ (List.replicate ((3 : Int) * (if may = true then 1 else 0)).toNat [V.str "kept"]).flatten) : ∃ hw : How, y = .str hw.word ∧ (hw = .kept → may = true) := by
  cases may with
  | true =>
    have e : (List.replicate ((3 : Int) * (if true = true then 1 else 0)).toNat [V.str "kept"]).flatten = [V.str "kept", V.str "kept", V.str "kept"] := rfl
    rw [e] at h
    simp only [List.cons_append, List.nil_append, List.mem_cons, List.not_mem_nil, or_false] at h
    rcases h with rfl | rfl | rfl | rfl | rfl | rfl | rfl
    · exact ⟨.closed, rfl, fun _ => rfl⟩
    · exact ⟨.dropped, rfl, fun _ => rfl⟩
    · exact ⟨.closed, rfl, fun _ => rfl⟩
    · exact ⟨.dropped, rfl, fun _ => rfl⟩
    all_goals exact ⟨.kept, rfl, fun _ => rfl⟩
  | false =>
    have e : (List.replicate ((3 : Int) * (if false = true then 1 else 0)).toNat [V.str "kept"]).flatten = [] := rfl
    rw [e] at h
    simp only [List.cons_append, List.nil_append, List.mem_cons, List.not_mem_nil, or_false] at h
    rcases h with rfl | rfl | rfl | rfl
    · exact ⟨.closed, rfl, fun z => by cases z⟩
    · exact ⟨.dropped, rfl, fun z => by cases z⟩
    · exact ⟨.closed, rfl, fun z => by cases z⟩
    · exact ⟨.dropped, rfl, fun z => by cases z⟩
theorem rep_small (may : Bool) : -(2 ^ 63) ≤ (3 : Int) * (if may = true then 1 else 0) ∧ (3 : Int) * (if may = true then 1 else 0) < 2 ^ 63 ∧ 1 * ((3 : Int) * (if may = true then 1 else 0)).toNat ≤ sizeLine ∧ (List.replicate ((3 : Int) * (if may = true then 1 else 0)).toNat [V.str "kept"]).flatten.length ≤ 3 := by
  cases may <;> exact ⟨by decide, by decide, by decide, by decide⟩
def ttext : Option Str → Str
  | none => ""
  | some d => " " ++ d
theorem times_at {i : Int} (h0 : 0 ≤ i) (h1 : i < 5) : ∃ t : Option Str, (∀ d, t = some d → d ∈ digs) ∧ atI [V.str "", V.str " 1", V.str " 1", V.str " 2", V.str " 3"] i = some (.str (ttext t)) := by
  have cs : i = 0 ∨ i = 1 ∨ i = 2 ∨ i = 3 ∨ i = 4 := by omega
  have d1 : (" 1" : Str) = " " ++ "1" := by decide +kernel
  have d2 : (" 2" : Str) = " " ++ "2" := by decide +kernel
  have d3 : (" 3" : Str) = " " ++ "3" := by decide +kernel
  rcases cs with rfl | rfl | rfl | rfl | rfl
  · exact ⟨none, (fun d z => by cases z), rfl⟩
  · exact ⟨some "1", (fun d z => by cases z; decide +kernel), by show some (V.str " 1") = _; rw [d1]; rfl⟩
  · exact ⟨some "1", (fun d z => by cases z; decide +kernel), by show some (V.str " 1") = _; rw [d1]; rfl⟩
  · exact ⟨some "2", (fun d z => by cases z; decide +kernel), by show some (V.str " 2") = _; rw [d2]; rfl⟩
  · exact ⟨some "3", (fun d z => by cases z; decide +kernel), by show some (V.str " 3") = _; rw [d3]; rfl⟩
theorem ttext_len {t : Option Str} (h : ∀ d, t = some d → d ∈ digs) : (ttext t).length ≤ 100 := by
  cases t with
  | none => decide
  | some d =>
    have q := (part_digs d (h d rfl)).le
    have e : (" " : Str).length = 1 := by decide
    show (" " ++ d : Str).length ≤ 100
    rw [append_len, e]
    omega
theorem each_text (x : Str) (hw : How) (t : Option Str) : (("each " ++ x) ++ " " ++ hw.word) ++ ttext t = (Row.each x hw t).text := by
  have e : ("each " : Str) = "each" ++ " " := by decide +kernel
  cases t with
  | none =>
    show (("each " ++ x) ++ " " ++ hw.word) ++ ("" : Str) = "each" ++ " " ++ (x ++ " " ++ hw.word)
    rw [e]
    have z : ∀ y : Str, y ++ ("" : Str) = y := fun y => by
      show (⟨y.cps ++ #[]⟩ : Str) = y
      rw [Array.append_empty]
    rw [z]
    simp only [Str.append_assoc]
  | some d =>
    show (("each " ++ x) ++ " " ++ hw.word) ++ (" " ++ d : Str) = "each" ++ " " ++ (x ++ " " ++ (hw.word ++ " " ++ d))
    rw [e]
    simp only [Str.append_assoc]
theorem how_len (hw : How) : hw.word.length ≤ 8 := by cases hw <;> decide
theorem Given.step {H H' : Hp} {a d : Addr} {L : Lists} {A : Ats} {kl : Addr} {walk : Bool} {left left' : Nat} {known : List Str} {m : Nat} {deep : Int} {kp : Addr} {kept : List Str} {room room' : Nat} (G : Given H a d L A kl walk left known m deep kp kept room)
    (b : But [a, d] H H') (hb : BoxAt H' a) (W : WorldAt H' d L A kl walk left' known) (h : room ≤ room') : Given H' a d L A kl walk left' known m deep kp kept room' :=
  ⟨hb, W, G.ok, G.kn, G.deep, b _ _ G.kp (K8.n2 (box_strs G.box G.kp) (dict_strs G.W.d G.kp)), Nat.le_trans G.few h⟩
theorem times_ok {r : Int} (h0 : 0 ≤ r) (h1 : r < 3) : Str.ofString (toString (1 + r)) ∈ digs := by
  have cs : r = 0 ∨ r = 1 ∨ r = 2 := by omega
  rcases cs with rfl | rfl | rfl <;> decide +kernel
theorem small_str {x y : Str} (h1 : x.length ≤ 1000) (h2 : y.length ≤ 1000) : x.length + y.length ≤ sizeLine := by rw [sizeLine_eq]; omega
section
variable {P : Program} {w : World} {K : PySem.W.Frag} {mg : Str → Option Value} {base : Heap} {f : Addr} {fd : FuncData}
abbrev sBlock : Stmt := top 37
theorem scBlock : FnScope ["_law_box_here", "_law_world_here", "_law_deep", "_law_is_late", "_law_kept", "_law_form", "_law_times", "_law_word", "_law_first", "_law_second", "_law_walk", "_law_may_keep", "_law_hows", "_law_how", "_law_within"] ["_law_box_here", "_law_world_here", "_law_deep", "_law_is_late", "_law_kept"] (defScope sBlock) := ⟨rfl, rfl, rfl, by decide +kernel, rfl, by decide +kernel, by decide +kernel⟩
theorem ok_block {m k : Nat} (hk : 3 ≤ k) (F : Fun K "_law_block" "_law_block" sBlock f fd) (c_take : C8.Cal P w K mg base 1 "_law_take" spTake []) (c_pick : C8.Cal P w K mg base 2 "_law_pick" (spPick K) []) (c_rows : C8.Cal P w K mg base k "_law_rows" (spDraw 10 0 m) []) (m_str : mg "str" = none) (m_int : mg "int" = none) :
    FnOk P w K mg base CX0 (k + 1) f fd ["_law_box_here", "_law_world_here", "_law_deep", "_law_is_late", "_law_kept"] (spDraw 9 3 m) := by
  refine F.ok scBlock (fun vs H Q E h => ?_) (fun cdv A outer s H vs Q E hr h => ?_)
  · obtain ⟨a, d, kp, L, A, kl, walk, left, known, kept, deep, late, rfl, _⟩ := h
    rfl
  obtain ⟨a, d, kp, L, At, kl, walk, left, known, kept, deep, late, rfl, G, l2, q⟩ := h
  have nd := scBlock.nd
  have hu := hu_of hr
  refine ⟨_, (pss_cons (ps_set (i := 5) nd rfl (.inl rfl) (C8.pe_c c_take hr (by omega) rfl (pa_cons (pv 0) (pa_cons pe_int pa_nil))))
    (C8.pss_cut (ps_if (pt_cmpR op_eq (pv 5) pe_int (nomark _)) (pss_cons (ps_set (i := 6) nd rfl (.inl rfl) (pe_callTy call_str_int (by rfl) m_str (by decide +kernel) (pa_cons (pe_op op_add pe_int (C8.pe_c c_take hr (by omega) rfl (pa_cons (pv 0) (pa_cons pe_int pa_nil)))) pa_nil)))
    (pss_one (ps_ret (pe_op op_cat (pe_op op_cat (pe_lst (pa_cons (pe_op op_add_str pe_str (pv 6)) pa_nil)) (C8.pe_c c_rows hr (by omega) rfl (pa_cons (pv 0) (pa_cons (pv 1) (pa_cons (pv 2) (pa_cons (pv 3) (pa_cons (pv 4) pa_nil))))))) (pe_lst (pa_cons pe_str pa_nil)))))) pss_nil)
    (C8.pss_cut (ps_if (PW.pt (pw_or (pt_cmpR op_lt (pv 5) pe_int (nomark _)) (pw_or1 (pt_cmpR (op_eqE hr.units0) (pe_dget hu (pv 1) pe_str (fun _ _ => rfl)) (pe_lst pa_nil) (nomark _))))) (pss_cons (ps_par (i := 7) (j := 8) rfl nd rfl rfl (by decide) rfl rfl (pa_cons (pe_ix ix_list (pe_lst (pa_cons pe_str (pa_cons pe_str (pa_cons pe_str pa_nil)))) (C8.pe_c c_take hr (by omega) rfl (pa_cons (pv 0) (pa_cons pe_int pa_nil))) (fun _ _ => rfl)) (pa_cons (C8.pe_c c_rows hr (by omega) rfl (pa_cons (pv 0) (pa_cons (pv 1) (pa_cons (pv 2) (pa_cons (pv 3) (pa_cons (pv 4) pa_nil)))))) pa_nil)) (by rfl))
    (pss_cons (ps_set (i := 9) nd rfl (.inl rfl) (C8.pe_c c_rows hr (by omega) rfl (pa_cons (pv 0) (pa_cons (pv 1) (pa_cons (pv 2) (pa_cons (pe_or (pv 3) (pe_one (pe_cmpR op_eq (pv 7) pe_str (nomark _)))) (pa_cons (pv 4) pa_nil)))))))
    (pss_one (ps_ret (pe_op op_cat (pe_op op_cat (pe_op op_cat (pe_op op_cat (pe_lst (pa_cons pe_str pa_nil)) (pv 8)) (pe_lst (pa_cons (pv 7) pa_nil))) (pv 9)) (pe_lst (pa_cons pe_str pa_nil))))))) pss_nil)
    (pss_cons (ps_set (i := 10) nd rfl (.inl rfl) (C8.pe_c c_pick hr (by omega) rfl (pa_cons (pv 0) (pa_cons (pe_dget hu (pv 1) pe_str (fun _ _ => rfl)) pa_nil))))
    (C8.pss_cut (ps_set (i := 11) nd rfl (.inl rfl) (pe_and (pe_cmpR op_eq (pe_dget hu (pv 1) pe_str (fun _ _ => rfl)) pe_str (nomark _)) (pe_one (pe_cmpR op_notIn_seq (pv 10) (pv 4) (by rfl)))))
    (pss_cons (ps_set (i := 12) nd rfl (.inl rfl) (pe_op op_cat (pe_lst (pa_cons pe_str (pa_cons pe_str (pa_cons pe_str (pa_cons pe_str pa_nil))))) (pe_op op_rep (pe_lst (pa_cons pe_str pa_nil)) (pe_op op_mul pe_int (pe_callTy call_int1 (by rfl) m_int (by decide +kernel) (pa_cons (pv 11) pa_nil))))))
    (pss_cons (ps_par (i := 13) (j := 6) rfl nd rfl rfl (by decide) rfl rfl (pa_cons (C8.pe_c c_pick hr (by omega) rfl (pa_cons (pv 0) (pa_cons (pv 12) pa_nil))) (pa_cons (pe_ix ix_list (pe_lst (pa_cons pe_str (pa_cons pe_str (pa_cons pe_str (pa_cons pe_str (pa_cons pe_str pa_nil)))))) (C8.pe_c c_take hr (by omega) rfl (pa_cons (pv 0) (pa_cons pe_int pa_nil))) (fun _ _ => rfl)) pa_nil)) (by rfl))
    (C8.pss_cut (ps_set (i := 14) nd rfl (.inl rfl) (pe_ifExp (pt_cmpR op_eq (pv 13) pe_str (nomark _)) (pe_op op_cat (pv 4) (pe_lst (pa_cons (pv 10) pa_nil))) (pv 4)))
    (pss_one (ps_ret (pe_op op_cat (pe_op op_cat (pe_lst (pa_cons (pe_op op_add_str (pe_op op_add_str (pe_op op_add_str (pe_op op_add_str pe_str (pv 10)) pe_str) (pv 13)) (pv 6)) pa_nil)) (C8.pe_c c_rows hr (by omega) rfl (pa_cons (pv 0) (pa_cons (pv 1) (pa_cons (pv 2) (pa_cons (pv 3) (pa_cons (pv 14) pa_nil))))))) (pe_lst (pa_cons pe_str pa_nil))))))))))))), ?_⟩
  refine ⟨_, rfl, a, 8, rfl, G.box, by decide, by decide, fun fo H1 f0 f1 b1 hb1 => ?_⟩
  have W1 := G.W.box G.box b1
  have kp1 : H1 kp = some (lstS kept) := b1 _ _ G.kp (K8.n1 (box_strs G.box G.kp))
  have bb1 : But [a, d] H H1 := b1.mono (fun b hb => by rw [List.mem_singleton.mp hb]; exact List.mem_cons_self)
  refine ⟨fun σ' H' => σ' = [some (.ref a), some (.ref d), some (.int deep), some (.bl late), some (.ref kp), some (.int fo), none, none, none, none, none, none, none, none, none] ∧ H' = H1, ?_, ?_⟩
  · refine ⟨_, rfl, rfl, _, rfl, ite2 (fun c => ?_) (fun c => ⟨rfl, rfl⟩)⟩
    refine ⟨_, rfl, a, 3, rfl, hb1, by decide, by decide, fun tn H2 t0 t1 b2 hb2 => ⟨_, _, rfl, rfl, _, rfl, log_small (by show (1 + tn).natAbs < _; omega), ?_⟩⟩
    have hd := times_ok t0 t1
    revert hd
    generalize Str.ofString (toString (1 + tn)) = ts
    intro hd
    have ld := (part_digs ts hd).le
    have bb2 : But [a, d] H H2 := bb1.trans (b2.mono (fun b hb => by rw [List.mem_singleton.mp hb]; exact List.mem_cons_self))
    have W2 := W1.box hb1 b2
    refine ⟨_, rfl, _, _, rfl, rfl, small_str (by decide) (by omega), by show 1 ≤ sizeLine; decide, fun l1 e1 => ?_⟩
    refine ⟨_, rfl, _, rfl, _, rfl, _, rfl, _, rfl, a, d, kp, L, At, kl, walk, left, known, kept, deep, late, rfl, G.step (bb2.new e1) (hb2.new e1) (W2.new e1) (by decide), l2, fun r rs H3 left' R len b3 hb3 W3 nr hr3 => ?_⟩
    have na1 := hb2.ne e1
    have h1 := b3 _ _ upd_same (K8.n2 (Ne.symm na1) (Ne.symm (W2.free e1)))
    refine ⟨l1, r, _, _, rfl, rfl, h1, hr3, by rw [List.length_map, sizeLine_eq]; show 1 + _ ≤ _; omega, fun l4 e4 => ⟨by show 1 ≤ sizeLine; decide, fun l5 e5 => ?_⟩⟩
    refine ⟨l4, l5, _, _, rfl, rfl, kn upd_same e5, upd_same, by rw [List.length_append, List.length_map, sizeLine_eq]; show 1 + _ + 1 ≤ _; omega, fun l6 e6 => ?_⟩
    have bb6 := ((((bb2.new e1).trans b3).new (o := _) e4).new (o := _) e5).new (o := .lst ([V.str ("repeat " ++ ts)] ++ rs.map (fun r => V.str r.text) ++ [V.str "end"])) e6
    have n6 := (fr (fr e6).1).1
    exact q l6 (.rep ts :: (rs ++ [.fin])) _ left' (.rep hd R) (by rw [List.length_cons, List.length_append]; show _ + 1 + 1 + _ ≤ _; omega) bb6 (((hb3.new e4).new e5).new e6) (((W3.new e4).new e5).new e6)
      (((bb2.new e1).trans b3).free n6 (K8.n2 (Ne.symm (hb3.ne n6)) (Ne.symm (W3.free n6)))) (by rw [upd_same]; unfold rtexts; rw [List.map_cons, List.map_append]; rfl)
  rintro σ' H1 ⟨rfl, rfl⟩
  refine ⟨fun σ' H' => known ≠ [] ∧ σ' = [some (.ref a), some (.ref d), some (.int deep), some (.bl late), some (.ref kp), some (.int fo), none, none, none, none, none, none, none, none, none] ∧ But [a, d] H H' ∧ BoxAt H' a ∧ WorldAt H' d L At kl walk left known, ?_, ?_⟩
  · refine ⟨_, rfl, _, _, rfl, rfl, _, rfl, ite2 (fun c => iteT ?_) (fun c => ?_)⟩
    · skip
      have bbx := bb1
      have hbx := hb1
      have wx := W1
      refine ⟨by show 3 ≤ sizeLine; decide, fun l1 e1 => ⟨_, rfl, a, 3, rfl, hbx.new e1, by decide, by decide, fun wi H2 g0 g1 b2 hb2 => ?_⟩⟩
      have na1 := hbx.ne e1
      have l12 := b2 _ _ upd_same (K8.n1 (Ne.symm na1))
      obtain ⟨lt, hz⟩ := tword_at g0 g1
      have bb2 : But [a, d] H H2 := (bbx.new e1).trans (b2.mono (fun b hb => by rw [List.mem_singleton.mp hb]; exact List.mem_cons_self))
      have W2 := (wx.new (o := _) e1).box (hbx.new e1) b2
      refine ⟨l1, _, _, _, rfl, rfl, SqL.of l12, hz, ?_⟩
      refine ⟨_, rfl, _, rfl, _, rfl, _, rfl, _, rfl, a, d, kp, L, At, kl, walk, left, _, kept, deep, late, rfl, G.step bb2 hb2 W2 (by decide), l2, fun r1 rs1 H3 left1 R1 len1 b3 hb3 W3 nr1 hr1 => ?_⟩
      have bb3 := bb2.trans b3
      have nr1d := dict_lst W3.d hr1
      have nr1a := box_rt hb3 hr1
      refine ⟨_, _, rfl, _, rfl, _, rfl, _, rfl, _, rfl, late, rfl, ?_⟩
      cases late with
      | true =>
        refine iteT ?_
        refine ⟨_, rfl, a, d, kp, L, At, kl, walk, left1, _, kept, deep, true, rfl, G.step bb3 hb3 W3 (by decide), by omega, fun r2 rs2 H4 left2 R2 len2 b4 hb4 W4 nr2 hr2 => ?_⟩
        have h1 := b4 _ _ hr1 (K8.n2 nr1a nr1d)
        have s1 : rs1.length ≤ 100 := by omega
        have s2 : rs2.length ≤ 100 := by omega
        refine ⟨by show 1 ≤ sizeLine; decide, fun x1 ex1 => ⟨_, rfl, x1, r1, _, _, rfl, rfl, upd_same, kn h1 ex1, by rw [List.length_map, sizeLine_eq]; show 1 + _ ≤ _; omega, fun x2 ex2 => ?_⟩⟩
        refine ⟨_, rfl, by show 1 ≤ sizeLine; decide, fun x3 ex3 => ⟨x2, x3, _, _, rfl, rfl, kn upd_same ex3, upd_same, by rw [List.length_append, List.length_map, sizeLine_eq]; show 1 + _ + 1 ≤ _; omega, fun x4 ex4 => ?_⟩⟩
        refine ⟨_, rfl, x4, r2, _, _, rfl, rfl, upd_same, kn (kn (kn (kn hr2 ex1) ex2) ex3) ex4, by rw [List.length_append, List.length_append, List.length_map, List.length_map, sizeLine_eq]; show 1 + _ + 1 + _ ≤ _; omega, fun x5 ex5 => ?_⟩
        refine ⟨by show 1 ≤ sizeLine; decide, fun x6 ex6 => ⟨x5, x6, _, _, rfl, rfl, kn upd_same ex6, upd_same, by rw [List.length_append, List.length_append, List.length_append, List.length_map, List.length_map, sizeLine_eq]; show 1 + _ + 1 + _ + 1 ≤ _; omega, fun x7 ex7 => ?_⟩⟩
        have bb4 := bb3.trans b4
        have n7 := (fr (fr (fr (fr (fr (fr ex7).1).1).1).1).1).1
        refine q x7 (.guard :: (rs1 ++ .turn lt :: (rs2 ++ [.fin]))) _ left2 (.guard R1 R2) ?_ (((((((bb4.new ex1).new ex2).new ex3).new ex4).new ex5).new ex6).new ex7) (((((((hb4.new ex1).new ex2).new ex3).new ex4).new ex5).new ex6).new ex7) (((((((W4.new ex1).new ex2).new ex3).new ex4).new ex5).new ex6).new ex7) (bb4.free n7 (K8.n2 (Ne.symm (hb4.ne n7)) (Ne.symm (W4.free n7)))) ?_
        · simp only [List.length_cons, List.length_append, List.length_nil]; omega
        · rw [upd_same]
          unfold rtexts
          simp only [List.map_cons, List.map_append, List.append_assoc, List.singleton_append, List.cons_append, List.nil_append, List.map_nil]
          rfl
      | false =>
        have e : decide (V.str (tword lt) = V.str "late") = lt := by cases lt <;> decide
        refine iteF ⟨_, rfl, rfl, ?_⟩
        rw [e]
        refine ⟨_, rfl, a, d, kp, L, At, kl, walk, left1, _, kept, deep, lt, rfl, G.step bb3 hb3 W3 (by decide), by omega, fun r2 rs2 H4 left2 R2 len2 b4 hb4 W4 nr2 hr2 => ?_⟩
        have h1 := b4 _ _ hr1 (K8.n2 nr1a nr1d)
        have s1 : rs1.length ≤ 100 := by omega
        have s2 : rs2.length ≤ 100 := by omega
        refine ⟨by show 1 ≤ sizeLine; decide, fun x1 ex1 => ⟨_, rfl, x1, r1, _, _, rfl, rfl, upd_same, kn h1 ex1, by rw [List.length_map, sizeLine_eq]; show 1 + _ ≤ _; omega, fun x2 ex2 => ?_⟩⟩
        refine ⟨_, rfl, by show 1 ≤ sizeLine; decide, fun x3 ex3 => ⟨x2, x3, _, _, rfl, rfl, kn upd_same ex3, upd_same, by rw [List.length_append, List.length_map, sizeLine_eq]; show 1 + _ + 1 ≤ _; omega, fun x4 ex4 => ?_⟩⟩
        refine ⟨_, rfl, x4, r2, _, _, rfl, rfl, upd_same, kn (kn (kn (kn hr2 ex1) ex2) ex3) ex4, by rw [List.length_append, List.length_append, List.length_map, List.length_map, sizeLine_eq]; show 1 + _ + 1 + _ ≤ _; omega, fun x5 ex5 => ?_⟩
        refine ⟨by show 1 ≤ sizeLine; decide, fun x6 ex6 => ⟨x5, x6, _, _, rfl, rfl, kn upd_same ex6, upd_same, by rw [List.length_append, List.length_append, List.length_append, List.length_map, List.length_map, sizeLine_eq]; show 1 + _ + 1 + _ + 1 ≤ _; omega, fun x7 ex7 => ?_⟩⟩
        have bb4 := bb3.trans b4
        have n7 := (fr (fr (fr (fr (fr (fr ex7).1).1).1).1).1).1
        refine q x7 (.guard :: (rs1 ++ .turn lt :: (rs2 ++ [.fin]))) _ left2 (.guard R1 R2) ?_ (((((((bb4.new ex1).new ex2).new ex3).new ex4).new ex5).new ex6).new ex7) (((((((hb4.new ex1).new ex2).new ex3).new ex4).new ex5).new ex6).new ex7) (((((((W4.new ex1).new ex2).new ex3).new ex4).new ex5).new ex6).new ex7) (bb4.free n7 (K8.n2 (Ne.symm (hb4.ne n7)) (Ne.symm (W4.free n7)))) ?_
        · simp only [List.length_cons, List.length_append, List.length_nil]; omega
        · rw [upd_same]
          unfold rtexts
          simp only [List.map_cons, List.map_append, List.append_assoc, List.singleton_append, List.cons_append, List.nil_append, List.map_nil]
          rfl
    · refine ⟨_, rfl, d, _, rfl, dg W1.d w_known, by show 0 ≤ sizeLine; decide, fun l0 e0 => ⟨kl, l0, _, rfl, rfl, SqL.of (kn W1.k e0), SqL.of upd_same, _, rfl, ?_⟩⟩
      cases known with
      | cons x xs => exact iteF ⟨List.cons_ne_nil _ _, rfl, bb1.new e0, hb1.new e0, W1.new e0⟩
      | nil =>
        refine iteT ?_
        have bbx := (bb1.new (o := .lst []) e0)
        have hbx := (hb1.new (o := .lst []) e0)
        have wx := (W1.new (o := .lst []) e0)
        refine ⟨by show 3 ≤ sizeLine; decide, fun l1 e1 => ⟨_, rfl, a, 3, rfl, hbx.new e1, by decide, by decide, fun wi H2 g0 g1 b2 hb2 => ?_⟩⟩
        have na1 := hbx.ne e1
        have l12 := b2 _ _ upd_same (K8.n1 (Ne.symm na1))
        obtain ⟨lt, hz⟩ := tword_at g0 g1
        have bb2 : But [a, d] H H2 := (bbx.new e1).trans (b2.mono (fun b hb => by rw [List.mem_singleton.mp hb]; exact List.mem_cons_self))
        have W2 := (wx.new (o := _) e1).box (hbx.new e1) b2
        refine ⟨l1, _, _, _, rfl, rfl, SqL.of l12, hz, ?_⟩
        refine ⟨_, rfl, _, rfl, _, rfl, _, rfl, _, rfl, a, d, kp, L, At, kl, walk, left, _, kept, deep, late, rfl, G.step bb2 hb2 W2 (by decide), l2, fun r1 rs1 H3 left1 R1 len1 b3 hb3 W3 nr1 hr1 => ?_⟩
        have bb3 := bb2.trans b3
        have nr1d := dict_lst W3.d hr1
        have nr1a := box_rt hb3 hr1
        refine ⟨_, _, rfl, _, rfl, _, rfl, _, rfl, _, rfl, late, rfl, ?_⟩
        cases late with
        | true =>
          refine iteT ?_
          refine ⟨_, rfl, a, d, kp, L, At, kl, walk, left1, _, kept, deep, true, rfl, G.step bb3 hb3 W3 (by decide), by omega, fun r2 rs2 H4 left2 R2 len2 b4 hb4 W4 nr2 hr2 => ?_⟩
          have h1 := b4 _ _ hr1 (K8.n2 nr1a nr1d)
          have s1 : rs1.length ≤ 100 := by omega
          have s2 : rs2.length ≤ 100 := by omega
          refine ⟨by show 1 ≤ sizeLine; decide, fun x1 ex1 => ⟨_, rfl, x1, r1, _, _, rfl, rfl, upd_same, kn h1 ex1, by rw [List.length_map, sizeLine_eq]; show 1 + _ ≤ _; omega, fun x2 ex2 => ?_⟩⟩
          refine ⟨_, rfl, by show 1 ≤ sizeLine; decide, fun x3 ex3 => ⟨x2, x3, _, _, rfl, rfl, kn upd_same ex3, upd_same, by rw [List.length_append, List.length_map, sizeLine_eq]; show 1 + _ + 1 ≤ _; omega, fun x4 ex4 => ?_⟩⟩
          refine ⟨_, rfl, x4, r2, _, _, rfl, rfl, upd_same, kn (kn (kn (kn hr2 ex1) ex2) ex3) ex4, by rw [List.length_append, List.length_append, List.length_map, List.length_map, sizeLine_eq]; show 1 + _ + 1 + _ ≤ _; omega, fun x5 ex5 => ?_⟩
          refine ⟨by show 1 ≤ sizeLine; decide, fun x6 ex6 => ⟨x5, x6, _, _, rfl, rfl, kn upd_same ex6, upd_same, by rw [List.length_append, List.length_append, List.length_append, List.length_map, List.length_map, sizeLine_eq]; show 1 + _ + 1 + _ + 1 ≤ _; omega, fun x7 ex7 => ?_⟩⟩
          have bb4 := bb3.trans b4
          have n7 := (fr (fr (fr (fr (fr (fr ex7).1).1).1).1).1).1
          refine q x7 (.guard :: (rs1 ++ .turn lt :: (rs2 ++ [.fin]))) _ left2 (.guard R1 R2) ?_ (((((((bb4.new ex1).new ex2).new ex3).new ex4).new ex5).new ex6).new ex7) (((((((hb4.new ex1).new ex2).new ex3).new ex4).new ex5).new ex6).new ex7) (((((((W4.new ex1).new ex2).new ex3).new ex4).new ex5).new ex6).new ex7) (bb4.free n7 (K8.n2 (Ne.symm (hb4.ne n7)) (Ne.symm (W4.free n7)))) ?_
          · simp only [List.length_cons, List.length_append, List.length_nil]; omega
          · rw [upd_same]
            unfold rtexts
            simp only [List.map_cons, List.map_append, List.append_assoc, List.singleton_append, List.cons_append, List.nil_append, List.map_nil]
            rfl
        | false =>
          have e : decide (V.str (tword lt) = V.str "late") = lt := by cases lt <;> decide
          refine iteF ⟨_, rfl, rfl, ?_⟩
          rw [e]
          refine ⟨_, rfl, a, d, kp, L, At, kl, walk, left1, _, kept, deep, lt, rfl, G.step bb3 hb3 W3 (by decide), by omega, fun r2 rs2 H4 left2 R2 len2 b4 hb4 W4 nr2 hr2 => ?_⟩
          have h1 := b4 _ _ hr1 (K8.n2 nr1a nr1d)
          have s1 : rs1.length ≤ 100 := by omega
          have s2 : rs2.length ≤ 100 := by omega
          refine ⟨by show 1 ≤ sizeLine; decide, fun x1 ex1 => ⟨_, rfl, x1, r1, _, _, rfl, rfl, upd_same, kn h1 ex1, by rw [List.length_map, sizeLine_eq]; show 1 + _ ≤ _; omega, fun x2 ex2 => ?_⟩⟩
          refine ⟨_, rfl, by show 1 ≤ sizeLine; decide, fun x3 ex3 => ⟨x2, x3, _, _, rfl, rfl, kn upd_same ex3, upd_same, by rw [List.length_append, List.length_map, sizeLine_eq]; show 1 + _ + 1 ≤ _; omega, fun x4 ex4 => ?_⟩⟩
          refine ⟨_, rfl, x4, r2, _, _, rfl, rfl, upd_same, kn (kn (kn (kn hr2 ex1) ex2) ex3) ex4, by rw [List.length_append, List.length_append, List.length_map, List.length_map, sizeLine_eq]; show 1 + _ + 1 + _ ≤ _; omega, fun x5 ex5 => ?_⟩
          refine ⟨by show 1 ≤ sizeLine; decide, fun x6 ex6 => ⟨x5, x6, _, _, rfl, rfl, kn upd_same ex6, upd_same, by rw [List.length_append, List.length_append, List.length_append, List.length_map, List.length_map, sizeLine_eq]; show 1 + _ + 1 + _ + 1 ≤ _; omega, fun x7 ex7 => ?_⟩⟩
          have bb4 := bb3.trans b4
          have n7 := (fr (fr (fr (fr (fr (fr ex7).1).1).1).1).1).1
          refine q x7 (.guard :: (rs1 ++ .turn lt :: (rs2 ++ [.fin]))) _ left2 (.guard R1 R2) ?_ (((((((bb4.new ex1).new ex2).new ex3).new ex4).new ex5).new ex6).new ex7) (((((((hb4.new ex1).new ex2).new ex3).new ex4).new ex5).new ex6).new ex7) (((((((W4.new ex1).new ex2).new ex3).new ex4).new ex5).new ex6).new ex7) (bb4.free n7 (K8.n2 (Ne.symm (hb4.ne n7)) (Ne.symm (W4.free n7)))) ?_
          · simp only [List.length_cons, List.length_append, List.length_nil]; omega
          · rw [upd_same]
            unfold rtexts
            simp only [List.map_cons, List.map_append, List.append_assoc, List.singleton_append, List.cons_append, List.nil_append, List.map_nil]
            rfl
  rintro σ' H2 ⟨kne, rfl, bb2, hb2, W2⟩
  refine ⟨_, rfl, _, rfl, d, _, rfl, dg W2.d w_known, a, kl, _, rfl, hb2, SqL.of W2.k, box_strs hb2 W2.k, by rw [List.length_map]; exact List.length_pos_iff.mpr kne, by rw [List.length_map]; have := G.kn.2; omega, fun y H3 hy b3 hb3 => ?_⟩
  obtain ⟨x, hx, rfl⟩ := List.mem_map.mp hy
  have bb3 : But [a, d] H H3 := bb2.trans (b3.mono (fun b hb => by rw [List.mem_singleton.mp hb]; exact List.mem_cons_self))
  have W3 := W2.box hb2 b3
  have kp3 := (G.step bb3 hb3 W3 (Nat.le_refl 9)).kp
  have nx := G.ok.walks.2.1 x (G.kn.1 x hx)
  refine ⟨fun σ' H' => ∃ may : Bool, (may = true → walk = false ∧ x ∉ kept) ∧ σ' = [some (.ref a), some (.ref d), some (.int deep), some (.bl late), some (.ref kp), some (.int fo), none, none, none, none, some (.str x), some (.bl may), none, none, none] ∧ H' = H3, ?_, ?_⟩
  · refine ⟨_, rfl, d, _, rfl, dg W3.d w_sort, rfl, _, rfl, ?_⟩
    cases walk with
    | true => exact iteF ⟨false, fun z => (by cases z), rfl, rfl⟩
    | false =>
      refine iteT ⟨_, rfl, _, rfl, kp, _, rfl, .inl (SqL.of kp3), rfl, flat_strs kept, _, ?_, rfl, rfl⟩
      intro z
      rw [if_pos rfl, inV_strs] at z
      exact ⟨rfl, by simpa using z⟩
  rintro σ' H3' ⟨may, hmay, rfl, rfl⟩
  obtain ⟨q1, q2, q3, q4⟩ := rep_small may
  refine ⟨by show 4 ≤ sizeLine; decide, fun h1 e1 => ⟨by show 1 ≤ sizeLine; decide, fun h2 e2 => ⟨_, rfl, .inr ⟨may, rfl, _, _, rfl, rfl, .inl ⟨by decide, by decide⟩, h2, _, _, rfl, rfl, upd_same, q1, q2, q3, fun h3 e3 => ?_⟩⟩⟩⟩
  refine ⟨h1, h3, _, _, rfl, rfl, kn (kn upd_same e2) e3, upd_same, by rw [sizeLine_eq]; show 4 + _ ≤ _; omega, fun h4 e4 => ?_⟩
  have hbx := (((hb3.new (o := _) e1).new (o := _) e2).new (o := _) e3).new (o := .lst ([V.str "closed", V.str "dropped", V.str "closed", V.str "dropped"] ++ (List.replicate ((3 : Int) * (if may = true then 1 else 0)).toNat [V.str "kept"]).flatten)) e4
  have bbx := (((bb3.new (o := _) e1).new (o := _) e2).new (o := _) e3).new (o := .lst ([V.str "closed", V.str "dropped", V.str "closed", V.str "dropped"] ++ (List.replicate ((3 : Int) * (if may = true then 1 else 0)).toNat [V.str "kept"]).flatten)) e4
  have Wx := (((W3.new (o := _) e1).new (o := _) e2).new (o := _) e3).new (o := .lst ([V.str "closed", V.str "dropped", V.str "closed", V.str "dropped"] ++ (List.replicate ((3 : Int) * (if may = true then 1 else 0)).toNat [V.str "kept"]).flatten)) e4
  have n4 := hb3.ne (fr (fr (fr e4).1).1).1
  refine ⟨_, rfl, _, rfl, a, h4, _, rfl, hbx, SqL.of upd_same, Ne.symm n4, by rw [List.length_append]; show 0 < 4 + _; omega, by rw [List.length_append]; show 4 + _ ≤ 1000; omega, fun y H4 hy4 b4 hb4 => ?_⟩
  obtain ⟨hw, rfl, hkm⟩ := hows_mem hy4
  have bb4 : But [a, d] H H4 := bbx.trans (b4.mono (fun b hb => by rw [List.mem_singleton.mp hb]; exact List.mem_cons_self))
  have W4 := Wx.box hbx b4
  refine ⟨by show 5 ≤ sizeLine; decide, fun t1 et1 => ⟨_, rfl, a, 5, rfl, hb4.new et1, by decide, by decide, fun ti H5 ti0 ti1 b5 hb5 => ?_⟩⟩
  obtain ⟨tm, htm, hat⟩ := times_at ti0 ti1
  have bb5 : But [a, d] H H5 := (bb4.new et1).trans (b5.mono (fun b hb => by rw [List.mem_singleton.mp hb]; exact List.mem_cons_self))
  have W5 := (W4.new (o := _) et1).box (hb4.new et1) b5
  have l5 := b5 _ _ upd_same (K8.n1 (Ne.symm (hb4.ne et1)))
  refine ⟨t1, _, _, _, rfl, rfl, SqL.of l5, hat, _, _, rfl, ?_⟩
  have G5 := G.step bb5 hb5 W5 (Nat.le_refl 9)
  refine ⟨fun σ' H' => ∃ (kw : Addr) (hx : Addr), σ' = [some (.ref a), some (.ref d), some (.int deep), some (.bl late), some (.ref kp), some (.int fo), some (.str (ttext tm)), none, none, none, some (.str x), some (.bl may), some (.ref hx), some (.str hw.word), some (.ref kw)] ∧ But [a, d] H H' ∧ BoxAt H' a ∧ WorldAt H' d L At kl walk left known ∧ H' kw = some (lstS (if hw = .kept then kept ++ [x] else kept)), ?_, ?_⟩
  · refine ⟨_, rfl, rfl, _, rfl, ?_⟩
    cases hw with
    | kept =>
      refine iteT ⟨_, rfl, _, rfl, by show 1 ≤ sizeLine; decide, fun k1 ek1 => ⟨kp, k1, _, _, rfl, rfl, kn G5.kp ek1, upd_same, ?_, fun k2 ek2 => ⟨k2, h4, rfl, (bb5.new ek1).new ek2, (hb5.new ek1).new ek2, (W5.new ek1).new ek2, ?_⟩⟩⟩
      · have := G.few
        rw [List.length_map, sizeLine_eq]
        show _ + 1 ≤ _
        omega
      · rw [upd_same, if_pos rfl]
        show _ = some (HO.lst ((kept ++ [x]).map V.str))
        rw [List.map_append]
        rfl
    | closed => exact iteF ⟨_, rfl, kp, h4, rfl, bb5, hb5, W5, G5.kp⟩
    | dropped => exact iteF ⟨_, rfl, kp, h4, rfl, bb5, hb5, W5, G5.kp⟩
  rintro σ' H6 ⟨kw, hx', rfl, bb6, hb6, W6, kw6⟩
  have lx := nx.nm.le
  have lh := how_len hw
  have lt := ttext_len htm
  have l1 : ("each " : Str).length = 5 := by decide
  have l2' : (" " : Str).length = 1 := by decide
  refine ⟨_, rfl, _, _, rfl, rfl, small_str (by decide) (by omega), _, _, rfl, rfl, small_str (by rw [append_len]; omega) (by decide), _, rfl, _, _, rfl, rfl, small_str (by rw [append_len, append_len]; omega) (by omega), _, rfl, _, _, rfl, rfl, small_str (by rw [append_len, append_len, append_len]; omega) (by omega), ?_⟩
  rw [each_text]
  refine ⟨by show 1 ≤ sizeLine; decide, fun x1 ex1 => ?_⟩
  refine ⟨_, rfl, _, rfl, _, rfl, _, rfl, _, rfl, a, d, kw, L, At, kl, walk, left, known, _, deep, late, rfl, ⟨hb6.new ex1, W6.new ex1, G.ok, G.kn, G.deep, kn kw6 ex1, ?_⟩, l2, fun r rs H7 left' R len b7 hb7 W7 nr hr7 => ?_⟩
  · have := G.few
    split
    · rw [List.length_append]; show _ + 1 + _ ≤ _; omega
    · omega
  have nax := hb6.ne ex1
  have h1 := b7 _ _ upd_same (K8.n2 (Ne.symm nax) (Ne.symm (W6.free ex1)))
  refine ⟨x1, r, _, _, rfl, rfl, h1, hr7, by rw [List.length_map, sizeLine_eq]; show 1 + _ ≤ _; omega, fun y4 e4 => ⟨by show 1 ≤ sizeLine; decide, fun y5 e5 => ?_⟩⟩
  refine ⟨y4, y5, _, _, rfl, rfl, kn upd_same e5, upd_same, by rw [List.length_append, List.length_map, sizeLine_eq]; show 1 + _ + 1 ≤ _; omega, fun y6 e6 => ?_⟩
  have n6 := (fr (fr e6).1).1
  have bb7 := (bb6.new (o := _) ex1).trans b7
  refine q y6 (.each x hw tm :: (rs ++ [.fin])) _ left' (.each hx nx.nm htm (fun z => ?_) ?_) (by rw [List.length_cons, List.length_append]; show _ + 1 + 1 + _ ≤ _; omega) (((bb7.new e4).new e5).new e6) (((hb7.new e4).new e5).new e6) (((W7.new e4).new e5).new e6)
    (bb7.free n6 (K8.n2 (Ne.symm (hb7.ne n6)) (Ne.symm (W7.free n6)))) (by rw [upd_same]; unfold rtexts; rw [List.map_cons, List.map_append]; rfl)
  · exact hmay (hkm z)
  · have e : (ctxOf L walk known late kept).keeps hw x = ctxOf L walk known late (if hw = .kept then kept ++ [x] else kept) := by
      unfold Ctx.keeps
      split <;> rfl
    rw [e]
    exact R
end
end K8
set_option Elab.async false
set_option linter.all false
set_option maxRecDepth 100000
set_option maxHeartbeats 4000000
/-! The walk of _law_program. -/
namespace K8
open PySem L2
theorem nk_first {jn wn : Addr} : mergeK [] [(.inr "job", .ref jn), (.inr "walk", .ref wn)] = ([(.inr "job", .ref jn), (.inr "walk", .ref wn)] : List (Key × V)) := by rfl
theorem nk_get {jn wn : Addr} (b : Bool) : valV ([(.inr "job", .ref jn), (.inr "walk", .ref wn)] : List (Key × V)) (.inr (dword b)) = some (.ref (if b then wn else jn)) := by cases b <;> rfl
/-- behind i definitions -/
structure PSt (H : Hp) (a d : Addr) (L : Lists) (A : Ats) (jn wn nm fl sl : Addr) (bs : List Bool) (J : List Str) (i : Nat) (ds : List Def) (kl : Addr) (walk : Bool) (left : Nat) (H' : Hp) : Prop where
  bt : But [a, d] H H'
  hb : BoxAt H' a
  W : WorldAt H' d L A kl walk left (wnames ds)
  kj : kl ≠ jn
  kw : kl ≠ wn
  kf : kl ≠ fl
  ms : ds.map (·.w) = bs.take i
  df : Defs L.jobs L.gates L.notes [] ds
  j : ∃ r, H' jn = some (lstS r) ∧ r ++ (jnames ds).reverse = J
  w : ∃ r, H' wn = some (lstS r) ∧ r ++ (wnames ds).reverse = L.walks
  nm : H' nm = some (.dK [(.inr "job", .ref jn), (.inr "walk", .ref wn)])
  fl : H' fl = some (rtexts (flat ds))
  sl : H' sl = some (.lst (bs.map fun b => V.str (dword b)))
theorem jn_len (ds : List Def) : (jnames ds).length = (ds.map (·.w)).count false := by
  induction ds with
  | nil => rfl
  | cons d ds ih =>
    unfold jnames at *
    rw [List.filter_cons, List.map_cons, List.count_cons, ← ih]
    cases d.w <;> simp
theorem wn_len (ds : List Def) : (wnames ds).length = (ds.map (·.w)).count true := by
  induction ds with
  | nil => rfl
  | cons d ds ih =>
    unfold wnames at *
    rw [List.filter_cons, List.map_cons, List.count_cons, ← ih]
    cases d.w <;> simp
theorem count_lt {bs : List Bool} {i : Nat} {b : Bool} (h : bs[i]? = some b) : (bs.take i).count b < bs.count b := by
  obtain ⟨hl, hr⟩ := List.getElem?_eq_some_iff.mp h
  have e : bs = bs.take i ++ (b :: bs.drop (i + 1)) := by rw [← hr, ← List.drop_eq_getElem_cons hl, List.take_append_drop]
  have q : bs.count b = (bs.take i).count b + ((bs.drop (i + 1)).count b + 1) := by
    conv => lhs; rw [e]
    rw [List.count_append, List.count_cons]
    simp
  omega
theorem snoc_of {r : List Str} (h : 0 < r.length) : ∃ r' n, r = r' ++ [n] := ⟨r.dropLast, r.getLast (fun z => by rw [z] at h; cases h), (List.dropLast_concat_getLast _).symm⟩
/-- the next name -/
theorem PSt.pop {H H' : Hp} {a d : Addr} {L : Lists} {A : Ats} {jn wn nm fl sl : Addr} {bs : List Bool} {J : List Str} {i : Nat} {ds : List Def} {kl : Addr} {walk b : Bool} {left : Nat} (S : PSt H a d L A jn wn nm fl sl bs J i ds kl walk left H') (hi : bs[i]? = some b) (ne : jn ≠ wn)
    (pb : bs.Perm (List.replicate L.jobs.length false ++ List.replicate L.walks.length true)) (pJ : J.Perm L.jobs) : ∃ (r : List Str) (n : Str), H' (if b then wn else jn) = some (lstS (r ++ [n])) ∧ (if b then n ∈ L.walks else n ∈ L.jobs) ∧
      ∀ (body : List Row) (H2 : Hp), H2 (if b then wn else jn) = some (lstS r) → H2 (if b then jn else wn) = H' (if b then jn else wn) → (∃ r, H2 jn = some (lstS r) ∧ r ++ (jnames (ds ++ [⟨b, n, body⟩])).reverse = J) ∧ (∃ r, H2 wn = some (lstS r) ∧ r ++ (wnames (ds ++ [⟨b, n, body⟩])).reverse = L.walks) := by
  have lt := count_lt hi
  rw [← S.ms] at lt
  obtain ⟨rj, hj, ej⟩ := S.j
  obtain ⟨rw', hw, ew⟩ := S.w
  have lj := congrArg List.length ej
  have lw := congrArg List.length ew
  rw [List.length_append, List.length_reverse] at lj lw
  have cj : bs.count false = L.jobs.length := by rw [pb.count_eq, List.count_append, List.count_replicate_self, List.count_replicate]; simp
  have cw : bs.count true = L.walks.length := by rw [pb.count_eq, List.count_append, List.count_replicate_self, List.count_replicate]; simp
  have pl := pJ.length_eq
  cases b with
  | true =>
    rw [← wn_len] at lt
    obtain ⟨r', n, rfl⟩ := snoc_of (r := rw') (by omega)
    refine ⟨r', n, hw, by show n ∈ L.walks; rw [← ew]; simp, fun body H2 h1 h2 => ⟨⟨rj, (show H2 jn = H' jn from h2).trans hj, ?_⟩, ⟨r', h1, ?_⟩⟩⟩
    · rw [jnames_app]
      simpa [jnames] using ej
    · rw [wnames_app, List.reverse_append]
      simpa [wnames] using ew
  | false =>
    rw [← jn_len] at lt
    obtain ⟨r', n, rfl⟩ := snoc_of (r := rj) (by omega)
    refine ⟨r', n, hj, by show n ∈ L.jobs; exact pJ.mem_iff.mp (by rw [← ej]; simp), fun body H2 h1 h2 => ⟨⟨r', h1, ?_⟩, ⟨rw', (show H2 wn = H' wn from h2).trans hw, ?_⟩⟩⟩
    · rw [jnames_app, List.reverse_append]
      simpa [jnames] using ej
    · rw [wnames_app]
      simpa [wnames] using ew
theorem WorldAt.put1 {H0 H : Hp} {p d kl0 kl : Addr} {L : Lists} {A : Ats} {o : HO} {walk0 walk : Bool} {left0 left : Nat} {known0 known : List Str} (W0 : WorldAt H0 d L A kl0 walk0 left0 known0) (W : WorldAt H d L A kl walk left known) (n : H0 p = none) (nk : kl ≠ p) : WorldAt (upd H p o) d L A kl walk left known :=
  ⟨ku W.d (ne_of_none W0.d n), ku W.j (ne_of_none W0.j n), ku W.w (ne_of_none W0.w n), ku W.g (ne_of_none W0.g n), ku W.n (ne_of_none W0.n n), ku W.k nk⟩
theorem flat_len {jobs gates notes known : List Str} {ds : List Def} (h : Defs jobs gates notes known ds) : (flat ds).length ≤ 8 * ds.length := by
  induction h with
  | nil => exact Nat.le_refl _
  | @cons known d ds _ _ hl _ ih =>
    rw [flat_cons, List.length_append, List.length_cons]
    have : d.rows.length = d.body.length + 1 + 1 := by
      unfold Def.rows
      rw [List.length_cons, List.length_append, List.length_singleton]
    omega
theorem perm_of {α : Type} {f : α → V} (g : V → α) (h : ∀ x, g (f x) = x) {ys : List V} {xs : List α} (p : ys.Perm (xs.map f)) : ∃ zs : List α, ys = zs.map f ∧ zs.Perm xs := by
  have all : ∀ y ∈ ys, f (g y) = y := fun y hy => by
    obtain ⟨x, _, rfl⟩ := List.mem_map.mp (p.mem_iff.mp hy)
    rw [h]
  refine ⟨ys.map g, ?_, ?_⟩
  · rw [List.map_map]
    exact ((List.map_congr_left (g := id) all).trans (List.map_id ys)).symm
  · have q := p.map g
    rw [List.map_map] at q
    have e : (g ∘ f) = id := funext h
    rw [e, List.map_id] at q
    exact q
section
variable {P : Program} {w : World} {K : PySem.W.Frag} {mg : Str → Option Value} {base : Heap} {f : Addr} {fd : FuncData}
abbrev sProgram : Stmt := top 38
theorem scProgram : FnScope ["_law_box_here", "_law_world_here", "_law_most", "_law_sorts", "_law_names_here", "_law_found", "_law_sort", "_law_name", "_law_rows_here", "_law_turn"] ["_law_box_here", "_law_world_here", "_law_most"] (defScope sProgram) := ⟨rfl, rfl, rfl, by decide +kernel, rfl, by decide +kernel, by decide +kernel⟩
structure Drawn (L : Lists) (ds : List Def) : Prop where
  ok : LOk L
  df : Defs L.jobs L.gates L.notes [] ds
  w : (wnames ds).Perm L.walks
  j : (jnames ds).Perm L.jobs
def spProgram : Sp := fun vs H Q _ => ∃ (a d : Addr) (L : Lists) (A : Ats) (kl : Addr) (most : Nat), vs = [.ref a, .ref d, .int most] ∧ BoxAt H a ∧ WorldAt H d L A kl false 0 [] ∧ LOk L ∧ most ≤ 2 ∧
  ∀ (r : Addr) (ds : List Def) (H' : Hp), Drawn L ds → But [a, d] H H' → BoxAt H' a → H r = none → H' r = some (rtexts (flat ds)) → Q (.ref r) H'
theorem ok_program {k : Nat} (hk : 4 ≤ k) (F : Fun K "_law_program" "_law_program" sProgram f fd) (c_mixed : C8.Cal P w K mg base 3 "_law_mixed" (spMixed K) []) (c_rows : C8.Cal P w K mg base k "_law_rows" (spDraw 10 0 4) []) (m_len : mg "len" = none) (m_list : mg "list" = none) (m_range : mg "range" = none) :
    FnOk P w K mg base CX0 (k + 1) f fd ["_law_box_here", "_law_world_here", "_law_most"] spProgram := by
  refine F.ok scProgram (fun vs H Q E h => ?_) (fun cdv A outer s H vs Q E hr h => ?_)
  · obtain ⟨a, d, L, A, kl, most, rfl, _⟩ := h
    rfl
  obtain ⟨a, d, L, At, kl, most, rfl, hb, W0, ok, hm, q⟩ := h
  have nd := scProgram.nd
  have hu := hu_of hr
  refine ⟨_, (pss_cons (ps_set (i := 3) nd rfl (.inl rfl) (C8.pe_c c_mixed hr (by omega) rfl (pa_cons (pv 0) (pa_cons (pe_op op_cat (pe_op op_rep (pe_lst (pa_cons pe_str pa_nil)) (pe_callB call_len_seq (by rfl) m_len (by decide +kernel) (pa_cons (pe_dget hu (pv 1) pe_str (fun _ _ => rfl)) pa_nil))) (pe_op op_rep (pe_lst (pa_cons pe_str pa_nil)) (pe_callB call_len_seq (by rfl) m_len (by decide +kernel) (pa_cons (pe_dget hu (pv 1) pe_str (fun _ _ => rfl)) pa_nil)))) pa_nil))))
    (pss_cons (ps_par (i := 4) (j := 5) rfl nd rfl rfl (by decide) rfl rfl (pa_cons (pe_disp (pps_cons pe_str (C8.pe_c c_mixed hr (by omega) rfl (pa_cons (pv 0) (pa_cons (pe_dget hu (pv 1) pe_str (fun _ _ => rfl)) pa_nil))) (pps_cons pe_str (pe_callTy call_list_of (by rfl) m_list (by decide +kernel) (pa_cons (pe_dget hu (pv 1) pe_str (fun _ _ => rfl)) pa_nil)) pps_nil)) (by rfl) (by rfl) (fun z => by cases z) (by decide)) (pa_cons (pe_lst pa_nil) pa_nil)) (by rfl))
    (pss_cons (ps_for PassesOwn.never rfl (pi_list (pv 3)) (pg_name (i := 6) nd rfl (.inl rfl))
    (pss_cons (ps_set (i := 7) nd rfl (.inl rfl) (pe_bm0 PySem.F.plainAttrs_list PySem.F.slot_list_pop PySem.F.type_list_pop mt_pop (pe_dget hu (pv 4) (pv 6) (fun _ _ => rfl))))
    (pss_cons (ps_asg (pe_tup (pa_cons (pv 6) (pa_cons (pv 2) pa_nil))) (pg_tup rfl (pgs_cons (pg_sub (pv 1) pe_str (set_dict hu)) (pgs_cons (pg_sub (pv 1) pe_str (set_dict hu)) pgs_nil))))
    (pss_cons (ps_set (i := 8) nd rfl (.inl rfl) (pe_lst pa_nil))
    (pss_cons (ps_for PassesOwn.never rfl (pi_range1 (by rfl) m_range (pa_cons pe_int pa_nil)) (pg_name (i := 9) nd rfl (.inl rfl))
    (pss_one (ps_expr (pe_bm PySem.F.plainAttrs_list PySem.F.slot_list_extend PySem.F.type_list_extend mt_extend (pv 8) (pa_cons (C8.pe_c c_rows hr (by omega) rfl (pa_cons (pv 0) (pa_cons (pv 1) (pa_cons pe_int (pa_cons pe_bl (pa_cons (pe_lst pa_nil) pa_nil)))))) pa_nil)))))
    (pss_cons (ps_expr (pe_bm PySem.F.plainAttrs_list PySem.F.slot_list_extend PySem.F.type_list_extend mt_extend (pv 5) (pa_cons (pe_op op_cat (pe_op op_cat (pe_lst (pa_cons (pe_op op_add_str (pe_op op_add_str (pv 6) pe_str) (pv 7)) pa_nil)) (pv 8)) (pe_lst (pa_cons pe_str pa_nil))) pa_nil)))
    (pss_one (ps_if (pt_cmpR op_eq (pv 6) pe_str (nomark _)) (pss_one (ps_dput hu (pv 1) pe_str (pe_op op_cat (pe_dget hu (pv 1) pe_str (fun _ _ => rfl)) (pe_lst (pa_cons (pv 7) pa_nil))) rfl)) pss_nil))))))))
    (pss_one (ps_ret (pv 5)))))), ?_⟩
  have lj := ok.jobs.2.2.2.1
  have lw := ok.walks.2.2
  refine ⟨_, rfl, by show 1 ≤ sizeLine; decide, fun l1 e1 => ⟨_, rfl, d, _, rfl, dg (W0.new e1).d w_jobs, At.j, _, rfl, .inl (SqL.of (W0.new e1).j), l1, _, _, rfl, rfl, upd_same, ?_, ?_, ?_, fun l2 e2 => ?_⟩⟩
  · rw [List.length_map]; omega
  · rw [List.length_map]; omega
  · rw [List.length_map, Int.toNat_natCast, sizeLine_eq]; show 1 * _ ≤ _; omega
  have W2 := (W0.new (o := _) e1).new (o := .lst (List.replicate ((((L.jobs.map V.str).length : Nat) : Int)).toNat [V.str "job"]).flatten) e2
  refine ⟨by show 1 ≤ sizeLine; decide, fun l3 e3 => ⟨_, rfl, d, _, rfl, dg (W2.new e3).d w_walks, At.w, _, rfl, .inl (SqL.of (W2.new e3).w), l3, _, _, rfl, rfl, upd_same, ?_, ?_, ?_, fun l4 e4 => ?_⟩⟩
  · rw [List.length_map]; omega
  · rw [List.length_map]; omega
  · rw [List.length_map, Int.toNat_natCast, sizeLine_eq]; show 1 * _ ≤ _; omega
  have W4 := (W2.new (o := _) e3).new (o := .lst (List.replicate ((((L.walks.map V.str).length : Nat) : Int)).toNat [V.str "walk"]).flatten) e4
  have hb4 := (((hb.new (o := _) e1).new (o := _) e2).new (o := _) e3).new (o := .lst (List.replicate ((((L.walks.map V.str).length : Nat) : Int)).toNat [V.str "walk"]).flatten) e4
  have bt4 := (((But.refl (as := [a, d]).new (o := _) e1).new (o := _) e2).new (o := _) e3).new (o := .lst (List.replicate ((((L.walks.map V.str).length : Nat) : Int)).toNat [V.str "walk"]).flatten) e4
  refine ⟨l2, l4, _, _, rfl, rfl, kn (kn upd_same e3) e4, upd_same, ?_, fun l5 e5 => ?_⟩
  · simp only [List.length_map, Int.toNat_natCast, List.flatten_replicate_singleton, List.length_replicate]; rw [sizeLine_eq]; omega
  have n5a := hb4.ne e5
  refine ⟨a, l5, _, rfl, hb4.new e5, SqL.of upd_same, ?_, fun sl ys H6 pm b6 hb6 nsl hsl => ?_⟩
  · simp only [List.length_append, List.length_map, Int.toNat_natCast, List.flatten_replicate_singleton, List.length_replicate]; omega
  have W6 := (W4.new (o := _) e5).box (hb4.new e5) b6
  have bt6 : But [a, d] H H6 := (bt4.new (o := _) e5).trans (b6.mono (fun b hb => by rw [List.mem_singleton.mp hb]; exact List.mem_cons_self))
  have pm' : ys.Perm ((List.replicate L.jobs.length false ++ List.replicate L.walks.length true).map fun b => V.str (dword b)) := by
    simp only [List.length_map, Int.toNat_natCast, List.flatten_replicate_singleton] at pm
    rw [List.map_append, List.map_replicate, List.map_replicate]
    exact pm
  obtain ⟨bs, rfl, pb⟩ := perm_of (f := fun b => V.str (dword b)) (fun v => decide (v = V.str "walk")) (fun b => by cases b <;> decide) pm'
  clear pm pm'
  -- the names
  refine fun nm nnm => ?_
  have ndm := hb6.ne nnm
  refine ⟨_, rfl, _, rfl, d, _, rfl, dg (W6.new nnm).d w_jobs, a, At.j, _, rfl, hb6.new nnm, SqL.of (W6.new nnm).j, by rw [List.length_map]; omega, fun jn js H7 pj b7 hb7 njn hjn => ?_⟩
  obtain ⟨J, rfl, pJ⟩ := perm_strs pj
  have W7 := (W6.new (o := _) nnm).box (hb6.new nnm) b7
  have nm7 := b7 _ _ upd_same (K8.n1 (Ne.symm ndm))
  refine ⟨_, rfl, d, _, rfl, dg W7.d w_walks, At.w, _, rfl, .inl (SqL.of W7.w), fun wn nwn => ⟨kn nm7 nwn, [(.inr "job", .ref jn), (.inr "walk", .ref wn)], rfl, by show 2 ≤ 15; decide, ?_⟩⟩
  refine ⟨by show 0 ≤ sizeLine; decide, fun fl nfl => ⟨_, _, rfl, ?_⟩⟩
  rw [nk_first]
  have hn6 : ∀ {x : Addr}, H6 x = none → H x = none := fun n => bt6.free n (K8.n2 (Ne.symm (hb6.ne n)) (Ne.symm (W6.free n)))
  have hn7 : ∀ {x : Addr}, H7 x = none → H6 x = none ∧ x ≠ nm := fun n => fr (b7.free n (K8.n1 (Ne.symm (hb7.ne n))))
  have h_sl : H sl = none := (fr (fr (fr (fr (fr nsl).1).1).1).1).1
  have h_nm := hn6 nnm
  have h_jn := hn6 (fr njn).1
  have h_wn := hn6 (hn7 nwn).1
  have nfl7 := fr (fr nfl).1
  have h_fl := hn6 (hn7 nfl7.1).1
  have jw : jn ≠ wn := ne_of_none hjn nwn
  have fj : fl ≠ jn := Ne.symm (ne_of_none hjn nfl7.1)
  have fw : fl ≠ wn := nfl7.2
  have hsl7 : H7 sl = some (.lst (bs.map fun b => V.str (dword b))) := b7 _ _ (kn hsl nnm) (K8.n1 (Ne.symm (ne_of_none hb.choose_spec.choose_spec.choose_spec h_sl)))
  have sj : sl ≠ jn := ne_of_none (kn hsl nnm) njn
  have sw : sl ≠ wn := ne_of_none hsl7 nwn
  have snm : sl ≠ nm := ne_of_none hsl nnm
  have sf : sl ≠ fl := ne_of_none hsl7 nfl7.1
  have jnm : jn ≠ nm := (fr njn).2
  have wnm : wn ≠ nm := (hn7 nwn).2
  have fnm : fl ≠ nm := (hn7 nfl7.1).2
  have an : ∀ {x : Addr}, H x = none → x ∉ [a, d] := fun n => K8.n2 (Ne.symm (hb.ne n)) (Ne.symm (W0.free n))
  have S0 : PSt H a d L At jn wn nm fl sl bs J 0 [] kl false 0 (upd (upd (upd H7 wn (.lst (L.walks.map V.str))) nm (.dK [(.inr "job", .ref jn), (.inr "walk", .ref wn)])) fl (.lst [])) := by
    have bt7 : But [a, d] H H7 := (bt6.new nnm).trans (b7.mono (fun b hb => by rw [List.mem_singleton.mp hb]; exact List.mem_cons_self))
    refine ⟨((bt7.new nwn).put0 h_nm).put0 h_fl, ((hb7.new nwn).oth ndm).oth (hb.ne h_fl), W0.put0 (W0.put0 (W7.new nwn) h_nm) h_fl, ne_of_none W0.k h_jn, ne_of_none W0.k h_wn, ne_of_none W0.k h_fl, rfl, .nil, ⟨J, ?_, by simp [jnames]⟩, ⟨L.walks, ?_, by simp [wnames]⟩, ?_, upd_same, ?_⟩
    · exact ku (ku (ku hjn jw) jnm) (Ne.symm fj)
    · exact ku (ku upd_same wnm) (Ne.symm fw)
    · exact ku upd_same (Ne.symm fnm)
    · exact ku (ku (ku hsl7 sw) snm) sf
  revert S0
  generalize (upd (upd (upd H7 wn (.lst (L.walks.map V.str))) nm (.dK [(.inr "job", .ref jn), (.inr "walk", .ref wn)])) fl (.lst [])) = HL
  intro S0
  refine ⟨_, rfl, sl, rfl, ⟨_, SqL.of S0.sl⟩, ?_⟩
  refine for_list (K := K) (a := sl) (xs := bs.map fun b => V.str (dword b)) (fun i σ H' => ∃ (ds : List Def) (kl' : Addr) (walk : Bool) (left : Nat) (t1 t2 t3 t4 : Option V), σ = [some (.ref a), some (.ref d), some (.int most), some (.ref sl), some (.ref nm), some (.ref fl), t1, t2, t3, t4] ∧ PSt H a d L At jn wn nm fl sl bs J i ds kl' walk left H') ?_ (fun i σ H' _ pv => ?_) (fun i x σ H' hx pv => ?_) (fun σ H' pv => ?_)
  · exact ⟨[], kl, false, 0, none, none, none, none, rfl, S0⟩
  · obtain ⟨ds, kl', walk, left, t1, t2, t3, t4, rfl, S⟩ := pv
    exact SqL.of S.sl
  · obtain ⟨ds, kl', walk, left, t1, t2, t3, t4, rfl, S⟩ := pv
    obtain ⟨b, hbi, rfl⟩ : ∃ b, bs[i]? = some b ∧ x = V.str (dword b) := by
      rw [List.getElem?_map] at hx
      cases q : bs[i]? with
      | none => rw [q] at hx; cases hx
      | some b => rw [q] at hx; exact ⟨b, rfl, (Option.some.inj hx).symm⟩
    obtain ⟨r, n, hln, hmem, aft⟩ := S.pop hbi jw pb pJ
    have lnd : (if b then wn else jn) ∉ [a, d] := by cases b <;> exact an (by assumption)
    refine ⟨_, rfl, _, rfl, nm, _, rfl, dg S.nm (nk_get b), .inl ⟨rfl, _, SqL.of hln⟩, _, _, .str n, rfl, rfl, hln, by simp, ?_⟩
    have e : ((r ++ [n]).map V.str).dropLast = r.map V.str := by rw [List.map_append]; exact List.dropLast_concat
    rw [e]
    have hln0 : H (if b then wn else jn) = none := by cases b <;> assumption
    have nd' : ∀ {x : Addr}, H x = none → x ≠ d := fun n => Ne.symm (W0.free n)
    have na' : ∀ {x : Addr}, H x = none → a ≠ x := fun n => hb.ne n
    have klln : kl' ≠ (if b then wn else jn) := by cases b with
      | true => exact S.kw
      | false => exact S.kj
    have WP := W0.put1 (o := .lst (r.map V.str)) S.W hln0 klln
    refine ⟨_, rfl, _, rfl, by show 2 ≤ sizeLine; decide, fun tp ntp => ⟨tp, _, rfl, SqT.of upd_same, rfl, _, _, rfl, _, rfl, d, _, rfl, dp (WP.new ntp).d (by show 8 ≤ 1000; decide) p_sort, _, _, rfl, _, rfl, d, _, rfl, dp upd_same (by show 8 ≤ 1000; decide) p_left, rfl, ?_⟩⟩
    have WS := ((WP.new (o := .tup [.str (dword b), .int most]) ntp).put b left).put b most
    have hbS := ((((S.hb.oth (o := .lst (r.map V.str)) (na' hln0)).new (o := .tup [.str (dword b), .int most]) ntp).oth (o := .dK (wkv At.j At.w At.g At.n kl' b left)) (Ne.symm (box_dict hb W0.d))).oth (o := .dK (wkv At.j At.w At.g At.n kl' b most)) (Ne.symm (box_dict hb W0.d)))
    have btS := ((((S.bt.put0 (o := .lst (r.map V.str)) hln0).new (o := .tup [.str (dword b), .int most]) ntp).put (o := .dK (wkv At.j At.w At.g At.n kl' b left)) m2).put (o := .dK (wkv At.j At.w At.g At.n kl' b most)) m2)
    have kpS : ∀ {x : Addr} {o : HO}, H x = none → x ≠ (if b then wn else jn) → H' x = some o → (upd (upd (upd (upd H' (if b then wn else jn) (.lst (r.map V.str))) tp (.tup [.str (dword b), .int most])) d (.dK (wkv At.j At.w At.g At.n kl' b left))) d (.dK (wkv At.j At.w At.g At.n kl' b most))) x = some o := fun h0 ne e => ku (ku (kn (ku e ne) ntp) (nd' h0)) (nd' h0)
    have lnS : (upd (upd (upd (upd H' (if b then wn else jn) (.lst (r.map V.str))) tp (.tup [.str (dword b), .int most])) d (.dK (wkv At.j At.w At.g At.n kl' b left))) d (.dK (wkv At.j At.w At.g At.n kl' b most))) (if b then wn else jn) = some (lstS r) := ku (ku (kn upd_same ntp) (nd' hln0)) (nd' hln0)
    revert WS hbS btS kpS lnS
    generalize (upd (upd (upd (upd H' (if b then wn else jn) (.lst (r.map V.str))) tp (.tup [.str (dword b), .int most])) d (.dK (wkv At.j At.w At.g At.n kl' b left))) d (.dK (wkv At.j At.w At.g At.n kl' b most))) = HS
    intro WS hbS btS kpS lnS
    refine ⟨by show 0 ≤ sizeLine; decide, fun rl nrl => ⟨2, rfl, by decide, by decide, ?_⟩⟩
    have h_rl : H rl = none := btS.free nrl (K8.n2 (Ne.symm (hbS.ne nrl)) (Ne.symm (WS.free nrl)))
    have kno : (∀ x ∈ wnames ds, x ∈ L.walks) ∧ (wnames ds).length ≤ 2 := by
      obtain ⟨rw', _, ew⟩ := S.w
      refine ⟨fun x hx => by rw [← ew]; simp [hx], ?_⟩
      have q := congrArg List.length ew
      rw [List.length_append, List.length_reverse] at q
      omega
    refine for_range (n := 2) (fun j σ H2 => ∃ (t : Option V) (rs : List Row) (left' : Nat), σ = [some (.ref a), some (.ref d), some (.int most), some (.ref sl), some (.ref nm), some (.ref fl), some (.str (dword b)), some (.str n), some (.ref rl), t] ∧ Rows (ctxOf L b (wnames ds) false []) rs ∧ rs.length + 3 * left' ≤ 3 * most ∧ But [a, d] HS H2 ∧ BoxAt H2 a ∧
      WorldAt H2 d L At kl' b left' (wnames ds) ∧ H2 rl = some (rtexts rs)) ?_ (fun j σ H2 hj pv => ?_) (fun σ H2 pv => ?_)
    · exact ⟨t4, [], most, rfl, .nil, by simp, But.refl.new nrl, hbS.new nrl, WS.new nrl, upd_same⟩
    · obtain ⟨t, rs, left', rfl, R, len, bt, hb2, W2, hrl⟩ := pv
      refine ⟨_, rfl, .inl ⟨rfl, _, SqL.of hrl⟩, _, rfl, _, rfl, by show 0 ≤ sizeLine; decide, fun kp nkp => ?_⟩
      refine ⟨a, d, kp, L, At, kl', b, left', wnames ds, [], 0, false, rfl, ⟨hb2.new nkp, W2.new nkp, ok, kno, ⟨by decide, by decide⟩, upd_same, by decide⟩, by omega, fun r2 rs2 H3 left2 R2 len2 b3 hb3 W3 nr hr2 => ?_⟩
      have hrl3 : H3 rl = some (rtexts rs) := b3 _ _ (kn hrl nkp) (K8.n2 (Ne.symm (hbS.ne nrl)) (Ne.symm (WS.free nrl)))
      refine ⟨rl, r2, _, _, rfl, rfl, hrl3, hr2, by rw [List.length_map, List.length_map, sizeLine_eq]; omega, ?_⟩
      refine ⟨_, rs ++ rs2, left2, rfl, R.app R2, by rw [List.length_append]; omega, ((bt.new nkp).trans b3).put0 nrl, hb3.oth (hbS.ne nrl), WS.put0 W3 nrl, ?_⟩
      rw [upd_same, ← List.map_append]
    · obtain ⟨t, rs, left', rfl, R, len, bt, hb2, W2, hrl⟩ := pv
      have fne : fl ≠ (if b then wn else jn) := by cases b <;> assumption
      have hfl2 : H2 fl = some (rtexts (flat ds)) := bt _ _ (kpS h_fl fne S.fl) (an h_fl)
      have nx : Nd n := by cases b with
        | true => exact ok.walks.2.1 n hmem
        | false => exact ok.jobs.2.1 n hmem
      have ln := nx.nm.le
      have ldw : (dword b).length ≤ 8 := (part_dword b).le
      have fl8 := flat_len S.df
      have dl : ds.length ≤ i := by have := congrArg List.length S.ms; rw [List.length_map, List.length_take] at this; omega
      have ib : i < bs.length := (List.getElem?_eq_some_iff.mp hbi).1
      have bl5 : bs.length ≤ 5 := by rw [pb.length_eq, List.length_append, List.length_replicate, List.length_replicate]; omega
      refine ⟨_, rfl, .inl ⟨rfl, _, SqL.of hfl2⟩, _, rfl, _, _, rfl, rfl, small_str (by omega) (by decide), _, rfl, _, _, rfl, rfl, small_str (by rw [append_len]; have e : (" " : Str).length = 1 := (by decide); omega) (by omega), by show 1 ≤ sizeLine; decide, fun x1 ex1 => ?_⟩
      refine ⟨_, rfl, x1, rl, _, _, rfl, rfl, upd_same, kn hrl ex1, by rw [List.length_map, sizeLine_eq]; show 1 + _ ≤ _; omega, fun x2 ex2 => ⟨by show 1 ≤ sizeLine; decide, fun x3 ex3 => ⟨x2, x3, _, _, rfl, rfl, kn upd_same ex3, upd_same, by rw [List.length_append, List.length_map, sizeLine_eq]; show 1 + _ + 1 ≤ _; omega, fun x4 ex4 => ?_⟩⟩⟩
      refine ⟨fl, x4, _, _, rfl, rfl, kn (kn (kn (kn hfl2 ex1) ex2) ex3) ex4, upd_same, by rw [List.length_append, List.length_append, List.length_map, List.length_map, sizeLine_eq]; show _ + (1 + _ + 1) ≤ _; omega, ?_⟩
      have lnF : (if b then wn else jn) ≠ fl := Ne.symm fne
      have kp4 : ∀ {x : Addr} {o : HO}, x ≠ fl → H2 x = some o → (upd (upd (upd (upd (upd H2 x1 (.lst [.str (dword b ++ " " ++ n)])) x2 (.lst ([.str (dword b ++ " " ++ n)] ++ rs.map fun r => V.str r.text))) x3 (.lst [.str "end"])) x4 (.lst ([.str (dword b ++ " " ++ n)] ++ (rs.map fun r => V.str r.text) ++ [.str "end"]))) fl (.lst ((flat ds).map (fun r => V.str r.text) ++ ([.str (dword b ++ " " ++ n)] ++ (rs.map fun r => V.str r.text) ++ [.str "end"])))) x = some o := fun ne e => ku (kn (kn (kn (kn e ex1) ex2) ex3) ex4) ne
      have flF : (upd (upd (upd (upd (upd H2 x1 (.lst [.str (dword b ++ " " ++ n)])) x2 (.lst ([.str (dword b ++ " " ++ n)] ++ rs.map fun r => V.str r.text))) x3 (.lst [.str "end"])) x4 (.lst ([.str (dword b ++ " " ++ n)] ++ (rs.map fun r => V.str r.text) ++ [.str "end"]))) fl (.lst ((flat ds).map (fun r => V.str r.text) ++ ([.str (dword b ++ " " ++ n)] ++ (rs.map fun r => V.str r.text) ++ [.str "end"])))) fl = some (rtexts (flat (ds ++ [⟨b, n, rs⟩]))) := by
        rw [upd_same]
        unfold rtexts flat Def.rows
        simp only [List.map_append, List.map_cons, List.map_nil, List.flatten_append, List.flatten_cons, List.flatten_nil, List.append_nil, List.cons_append, List.nil_append, List.singleton_append]
        rfl
      have btF : But [a, d] H (upd (upd (upd (upd (upd H2 x1 (.lst [.str (dword b ++ " " ++ n)])) x2 (.lst ([.str (dword b ++ " " ++ n)] ++ rs.map fun r => V.str r.text))) x3 (.lst [.str "end"])) x4 (.lst ([.str (dword b ++ " " ++ n)] ++ (rs.map fun r => V.str r.text) ++ [.str "end"]))) fl (.lst ((flat ds).map (fun r => V.str r.text) ++ ([.str (dword b ++ " " ++ n)] ++ (rs.map fun r => V.str r.text) ++ [.str "end"])))) := (((((btS.trans bt).new ex1).new ex2).new ex3).new ex4).put0 h_fl
      have hbF : BoxAt (upd (upd (upd (upd (upd H2 x1 (.lst [.str (dword b ++ " " ++ n)])) x2 (.lst ([.str (dword b ++ " " ++ n)] ++ rs.map fun r => V.str r.text))) x3 (.lst [.str "end"])) x4 (.lst ([.str (dword b ++ " " ++ n)] ++ (rs.map fun r => V.str r.text) ++ [.str "end"]))) fl (.lst ((flat ds).map (fun r => V.str r.text) ++ ([.str (dword b ++ " " ++ n)] ++ (rs.map fun r => V.str r.text) ++ [.str "end"])))) a := ((((hb2.new ex1).new ex2).new ex3).new ex4).oth (na' h_fl)
      have WF : WorldAt (upd (upd (upd (upd (upd H2 x1 (.lst [.str (dword b ++ " " ++ n)])) x2 (.lst ([.str (dword b ++ " " ++ n)] ++ rs.map fun r => V.str r.text))) x3 (.lst [.str "end"])) x4 (.lst ([.str (dword b ++ " " ++ n)] ++ (rs.map fun r => V.str r.text) ++ [.str "end"]))) fl (.lst ((flat ds).map (fun r => V.str r.text) ++ ([.str (dword b ++ " " ++ n)] ++ (rs.map fun r => V.str r.text) ++ [.str "end"])))) d L At kl' b left' (wnames ds) := W0.put1 ((((W2.new ex1).new ex2).new ex3).new ex4) h_fl S.kf
      revert kp4 flF btF hbF WF
      generalize (upd (upd (upd (upd (upd H2 x1 (.lst [.str (dword b ++ " " ++ n)])) x2 (.lst ([.str (dword b ++ " " ++ n)] ++ rs.map fun r => V.str r.text))) x3 (.lst [.str "end"])) x4 (.lst ([.str (dword b ++ " " ++ n)] ++ (rs.map fun r => V.str r.text) ++ [.str "end"]))) fl (.lst ((flat ds).map (fun r => V.str r.text) ++ ([.str (dword b ++ " " ++ n)] ++ (rs.map fun r => V.str r.text) ++ [.str "end"])))) = HF
      intro kp4 flF btF hbF WF
      have kpF : ∀ {x : Addr} {o : HO}, H x = none → x ≠ (if b then wn else jn) → x ≠ fl → H' x = some o → HF x = some o := fun h0 n1 n2 e => kp4 n2 (bt _ _ (kpS h0 n1 e) (an h0))
      have lnF2 : HF (if b then wn else jn) = some (lstS r) := kp4 lnF (bt _ _ lnS lnd)
      have oth0 : H (if b then jn else wn) = none := by cases b <;> assumption
      have othn : (if b then jn else wn) ≠ (if b then wn else jn) := by cases b <;> simp [jw, Ne.symm jw]
      have othf : (if b then jn else wn) ≠ fl := by cases b <;> simp [Ne.symm fj, Ne.symm fw]
      obtain ⟨o, ho⟩ : ∃ o, H' (if b then jn else wn) = some o := by
        cases b with
        | true => obtain ⟨r, h, _⟩ := S.j; exact ⟨_, h⟩
        | false => obtain ⟨r, h, _⟩ := S.w; exact ⟨_, h⟩
      have af := aft rs HF lnF2 ((kpF oth0 othn othf ho).trans ho.symm)
      have nmF := kpF h_nm (by cases b <;> simp [Ne.symm jnm, Ne.symm wnm]) (Ne.symm fnm) S.nm
      have slF := kpF h_sl (by cases b <;> simp [sj, sw]) sf S.sl
      have msF : (ds ++ [(⟨b, n, rs⟩ : Def)]).map (·.w) = bs.take (i + 1) := by rw [List.map_append, S.ms, List.take_add_one, hbi]; rfl
      have dfF : Defs L.jobs L.gates L.notes [] (ds ++ [⟨b, n, rs⟩]) := S.df.app (.cons nx.nm R (by show rs.length ≤ 6; omega) .nil)
      refine ⟨_, rfl, rfl, _, rfl, ?_⟩
      cases b with
      | false => exact iteF ⟨_, kl', false, left', _, _, _, _, rfl, ⟨btF, hbF, by rw [wnames_app]; simpa [wnames] using WF, S.kj, S.kw, S.kf, msF, dfF, af.1, af.2, nmF, flF, slF⟩⟩
      | true =>
        refine iteT ⟨_, rfl, d, _, rfl, dg WF.d w_known, _, rfl, by show 1 ≤ sizeLine; decide, fun k1 ek1 => ⟨kl', k1, _, _, rfl, rfl, kn WF.k ek1, upd_same, by have := kno.2; rw [List.length_map, sizeLine_eq]; show _ + 1 ≤ _; omega, fun k2 ek2 => ⟨_, rfl, d, _, rfl, dp ((WF.new ek1).new ek2).d (by show 8 ≤ 1000; decide) p_known, ?_⟩⟩⟩
        have keep : ∀ {x : Addr} {o : HO}, H x = none → HF x = some o → (upd (upd (upd HF k1 (.lst [.str n])) k2 (.lst ((wnames ds).map V.str ++ [.str n]))) d (.dK (wkv At.j At.w At.g At.n k2 true left'))) x = some o := fun h0 e => ku (kn (kn e ek1) ek2) (nd' h0)
        have kne : ∀ {x : Addr} {o : HO}, HF x = some o → k2 ≠ x := fun e => Ne.symm (ne_of_none (kn e ek1) ek2)
        have W3 := (WF.new (o := .lst [.str n]) ek1).new (o := .lst ((wnames ds).map V.str ++ [.str n])) ek2
        obtain ⟨⟨rj, hj, ej⟩, ⟨rw', hw, ew⟩⟩ := af
        have Wfin : WorldAt (upd (upd (upd HF k1 (.lst [.str n])) k2 (.lst ((wnames ds).map V.str ++ [.str n]))) d (.dK (wkv At.j At.w At.g At.n k2 true left'))) d L At k2 true left' (wnames (ds ++ [⟨true, n, rs⟩])) := by
          refine ⟨upd_same, ku W3.j (dict_strs W3.d W3.j), ku W3.w (dict_strs W3.d W3.w), ku W3.g (dict_strs W3.d W3.g), ku W3.n (dict_strs W3.d W3.n), ?_⟩
          rw [upd_ne (Ne.symm (ne_of_none (WF.new (o := .lst [.str n]) ek1).d ek2)), upd_same, wnames_app]
          unfold lstS
          rw [List.map_append]
          rfl
        exact ⟨_, k2, true, left', _, _, _, _, rfl, ⟨((btF.new ek1).new ek2).put m2, ((hbF.new ek1).new ek2).oth (Ne.symm (box_dict hb W0.d)), Wfin, kne hj, kne hw, kne flF, msF, dfF, ⟨rj, keep h_jn hj, ej⟩, ⟨rw', keep h_wn hw, ew⟩, keep h_nm nmF, keep h_fl flF, keep h_sl slF⟩⟩
  · obtain ⟨ds, kl', walk, left, t1, t2, t3, t4, rfl, S⟩ := pv
    rw [List.length_map] at S
    obtain ⟨rj, _, ej⟩ := S.j
    obtain ⟨rw', _, ew⟩ := S.w
    have ms : ds.map (·.w) = bs := by rw [S.ms, List.take_length]
    have cj : (jnames ds).length = L.jobs.length := by rw [jn_len, ms, pb.count_eq, List.count_append, List.count_replicate_self, List.count_replicate]; simp
    have cw : (wnames ds).length = L.walks.length := by rw [wn_len, ms, pb.count_eq, List.count_append, List.count_replicate_self, List.count_replicate]; simp
    have lj := congrArg List.length ej
    have lw := congrArg List.length ew
    rw [List.length_append, List.length_reverse] at lj lw
    rw [pJ.length_eq] at lj
    have zj : rj = [] := List.eq_nil_of_length_eq_zero (by omega)
    have zw : rw' = [] := List.eq_nil_of_length_eq_zero (by omega)
    subst zj zw
    have pw : (wnames ds).Perm L.walks := by rw [← ew]; exact (List.reverse_perm _).symm
    have pj2 : (jnames ds).Perm L.jobs := ((List.reverse_perm _).symm.trans (by rw [List.nil_append] at ej; rw [ej])).trans pJ
    exact ⟨_, rfl, q fl ds H' ⟨ok, S.df, pw, pj2⟩ S.bt S.hb h_fl S.fl⟩
end
end K8
set_option Elab.async false
set_option linter.all false
set_option maxRecDepth 100000
set_option maxHeartbeats 4000000
/-! The reader on the heap. -/
namespace K8
open PySem L2
/-- a class of the text: what its instances' attributes ask -/
structure OwnC (K : PySem.W.Frag) (C : Addr) (fs : List Str) : Prop where
  cl : Cls K C
  na : ∀ f ∈ fs, NoAttr K C f
abbrev fBlock : List Str := ["word", "at", "fields", "part", "rows", "later"]
abbrev fReader : List Str := ["told", "blocks", "gates", "begun", "deepest"]
inductive BK where
  | defn (w : Bool) (n : Str)
  | inn (b : Blk)
def BK.word : BK → Str
  | .defn w _ => dword w
  | .inn (.rep _) => "repeat"
  | .inn (.each _ _) => "each"
  | .inn _ => "guard"
def BK.part : BK → V
  | .inn .late => .str "late"
  | .inn .mend => .str "mend"
  | _ => .non
def BK.Fs : BK → List V → Prop
  | .defn _ n, fs => fs = [.str n]
  | .inn (.each w how), fs => ∃ t : V, Nm w ∧ fs = [.str w, .str how.word, t]
  | .inn _, fs => fs.length ≤ 3
theorem BK.Fs.len {k : BK} {fs : List V} (h : k.Fs fs) : fs.length ≤ 3 := by
  cases k with
  | defn w n => rw [show fs = [.str n] from h]; exact Nat.le_of_ble_eq_true rfl
  | inn b => cases b with
    | each w how => obtain ⟨t, _, e⟩ := (show ∃ t : V, Nm w ∧ fs = [.str w, .str how.word, t] from h); rw [e]; exact Nat.le_refl 3
    | _ => exact h
abbrev bIns (w : Str) (i : Int) (f : Addr) (p : V) (rwl lt : Addr) : List (Str × V) := [("word", .str w), ("at", .int i), ("fields", .ref f), ("part", p), ("rows", .ref rwl), ("later", .ref lt)]
abbrev rIns (tl bl gt bg : Addr) (d : Nat) : List (Str × V) := [("told", .ref tl), ("blocks", .ref bl), ("gates", .ref gt), ("begun", .ref bg), ("deepest", .int d)]
structure BlkAt (CB : Addr) (H0 H : Hp) (n : Nat) (bl bg : Addr) (k : BK) (b dx : Addr) (i : Int) (f rwl lt : Addr) (fs xs ys : List V) : Prop where
  e_b : H b = some (.ins CB dx (bIns k.word i f k.part rwl lt))
  e_f : H f = some (.tup fs)
  e_fs : k.Fs fs
  e_rwl : H rwl = some (.lst xs)
  e_xs : xs.length ≤ n
  e_lt : H lt = some (.lst ys)
  e_ys : ys.length ≤ n
  nrl : rwl ≠ bl
  nrg : rwl ≠ bg
  nll : lt ≠ bl
  nlg : lt ≠ bg
  fb : H0 b = none
  fr : H0 rwl = none
  fl : H0 lt = none
def BlkE (CB : Addr) (H0 H : Hp) (n : Nat) (bl bg : Addr) (k : BK) (b : Addr) : Prop := ∃ dx i f rwl lt fs xs ys, BlkAt CB H0 H n bl bg k b dx i f rwl lt fs xs ys
def bks (s : S) : List BK :=
  match s.cur with
  | none => []
  | some (w, n) => .defn w n :: s.inner.reverse.map .inn
structure RSt (CB CR : Addr) (H0 H : Hp) (r : Addr) (s : S) (n : Nat) (dx tl tw tj bl gt bg : Addr) (kw kj kg : List (Key × V)) (bas : List Addr) : Prop where
  sm : Same H0 H
  e_r : H r = some (.ins CR dx (rIns tl bl gt bg s.deepest))
  e_tl : H tl = some (.dK [(.inr "walk", .ref tw), (.inr "job", .ref tj)])
  e_tw : H tw = some (.dK kw)
  e_kw : kw.map (·.1) = s.walks.map .inr
  e_tj : H tj = some (.dK kj)
  e_kj : kj.map (·.1) = s.jobs.map .inr
  e_gt : H gt = some (.dK kg)
  e_kg : kg.map (·.1) = s.gates.map .inr
  e_bg : H bg = some (lstS s.begun)
  e_bl : H bl = some (.lst (bas.map V.ref))
  len : bas.length = (bks s).length
  bat : ∀ (j : Nat) (k : BK) (b : Addr), (bks s)[j]? = some k → bas[j]? = some b → BlkE CB H0 H n bl bg k b
  nd : bas.Nodup
  fr : H0 r = none
  fw : H0 tw = none
  fj : H0 tj = none
  fg : H0 gt = none
  fb : H0 bg = none
  fl : H0 bl = none
  n1 : tl ≠ tw
  n2 : tl ≠ tj
  n3 : tl ≠ gt
  n4 : tw ≠ tj
  n5 : tw ≠ gt
  n6 : tj ≠ gt
  n7 : bl ≠ bg
  cc : CB ≠ CR
  l1 : kw.length ≤ n
  l2 : kj.length ≤ n
  l3 : kg.length ≤ n
  l4 : s.begun.length ≤ n
  l5 : bas.length ≤ n
def RAt (CB CR : Addr) (H0 H : Hp) (r : Addr) (s : S) (n : Nat) : Prop := ∃ dx tl tw tj bl gt bg kw kj kg bas, RSt CB CR H0 H r s n dx tl tw tj bl gt bg kw kj kg bas
section
variable {CB CR : Addr} {H0 H0' H H' : Hp} {r : Addr} {s : S} {n : Nat} {dx tl tw tj bl gt bg : Addr} {kw kj kg : List (Key × V)} {bas : List Addr} {k : BK} {b f rwl lt db : Addr} {i : Int} {fs xs ys : List V}
theorem none_of (h : Same H0 H) {p : Addr} (e : H p = none) : H0 p = none := by
  cases q : H0 p with
  | none => rfl
  | some o => rw [h _ _ q] at e; cases e
theorem BlkAt.same (h : BlkAt CB H0 H n bl bg k b db i f rwl lt fs xs ys) (s : Same H H') : BlkAt CB H0 H' n bl bg k b db i f rwl lt fs xs ys :=
  { h with e_b := s _ _ h.e_b, e_f := s _ _ h.e_f, e_rwl := s _ _ h.e_rwl, e_lt := s _ _ h.e_lt }
theorem BlkAt.weak (h : BlkAt CB H0' H n bl bg k b db i f rwl lt fs xs ys) (w : Same H0 H0') : BlkAt CB H0 H n bl bg k b db i f rwl lt fs xs ys :=
  { h with fb := none_of w h.fb, fr := none_of w h.fr, fl := none_of w h.fl }
theorem BlkAt.more (h : BlkAt CB H0 H n bl bg k b db i f rwl lt fs xs ys) : BlkAt CB H0 H (n + 1) bl bg k b db i f rwl lt fs xs ys :=
  { h with e_xs := Nat.le_succ_of_le h.e_xs, e_ys := Nat.le_succ_of_le h.e_ys }
/-- what was written is none of the block's places -/
theorem BlkAt.oth {p : Addr} {o u : HO} (h : BlkAt CB H0 H n bl bg k b db i f rwl lt fs xs ys) (e : H p = some u) (nb : p ≠ b) (nt : ∀ l, u ≠ .tup l) (nl : (∀ l, u ≠ .lst l) ∨ p = bl ∨ p = bg) : BlkAt CB H0 (upd H p o) n bl bg k b db i f rwl lt fs xs ys :=
  have ne : ∀ {q : Addr} {l : List V}, H q = some (.lst l) → q ≠ bl → q ≠ bg → q ≠ p := fun {q l} hq n1 n2 z => by
    rcases nl with nl | nl | nl
    · rw [z, e] at hq; injection hq with hq; exact nl l hq
    · exact n1 (z.trans nl)
    · exact n2 (z.trans nl)
  { h with e_b := ku h.e_b nb.symm, e_f := ku h.e_f (fun z => by have q := h.e_f; rw [z, e] at q; injection q with q; exact nt _ q), e_rwl := ku h.e_rwl (ne h.e_rwl h.nrl h.nrg), e_lt := ku h.e_lt (ne h.e_lt h.nll h.nlg) }
theorem BlkE.same (h : BlkE CB H0 H n bl bg k b) (s : Same H H') : BlkE CB H0 H' n bl bg k b :=
  let ⟨_, _, _, _, _, _, _, _, q⟩ := h
  ⟨_, _, _, _, _, _, _, _, q.same s⟩
theorem BlkE.weak (h : BlkE CB H0' H n bl bg k b) (s : Same H0 H0') : BlkE CB H0 H n bl bg k b :=
  let ⟨_, _, _, _, _, _, _, _, q⟩ := h
  ⟨_, _, _, _, _, _, _, _, q.weak s⟩
theorem BlkE.more (h : BlkE CB H0 H n bl bg k b) : BlkE CB H0 H (n + 1) bl bg k b :=
  let ⟨_, _, _, _, _, _, _, _, q⟩ := h
  ⟨_, _, _, _, _, _, _, _, q.more⟩
theorem BlkE.oth {p : Addr} {o u : HO} (h : BlkE CB H0 H n bl bg k b) (e : H p = some u) (nb : p ≠ b) (nt : ∀ l, u ≠ .tup l) (nl : (∀ l, u ≠ .lst l) ∨ p = bl ∨ p = bg) : BlkE CB H0 (upd H p o) n bl bg k b :=
  let ⟨_, _, _, _, _, _, _, _, q⟩ := h
  ⟨_, _, _, _, _, _, _, _, q.oth e nb nt nl⟩
/-- a row is laid into a list that is no list of the reader's own -/
theorem BlkE.row {p : Addr} {zs : List V} {v : V} (h : BlkE CB H0 H n bl bg k b) (e : H p = some (.lst zs)) (l : zs.length ≤ n) : BlkE CB H0 (upd H p (.lst (zs ++ [v]))) (n + 1) bl bg k b := by
  obtain ⟨dx, i, f, rwl, lt, fs, xs, ys, h⟩ := h
  have hb : b ≠ p := fun z => by have q := h.e_b; rw [z, e] at q; cases q
  have hf : f ≠ p := fun z => by have q := h.e_f; rw [z, e] at q; cases q
  have go : ∀ {q : Addr} {l : List V}, H q = some (.lst l) → l.length ≤ n → ∃ l', upd H p (.lst (zs ++ [v])) q = some (.lst l') ∧ l'.length ≤ n + 1 := fun {q l'} hq hl => by
    by_cases z : q = p
    · exact ⟨_, by rw [z]; exact upd_same, by rw [List.length_append, List.length_singleton]; omega⟩
    · exact ⟨l', ku hq z, by omega⟩
  obtain ⟨x', e1, l1⟩ := go h.e_rwl h.e_xs
  obtain ⟨y', e2, l2⟩ := go h.e_lt h.e_ys
  exact ⟨dx, i, f, rwl, lt, fs, x', y', { h with e_b := ku h.e_b hb, e_f := ku h.e_f hf, e_rwl := e1, e_xs := l1, e_lt := e2, e_ys := l2 }⟩
theorem RSt.same (h : RSt CB CR H0 H r s n dx tl tw tj bl gt bg kw kj kg bas) (q : Same H H') : RSt CB CR H0 H' r s n dx tl tw tj bl gt bg kw kj kg bas :=
  { h with sm := h.sm.trans q, e_r := q _ _ h.e_r, e_tl := q _ _ h.e_tl, e_tw := q _ _ h.e_tw, e_tj := q _ _ h.e_tj, e_gt := q _ _ h.e_gt, e_bg := q _ _ h.e_bg, e_bl := q _ _ h.e_bl, bat := fun j k b e1 e2 => (h.bat j k b e1 e2).same q }
theorem RSt.weak (h : RSt CB CR H0' H r s n dx tl tw tj bl gt bg kw kj kg bas) (w : Same H0 H0') : RSt CB CR H0 H r s n dx tl tw tj bl gt bg kw kj kg bas :=
  { h with sm := w.trans h.sm, fr := none_of w h.fr, fw := none_of w h.fw, fj := none_of w h.fj, fg := none_of w h.fg, fb := none_of w h.fb, fl := none_of w h.fl, bat := fun j k b e1 e2 => (h.bat j k b e1 e2).weak w }
theorem RSt.at (h : RSt CB CR H0 H r s n dx tl tw tj bl gt bg kw kj kg bas) : RAt CB CR H0 H r s n := ⟨dx, tl, tw, tj, bl, gt, bg, kw, kj, kg, bas, h⟩
theorem RAt.same (h : RAt CB CR H0 H r s n) (q : Same H H') : RAt CB CR H0 H' r s n :=
  let ⟨_, _, _, _, _, _, _, _, _, _, _, h⟩ := h
  (h.same q).at
theorem RAt.weak (h : RAt CB CR H0' H r s n) (w : Same H0 H0') : RAt CB CR H0 H r s n :=
  let ⟨_, _, _, _, _, _, _, _, _, _, _, h⟩ := h
  (h.weak w).at
theorem RAt.sm (h : RAt CB CR H0 H r s n) : Same H0 H :=
  let ⟨_, _, _, _, _, _, _, _, _, _, _, h⟩ := h
  h.sm
theorem BlkAt.ext (h : BlkAt CB H0 H n bl bg k b db i f rwl lt fs xs ys) {p : Addr} {o : HO} (e : H p = none) : BlkAt CB (upd H0 p o) H n bl bg k b db i f rwl lt fs xs ys :=
  have nn : ∀ {q : Addr} {u : HO}, H q = some u → H0 q = none → upd H0 p o q = none := fun {q u} hq h0 => by rw [upd_ne (ne_of_none hq e)]; exact h0
  { h with fb := nn h.e_b h.fb, fr := nn h.e_rwl h.fr, fl := nn h.e_lt h.fl }
/-- a new thing is laid: it is none of the reader's -/
theorem RSt.ext (h : RSt CB CR H0 H r s n dx tl tw tj bl gt bg kw kj kg bas) {p : Addr} {o : HO} (e : H p = none) : RSt CB CR (upd H0 p o) (upd H p o) r s n dx tl tw tj bl gt bg kw kj kg bas :=
  have nn : ∀ {q : Addr} {u : HO}, H q = some u → H0 q = none → upd H0 p o q = none := fun {q u} hq h0 => by rw [upd_ne (ne_of_none hq e)]; exact h0
  have sm' : Same (upd H0 p o) (upd H p o) := fun c u q => by
    by_cases z : c = p
    · rw [z, upd_same] at q ⊢; exact q
    · rw [upd_ne z] at q ⊢; exact h.sm _ _ q
  have nw : Same H (upd H p o) := same_new (Same.refl H) e
  { h.same nw with sm := sm', fr := nn h.e_r h.fr, fw := nn h.e_tw h.fw, fj := nn h.e_tj h.fj, fg := nn h.e_gt h.fg, fb := nn h.e_bg h.fb, fl := nn h.e_bl h.fl, bat := fun j k b e1 e2 =>
      let ⟨_, _, _, _, _, _, _, _, z⟩ := h.bat j k b e1 e2
      ⟨_, _, _, _, _, _, _, _, (z.ext e).same nw⟩ }
theorem RAt.ext (h : RAt CB CR H0 H r s n) {p : Addr} {o : HO} (e : H p = none) : RAt CB CR (upd H0 p o) (upd H p o) r s n :=
  let ⟨_, _, _, _, _, _, _, _, _, _, _, h⟩ := h
  (h.ext e).at
theorem same_ext (h : H p = none) {o : HO} : Same H (upd H p o) := same_new (Same.refl H) h
/-! ### dict keys -/
theorem keys_mem {kvs : List (Key × V)} {ks : List Str} (h : kvs.map (·.1) = ks.map .inr) (x : Str) : (valV kvs (.inr x)).isSome = decide (x ∈ ks) := by
  rw [← valV_any]
  have e : (kvs.any fun kv => decide (kv.1 = .inr x)) = ((kvs.map (·.1)).any fun k => decide (k = .inr x)) := by rw [List.any_map]; rfl
  rw [e, h, List.any_map, Bool.eq_iff_iff, List.any_eq_true, decide_eq_true_eq]
  constructor
  · rintro ⟨y, hy, q⟩
    have q' : (Sum.inr y : Key) = .inr x := of_decide_eq_true q
    injection q' with q'
    rw [← q']; exact hy
  · exact fun hx => ⟨x, hx, decide_eq_true rfl⟩
theorem keys_put {kvs : List (Key × V)} {ks : List Str} (h : kvs.map (·.1) = ks.map .inr) (x : Str) (v : V) : (putK kvs (.inr x) v).map (·.1) = (addG ks x).map .inr := by
  have km := keys_mem h x
  unfold addG
  by_cases z : x ∈ ks
  · rw [if_pos z, ← h]
    rw [decide_eq_true z] at km
    unfold putK
    rw [valV_any, km]
    rw [if_pos rfl, List.map_map]
    refine List.map_congr_left fun p _ => ?_
    show (if p.1 = _ then (p.1, v) else p).1 = p.1
    split <;> rfl
  · rw [if_neg z]
    rw [decide_eq_false z] at km
    rw [putK_new v (Option.not_isSome_iff_eq_none.mp (by rw [km]; decide)), List.map_append, List.map_append, h]
    rfl
end
end K8
set_option Elab.async false
set_option linter.all false
set_option maxRecDepth 100000
set_option maxHeartbeats 4000000
/-! The walks of is_made_of, is_name, is_times (where they say yes). -/
namespace K8
open PySem L2
/-- over a text; the test and the element leave the heap -/
theorem lc_strG {wi : TI} {i : Nat} {tt : TT} {te : TE} {σ : L2.St} {H : Hp} {Q : VK} (z : Str) (p : Nat → Bool) (F : Nat → V) (hn : z.length ≤ 1000) (hi : ∀ R : It → Hp → Prop, R (Its z) H → wi σ H R) (hq : ∀ D, H D = none → Q (.ref D) (upd H D (.lst ((z.cps.toList.filter p).map F))))
    (ht : ∀ c (H' : Hp) (Q' : Bool → Hp → Prop), c ∈ z.cps.toList → Q' (p c) H' → tt ((σ.set i none).set i (some (.str ⟨#[c]⟩))) H' Q')
    (he : ∀ c (H' : Hp) (Q' : VK), c ∈ z.cps.toList → Q' (F c) H' → te ((σ.set i none).set i (some (.str ⟨#[c]⟩))) H' Q') : tLc wi (gName i) tt te [i] σ H Q := by
  refine hi _ fun D hD => ?_
  refine lc_it (walk_str (z := z)) (Qd := fun H' => Q (.ref D) H') (fun k H' => H' = upd H D (.lst (((z.cps.toList.take k).filter p).map F))) rfl (fun _ _ _ _ => trivial) (fun k x H1 H2 hk pv y => ?_) fun H' pv => by rw [pv, ← Array.length_toList, List.take_length]; exact hq D hD
  obtain ⟨rfl, c, hc, rfl⟩ := y
  subst pv
  rw [← Array.getElem?_toList] at hc
  have mem : c ∈ z.cps.toList := List.mem_of_getElem? hc
  have tk : z.cps.toList.take (k + 1) = z.cps.toList.take k ++ [c] := by rw [List.take_add_one, hc]; rfl
  refine ⟨wipe1 _ _ _, ht c _ _ mem ?_⟩
  cases hp : p c with
  | false =>
    refine iteF ?_
    rw [tk, List.filter_append, List.filter_cons_of_neg (by rw [hp]; decide), List.filter_nil, List.append_nil]
  | true =>
    refine iteT ?_
    refine he c _ _ mem ?_
    refine ⟨_, upd_same, ?_, ?_⟩
    · rw [List.length_map]
      refine small1000 (Nat.le_trans (List.length_filter_le _ _) ?_)
      rw [List.length_take]
      have : z.length = z.cps.toList.length := (Array.length_toList ..).symm
      omega
    · rw [upd_upd, tk, List.filter_append, List.filter_cons_of_pos hp, List.filter_nil, List.map_append]
      rfl
abbrev lowers : Str := "abcdefghijklmnopqrstuvwxyz"
theorem mem_small {c : Nat} (h : 97 ≤ c ∧ c ≤ 122) : c ∈ lowers.cps.toList := by
  have e : lowers.cps.toList = (List.range 26).map (97 + ·) := by decide +kernel
  rw [e, List.mem_map]
  exact ⟨c - 97, List.mem_range.mpr (by omega), by omega⟩
theorem dig_ok : ∀ x ∈ digs, 0 < x.length ∧ x.length ≤ 1 ∧ (∀ c ∈ x.cps.toList, c ∈ ("0123456789" : Str).cps.toList) ∧ x ≠ ("0" : Str) := by decide +kernel
theorem in_strs {x : Str} {l : List Str} : inV (.str x) (l.map V.str) = decide (x ∈ l) := by
  induction l with
  | nil => rfl
  | cons y ys ih =>
    have e : inV (.str x) ((y :: ys).map V.str) = (eqV (.str y) (.str x) || inV (.str x) (ys.map V.str)) := rfl
    rw [e, ih]
    show (y == x || decide (x ∈ ys)) = decide (x ∈ y :: ys)
    by_cases h : y = x
    · subst h; simp
    · have h' : ¬ x = y := fun z => h z.symm
      simp [h, h']
theorem not_lang {x : Str} (h : x ∉ lang) : (if true = true then !inV (.str x) (lang.map V.str) else inV (.str x) (lang.map V.str)) = true := by
  rw [in_strs, decide_eq_false h]; rfl
def KTup (K : PySem.W.Frag) (p : Addr) (xs : List V) : Prop := ∀ H : Hp, SqT K H p xs
section
variable {P : Program} {w : World} {K : PySem.W.Frag} {mg : Str → Option Value} {base : Heap} {f : Addr} {fd : FuncData}
abbrev sMade : Stmt := top 6
abbrev sName : Stmt := top 7
abbrev sTimes : Stmt := top 8
theorem scMade : FnScope ["value", "signs", "most", "sign"] ["value", "signs", "most"] (defScope sMade) := ⟨rfl, rfl, rfl, by decide +kernel, rfl, by decide +kernel, by decide +kernel⟩
theorem scName : FnScope ["value"] ["value"] (defScope sName) := ⟨rfl, rfl, rfl, by decide +kernel, rfl, by decide +kernel, by decide +kernel⟩
theorem scTimes : FnScope ["value"] ["value"] (defScope sTimes) := ⟨rfl, rfl, rfl, by decide +kernel, rfl, by decide +kernel, by decide +kernel⟩
def spMade : Sp := fun vs H Q _ => ∃ (x z : Str) (m : Nat), vs = [.str x, .str z, .int m] ∧ 0 < x.length ∧ x.length ≤ m ∧ m ≤ 8 ∧ (∀ c ∈ x.cps.toList, c ∈ z.cps.toList) ∧ ∀ H', Same H H' → Q (.bl true) H'
theorem ok_made (F : Fun K "is_made_of" "is_made_of" sMade f fd) (m_isinstance : mg "isinstance" = none) (m_str : mg "str" = none) (m_len : mg "len" = none) (m_all : mg "all" = none) : FnOk P w K mg base CX0 1 f fd ["value", "signs", "most"] spMade := by
  refine F.ok scMade (fun vs H Q E h => ?_) (fun cdv A outer s H vs Q E hr h => ?_)
  · obtain ⟨x, z, m, rfl, _⟩ := h
    rfl
  obtain ⟨x, z, m, rfl, h0, h1, hm, hc, q⟩ := h
  have nd := scMade.nd
  refine ⟨_, (pss_one (ps_ret (pe_and (pe_callB call_isi (by rfl) m_isinstance (by decide +kernel) (pa_cons (pv 0) (pa_cons (pe_bltn (v := .ty "str") rfl m_str (by decide +kernel) rfl) pa_nil))) (pe_and (pe_chain op_lt op_le pe_int (pe_callB call_len_str (by rfl) m_len (by decide +kernel) (pa_cons (pv 0) pa_nil)) (pv 2)) (pe_one (pe_callB (cr_all rfl) (by rfl) m_all (by decide +kernel) (pa_cons (pe_lc  (own := [("sign", 3)]) (g := gName 3) (tt := tYes) rfl nd (pi_str (pv 0)) (blkOk_by (own := [("sign", 3)]) (N := ["value", "signs", "most", "sign"]) (sc := defScope (top 6)) (by decide +kernel)) (fun _ _ _ _ _ => (pg_name (i := 3) nd rfl (.inl rfl))) (fun _ _ _ _ _ => pts_nil) (fun _ _ _ _ _ => (pe_cmpR op_in_sign (pv 3) (pv 1) (by rfl)))) pa_nil))))))), ?_⟩
  refine ⟨_, rfl, .str x, .ty "str", .type "str", .type "str", true, rfl, .ty _, .base (.str x), by unfold PySem.W.kitOne; exact if_pos rfl, true, rfl, ?_⟩
  refine iteT ⟨_, rfl, x, rfl, Nat.le_of_lt (small1000 (n := x.length) (by omega)), 0, (x.length : Int), rfl, rfl, _, rfl, ?_⟩
  rw [decide_eq_true (show (0 : Int) < (x.length : Int) by omega)]
  refine iteT ⟨_, rfl, (x.length : Int), (m : Int), rfl, rfl, _, rfl, ?_⟩
  rw [decide_eq_true (show (x.length : Int) ≤ (m : Int) by omega)]
  refine iteT ?_
  unfold tCB tCons tNil
  dsimp only [List.map]
  refine lc_strG x (fun _ => true) (fun _ => .bl true) (by omega) (fun R hR => ⟨_, rfl, x, rfl, hR⟩) (fun D nD => ?_) (fun c H' Q' _ q' => q') (fun c H' Q' hc' q' => ?_)
  · refine ⟨D, x.cps.toList.map fun _ => true, rfl, ?_, ?_⟩
    · rw [List.map_map, List.filter_eq_self.mpr (fun _ _ => rfl)]
      exact SqL.of upd_same
    · rw [show (x.cps.toList.map fun _ => true).all id = true by simp]
      exact q _ (same_ext nD)
  · refine ⟨_, rfl, _, rfl, c, z, rfl, rfl, ?_⟩
    rw [decide_eq_true (hc c hc')]
    exact q'
def spName : Sp := fun vs H Q _ => ∃ x : Str, vs = [.str x] ∧ Nm x ∧ ∀ H', Same H H' → Q (.bl true) H'
theorem ok_name {pl : Addr} (F : Fun K "is_name" "is_name" sName f fd) (c_is_made_of : C8.Cal P w K mg base 1 "is_made_of" spMade []) (g_SMALL : ∃ u, mg "SMALL" = some u ∧ RelV (.str lowers) u) (g_LANGUAGE : ∃ u, mg "LANGUAGE" = some u ∧ RelV (.ref pl) u) (hl : KTup K pl (lang.map V.str)) : FnOk P w K mg base CX0 2 f fd ["value"] spName := by
  refine F.ok scName (fun vs H Q E h => ?_) (fun cdv A outer s H vs Q E hr h => ?_)
  · obtain ⟨x, rfl, _⟩ := h
    rfl
  obtain ⟨x, rfl, nm, q⟩ := h
  have nd := scName.nd
  refine ⟨_, (pss_one (ps_ret (pe_and (C8.pe_c c_is_made_of hr (by omega) rfl (pa_cons (pv 0) (pa_cons (C8.pe_gc rfl g_SMALL) (pa_cons pe_int pa_nil)))) (pe_one (pe_cmpR op_notIn_seq (pv 0) (C8.pe_gc rfl g_LANGUAGE) (by rfl)))))), ?_⟩
  refine ⟨_, rfl, x, lowers, 8, rfl, nm.pos, nm.le, by decide, fun c hc => ?_, fun H1 s1 => ⟨true, rfl, iteT ?_⟩⟩
  · exact mem_small (nm.low c hc)
  refine ⟨_, rfl, pl, lang.map V.str, rfl, .inr (hl H1), rfl, by decide, ?_⟩
  rw [not_lang nm.out]
  exact q H1 s1
def spTimes : Sp := fun vs H Q _ => ∃ x : Str, vs = [.str x] ∧ x ∈ digs ∧ ∀ H', Same H H' → Q (.bl true) H'
theorem ok_times' (F : Fun K "is_times" "is_times" sTimes f fd) (c_is_made_of : C8.Cal P w K mg base 1 "is_made_of" spMade []) (g_DIGITS : ∃ u, mg "DIGITS" = some u ∧ RelV (.str "0123456789") u) : FnOk P w K mg base CX0 2 f fd ["value"] spTimes := by
  refine F.ok scTimes (fun vs H Q E h => ?_) (fun cdv A outer s H vs Q E hr h => ?_)
  · obtain ⟨x, rfl, _⟩ := h
    rfl
  obtain ⟨x, rfl, hx, q⟩ := h
  have nd := scTimes.nd
  refine ⟨_, (pss_one (ps_ret (pe_and (C8.pe_c c_is_made_of hr (by omega) rfl (pa_cons (pv 0) (pa_cons (C8.pe_gc rfl g_DIGITS) (pa_cons pe_int pa_nil)))) (pe_one (pe_cmpR op_ne (pv 0) pe_str (nomark _)))))), ?_⟩
  refine ⟨_, rfl, x, "0123456789", 1, rfl, (dig_ok x hx).1, (dig_ok x hx).2.1, by decide, (dig_ok x hx).2.2.1, fun H1 s1 => ⟨true, rfl, iteT ?_⟩⟩
  refine ⟨_, rfl, rfl, ?_⟩
  rw [decide_eq_false (fun z => (dig_ok x hx).2.2.2 (V.str.inj z))]
  exact q H1 s1
end
end K8
set_option Elab.async false
set_option linter.all false
set_option maxRecDepth 100000
set_option maxHeartbeats 4000000
/-! The walks of Block. -/
namespace K8
open PySem L2
def isG : BK → Bool
  | .inn .guard => true
  | _ => false
def isK (x : Str) : BK → Bool
  | .inn (.each w .kept) => decide (w = x)
  | _ => false
theorem word_guard {k : BK} (h : k.word = "guard") : decide (k.part = V.non) = isG k := by
  cases k with
  | defn w n => cases w <;> first | exact absurd (show ("walk" : Str) = "guard" from h) (by decide) | exact absurd (show ("job" : Str) = "guard" from h) (by decide)
  | inn b => cases b <;> first | exact absurd (show ("repeat" : Str) = "guard" from h) (by decide) | exact absurd (show ("each" : Str) = "guard" from h) (by decide) | decide
theorem not_guard {k : BK} (h : k.word ≠ "guard") : isG k = false := by
  cases k with
  | defn w n => rfl
  | inn b => cases b <;> first | rfl | exact absurd rfl h
theorem word_each {k : BK} (h : k.word = "each") : ∃ x how, k = .inn (.each x how) := by
  cases k with
  | defn w n => cases w <;> first | exact absurd (show ("walk" : Str) = "each" from h) (by decide) | exact absurd (show ("job" : Str) = "each" from h) (by decide)
  | inn b => cases b <;> first | exact ⟨_, _, rfl⟩ | exact absurd (show ("repeat" : Str) = "each" from h) (by decide) | exact absurd (show ("guard" : Str) = "each" from h) (by decide)
theorem not_each {x : Str} {k : BK} (h : k.word ≠ "each") : isK x k = false := by
  cases k with
  | defn w n => rfl
  | inn b => cases b <;> first | rfl | exact absurd rfl h
theorem strOk_nm {x : Str} (h : Nm x) : PyData.strOk x = true := by
  unfold PyData.strOk
  rw [← Array.all_toList, List.all_eq_true]
  exact fun c hc => decide_eq_true (Nat.lt_of_le_of_lt (h.low c hc).2 (by decide))
theorem strOk_how (h : How) : PyData.strOk h.word = true := by cases h <;> decide +kernel
theorem shaped2 {x y : Str} (hx : PyData.strOk x = true) (hy : PyData.strOk y = true) : SeqAt.shaped (.tuple [.str x, .str y]) = true := by
  unfold SeqAt.shaped
  rw [Bool.and_eq_true]
  exact ⟨by simp [PyData.canLay0, PyData.canLayAll0, hx, hy], by simp [PyData.depth, PyData.depthAll]⟩
theorem eqv_each (wk : Str) (how : How) (x : Str) : PyData.eqv (.tuple [.str wk, .str how.word]) (.tuple [.str x, .str "kept"]) = isK x (.inn (.each wk how)) := by
  show ((wk == x) && ((how.word == "kept") && true)) = _
  cases how with
  | kept => rw [show (How.kept.word == "kept") = true from by decide, Bool.and_true, Bool.and_true]; rfl
  | closed => rw [show (How.closed.word == "kept") = false from by decide, Bool.false_and, Bool.and_false]; rfl
  | dropped => rw [show (How.dropped.word == "kept") = false from by decide, Bool.false_and, Bool.and_false]; rfl
section
variable {P : Program} {w : World} {K : PySem.W.Frag} {mg : Str → Option Value} {base : Heap} {f : Addr} {fd : FuncData} {CB : Addr}
abbrev sBinit : Stmt := cls 17 0
abbrev sBadd : Stmt := cls 17 1
abbrev sBis : Stmt := cls 17 2
abbrev sBkeeps : Stmt := cls 17 3
abbrev sBmade : Stmt := cls 17 4
theorem scBinit : FnScope ["self", "word", "at", "fields"] ["self", "word", "at", "fields"] (defScope sBinit) := ⟨rfl, rfl, rfl, by decide +kernel, rfl, by decide +kernel, by decide +kernel⟩
theorem scBadd : FnScope ["self", "row", "into"] ["self", "row"] (defScope sBadd) := ⟨rfl, rfl, rfl, by decide +kernel, rfl, by decide +kernel, by decide +kernel⟩
theorem scBis : FnScope ["self"] ["self"] (defScope sBis) := ⟨rfl, rfl, rfl, by decide +kernel, rfl, by decide +kernel, by decide +kernel⟩
theorem scBkeeps : FnScope ["self", "walk"] ["self", "walk"] (defScope sBkeeps) := ⟨rfl, rfl, rfl, by decide +kernel, rfl, by decide +kernel, by decide +kernel⟩
theorem scBmade : FnScope ["self"] ["self"] (defScope sBmade) := ⟨rfl, rfl, rfl, by decide +kernel, rfl, by decide +kernel, by decide +kernel⟩
/-- Block(word, at, ..): what stands behind it -/
def spBinit (CB : Addr) : Sp := fun vs H Q _ => ∃ (x dx : Addr) (wd : Str) (i : Int) (rest : List V), vs = .ref x :: .str wd :: .int i :: rest ∧ rest.length ≤ 3 ∧ H x = some (.ins CB dx []) ∧
  ∀ (H' : Hp) (p l1 l2 : Addr), But [x] H H' → H' x = some (.ins CB dx (bIns wd i p .non l1 l2)) → H' p = some (.tup rest) → H' l1 = some (.lst []) → H' l2 = some (.lst []) → H l1 = none → H l2 = none → Q .non H'
theorem ok_binit (O : OwnC K CB fBlock) (F : Fun K "__init__" "Block.__init__" sBinit f fd) : FnR P w K mg base CX0 1 f (spBinit CB) := by
  obtain ⟨oc, od, kV, doc, pm, an, cdv, ct, osl, rfl, lk, hcd⟩ := F.ex
  have key := StX.fn_star (P := P) (w := w) (mg := mg) (base := base) (k := 0) (CX := CX0) (ps := ["self", "word", "at"]) (pv := "fields") (N := ["self", "word", "at", "fields"])
    (sp := fun vs H Q _ => ∃ (x dx : Addr) (wd : Str) (i : Int) (p : Addr) (rest : List V), vs = [.ref x, .str wd, .int i, .ref p] ∧ H x = some (.ins CB dx []) ∧ H p = some (.tup rest) ∧
      ∀ (H' : Hp) (l1 l2 : Addr), But [x] H H' → H' x = some (.ins CB dx (bIns wd i p .non l1 l2)) → H' l1 = some (.lst []) → H' l2 = some (.lst []) → H l1 = none → H l2 = none → Q .non H')
    lk hcd scBinit StX.cxUp_none (fun us rest h => match us, h with | [a, b, c], _ => ?_) (fun A outer s H vs Q E hr h => ?_)
  · intro A outer s H us vs Q E hr e0 r ⟨x, dx, wd, i, rest, ev, hl, hx, q⟩
    refine key A outer s H us vs Q E hr e0 r ⟨[.ref x, .str wd, .int i], rest, ev, rfl, by rw [sizeLine_eq]; omega, fun p np => ⟨x, dx, wd, i, p, rest, rfl, kn hx np, upd_same, fun H' l1 l2 b e1 e2 e3 n1' n2' => ?_⟩⟩
    refine q H' p l1 l2 (fun c o hc hn => b c o (kn hc np) hn) e1 (b p _ upd_same (n1 (ne_of_none hx np).symm)) e2 e3 (fr n1').1 (fr n2').1
  · cases rest with
    | nil => rfl
    | cons d r => rfl
  · obtain ⟨x, dx, wd, i, p, rest, rfl, hx, hp, q⟩ := h
    have nd := scBinit.nd
    refine ⟨_, (PSs.nox (pss_cons (ps_fld (pv 0) (pv 1) rfl)
    (pss_cons (ps_fld (pv 0) (pv 2) rfl)
    (pss_cons (ps_fld (pv 0) (pv 3) rfl)
    (pss_cons (ps_fld (pv 0) pe_non rfl)
    (pss_cons (ps_fld (pv 0) (pe_lst pa_nil) rfl)
    (pss_one (ps_fld (pv 0) (pe_lst pa_nil) rfl)))))))), ?_⟩
    have na := fun g hg => O.na g hg
    refine ⟨_, rfl, _, rfl, x, CB, dx, _, rfl, hx, O.cl, O.na "word" (by decide), by decide, ?_⟩
    refine ⟨_, rfl, _, rfl, x, CB, dx, _, rfl, upd_same, O.cl, O.na "at" (by decide), (by show 1 < 1000; decide), ?_⟩
    refine ⟨_, rfl, _, rfl, x, CB, dx, _, rfl, upd_same, O.cl, O.na "fields" (by decide), (by show 2 < 1000; decide), ?_⟩
    refine ⟨_, rfl, x, CB, dx, _, rfl, upd_same, O.cl, O.na "part" (by decide), (by show 3 < 1000; decide), ?_⟩
    rw [upd_upd, upd_upd, upd_upd]
    refine ⟨by decide, fun l1 nl1 => ⟨_, rfl, x, CB, dx, _, rfl, kn upd_same nl1, O.cl, O.na "rows" (by decide), (by show 4 < 1000; decide), ?_⟩⟩
    refine ⟨by decide, fun l2 nl2 => ⟨_, rfl, x, CB, dx, _, rfl, kn upd_same nl2, O.cl, O.na "later" (by decide), (by show 5 < 1000; decide), ?_⟩⟩
    have a1 := fr nl1
    have a2 := fr nl2
    have a3 := fr a2.1
    have a4 := fr a3.1
    refine q _ l1 l2 ((((((But.refl (as := [x])).put m1).new nl1).put m1).new nl2).put m1) upd_same ?_ ?_ a1.1 a4.1
    · exact ku (kn (ku upd_same a1.2) nl2) a1.2
    · exact ku upd_same a2.2
def spBadd (CB : Addr) : Sp := fun vs H Q _ => ∃ (H0 : Hp) (n : Nat) (bl bg : Addr) (k : BK) (b dx : Addr) (i : Int) (pf rl lt : Addr) (fs xs ys : List V) (v : V), vs = [.ref b, v] ∧ BlkAt CB H0 H n bl bg k b dx i pf rl lt fs xs ys ∧ n ≤ 300 ∧
  ∀ (q : Addr) (zs : List V), H q = some (.lst zs) → zs.length ≤ n → q ≠ bl → q ≠ bg → H0 q = none → Q .non (upd H q (.lst (zs ++ [v])))
theorem ok_badd (O : OwnC K CB fBlock) (F : Fun K "add" "Block.add" sBadd f fd) : FnOk P w K mg base CX0 1 f fd ["self", "row"] (spBadd CB) := by
  refine F.ok scBadd (fun vs H Q E h => ?_) (fun cdv A outer s H vs Q E hr h => ?_)
  · obtain ⟨_, _, _, _, _, _, _, _, _, _, _, _, _, _, _, rfl, _⟩ := h
    rfl
  obtain ⟨H0, n, bl, bg, k, b, dx, i, pf, rl, lt, fs, xs, ys, v, rfl, B, hn, q⟩ := h
  have nd := scBadd.nd
  refine ⟨_, (pss_cons (ps_set (i := 2) nd rfl (.inl rfl) (pe_ifExp (pt_cmpR op_isN (pe_fld (pv 0) rfl) pe_non (nomark _)) (pe_fld (pv 0) rfl) (pe_fld (pv 0) rfl)))
    (pss_one (ps_expr (pe_bm PySem.F.plainAttrs_list PySem.F.slot_list_append PySem.F.type_list_append mt_append (pv 2) (pa_cons (pv 1) pa_nil))))), ?_⟩
  have l300 : ∀ {zs : List V}, zs.length ≤ n → zs.length < sizeLine := fun h => small1000 (by omega)
  refine ⟨_, rfl, b, CB, dx, _, _, rfl, B.e_b, O.cl, O.na _ (by decide), rfl, rfl, ?_⟩
  by_cases z : k.part = V.non
  · rw [decide_eq_true z]
    refine ⟨_, rfl, iteT ⟨_, rfl, b, CB, dx, _, _, rfl, B.e_b, O.cl, O.na _ (by decide), rfl, ?_⟩⟩
    refine ⟨_, rfl, .inl ⟨rfl, _, SqL.of B.e_rwl⟩, _, rfl, rl, xs, v, rfl, rfl, B.e_rwl, l300 B.e_xs, ?_⟩
    exact q rl xs B.e_rwl B.e_xs B.nrl B.nrg B.fr
  · rw [decide_eq_false z]
    refine ⟨_, rfl, iteF ⟨_, rfl, b, CB, dx, _, _, rfl, B.e_b, O.cl, O.na _ (by decide), rfl, ?_⟩⟩
    refine ⟨_, rfl, .inl ⟨rfl, _, SqL.of B.e_lt⟩, _, rfl, lt, ys, v, rfl, rfl, B.e_lt, l300 B.e_ys, ?_⟩
    exact q lt ys B.e_lt B.e_ys B.nll B.nlg B.fl
/-- does the block stand ahead of its late or mend -/
def spBis (CB : Addr) : Sp := fun vs H Q _ => ∃ (H0 : Hp) (n : Nat) (bl bg : Addr) (k : BK) (b dx : Addr) (i : Int) (pf rl lt : Addr) (fs xs ys : List V), vs = [.ref b] ∧ BlkAt CB H0 H n bl bg k b dx i pf rl lt fs xs ys ∧ Q (.bl (isG k)) H
theorem ok_bis (O : OwnC K CB fBlock) (F : Fun K "is_guarding" "Block.is_guarding" sBis f fd) : FnOk P w K mg base CX0 1 f fd ["self"] (spBis CB) := by
  refine F.ok scBis (fun vs H Q E h => ?_) (fun cdv A outer s H vs Q E hr h => ?_)
  · obtain ⟨_, _, _, _, _, _, _, _, _, _, _, _, _, _, rfl, _⟩ := h
    rfl
  obtain ⟨H0, n, bl, bg, k, b, dx, i, pf, rl, lt, fs, xs, ys, rfl, B, q⟩ := h
  have nd := scBis.nd
  refine ⟨_, (pss_one (ps_ret (pe_and (pe_cmpR op_eq (pe_fld (pv 0) rfl) pe_str (nomark _)) (pe_one (pe_cmpR op_isN (pe_fld (pv 0) rfl) pe_non (nomark _)))))), ?_⟩
  refine ⟨_, rfl, b, CB, dx, _, _, rfl, B.e_b, O.cl, O.na _ (by decide), rfl, rfl, _, rfl, ?_⟩
  by_cases z : k.word = "guard"
  · rw [decide_eq_true (congrArg V.str z)]
    refine iteT ⟨_, rfl, b, CB, dx, _, _, rfl, B.e_b, O.cl, O.na _ (by decide), rfl, rfl, ?_⟩
    rw [show decide (k.part = V.non) = isG k from word_guard z]
    exact q
  · rw [decide_eq_false (fun y => z (V.str.inj y))]
    refine iteF ?_
    rw [← show isG k = false from not_guard z]
    exact q
def spBkeeps (CB : Addr) : Sp := fun vs H Q _ => ∃ (H0 : Hp) (n : Nat) (bl bg : Addr) (k : BK) (b dx : Addr) (i : Int) (pf rl lt : Addr) (fs xs ys : List V) (x : Str), vs = [.ref b, .str x] ∧ Nm x ∧ BlkAt CB H0 H n bl bg k b dx i pf rl lt fs xs ys ∧ ∀ H', Same H H' → Q (.bl (isK x k)) H'
theorem ok_bkeeps (O : OwnC K CB fBlock) (F : Fun K "keeps" "Block.keeps" sBkeeps f fd) : FnOk P w K mg base CX0 1 f fd ["self", "walk"] (spBkeeps CB) := by
  refine F.ok scBkeeps (fun vs H Q E h => ?_) (fun cdv A outer s H vs Q E hr h => ?_)
  · obtain ⟨_, _, _, _, _, _, _, _, _, _, _, _, _, _, _, rfl, _⟩ := h
    rfl
  obtain ⟨H0, n, bl, bg, k, b, dx, i, pf, rl, lt, fs, xs, ys, x, rfl, hx, B, q⟩ := h
  have nd := scBkeeps.nd
  refine ⟨_, (pss_one (ps_ret (pe_and (pe_cmpR op_eq (pe_fld (pv 0) rfl) pe_str (nomark _)) (pe_one (pe_cmpR (op_eqD hr.units) (pe_slice sl_tupA (pe_fld (pv 0) rfl) po_none (po_some pe_int)) (pe_tup (pa_cons (pv 1) (pa_cons pe_str pa_nil))) (nomark _)))))), ?_⟩
  refine ⟨_, rfl, b, CB, dx, _, _, rfl, B.e_b, O.cl, O.na _ (by decide), rfl, rfl, _, rfl, ?_⟩
  by_cases z : k.word = "each"
  · rw [decide_eq_true (congrArg V.str z)]
    obtain ⟨wk, how, rfl⟩ := word_each z
    obtain ⟨t, nw, rfl⟩ := B.e_fs
    refine iteT ⟨_, rfl, b, CB, dx, _, _, rfl, B.e_b, O.cl, O.na _ (by decide), rfl, ?_⟩
    refine ⟨2, rfl, pf, _, rfl, SqT.of B.e_f, fun zz => absurd (show HT.sIx 3 3 (some 2) = 3 from zz.2) (by decide), fun _ p np => ?_⟩
    refine ⟨_, rfl, by show 2 ≤ sizeLine; decide, fun p2 np2 => ⟨.tuple [.str wk, .str how.word], .tuple [.str x, .str "kept"], .tup (SqT.of (kn upd_same np2)) ?_, .tup (SqT.of upd_same) (.cons (.str x) (.cons (.str _) .nil)), shaped2 (strOk_nm nw) (strOk_how how), shaped2 (strOk_nm hx) (strOk_how .kept), ?_⟩⟩
    · exact .cons (.str wk) (.cons (.str _) .nil)
    · rw [eqv_each wk how x]
      exact q _ ((same_ext np).trans (same_ext np2))
  · rw [decide_eq_false (fun y => z (V.str.inj y))]
    refine iteF ?_
    rw [← show isK x k = false from not_each z]
    exact q H (Same.refl H)
/-- a made row: any value -/
def spBmade (CB : Addr) : Sp := fun vs H Q _ => ∃ (H0 : Hp) (n : Nat) (bl bg : Addr) (k : BK) (b dx : Addr) (i : Int) (pf rl lt : Addr) (fs xs ys : List V), vs = [.ref b] ∧ BlkAt CB H0 H n bl bg k b dx i pf rl lt fs xs ys ∧ n ≤ 300 ∧ ∀ v H', Same H H' → Q v H'
theorem ok_bmade (O : OwnC K CB fBlock) (F : Fun K "made" "Block.made" sBmade f fd) (m_tuple : mg "tuple" = none) : FnOk P w K mg base CX0 1 f fd ["self"] (spBmade CB) := by
  refine F.ok scBmade (fun vs H Q E h => ?_) (fun cdv A outer s H vs Q E hr h => ?_)
  · obtain ⟨_, _, _, _, _, _, _, _, _, _, _, _, _, _, rfl, _⟩ := h
    rfl
  obtain ⟨H0, n, bl, bg, k, b, dx, i, pf, rl, lt, fs, xs, ys, rfl, B, hn, q⟩ := h
  have nd := scBmade.nd
  refine ⟨_, (pss_cons (ps_if (pt_cmpR op_eq (pe_fld (pv 0) rfl) pe_str (nomark _)) (pss_one (ps_ret (pe_tup (pa_cons pe_str (pa_cons (pe_fld (pv 0) rfl) (pa_cons (pe_callTy call_tuple_of (by rfl) m_tuple (by decide +kernel) (pa_cons (pe_fld (pv 0) rfl) pa_nil)) (pa_cons (pe_fld (pv 0) rfl) (pa_cons (pe_callTy call_tuple_of (by rfl) m_tuple (by decide +kernel) (pa_cons (pe_fld (pv 0) rfl) pa_nil)) pa_nil)))))))) pss_nil)
    (pss_one (ps_ret (pe_tup (pa_cons (pe_fld (pv 0) rfl) (pa_cons (pe_fld (pv 0) rfl) (StX.pa_star (pe_fld (pv 0) rfl) (pa_cons (pe_callTy call_tuple_of (by rfl) m_tuple (by decide +kernel) (pa_cons (pe_fld (pv 0) rfl) pa_nil)) pa_nil)))))))), ?_⟩
  have s0 := Same.refl H
  have l300 : ∀ {zs : List V}, zs.length ≤ n → zs.length ≤ sizeLine := fun h => Nat.le_of_lt (small1000 (by omega))
  refine ⟨_, rfl, b, CB, dx, _, _, rfl, B.e_b, O.cl, O.na _ (by decide), rfl, rfl, ?_⟩
  by_cases z : k.word = "guard"
  · rw [decide_eq_true (congrArg V.str z)]
    refine ⟨_, rfl, iteT ⟨_, rfl, b, CB, dx, _, _, rfl, B.e_b, O.cl, O.na _ (by decide), rfl, _, rfl, b, CB, dx, _, _, rfl, B.e_b, O.cl, O.na _ (by decide), rfl, rl, xs, rfl, .inl ⟨SqL.of B.e_rwl, fun l1 n1' => ⟨_, rfl, b, CB, dx, _, _, rfl, kn B.e_b n1', O.cl, O.na _ (by decide), rfl, _, rfl, b, CB, dx, _, _, rfl, kn B.e_b n1', O.cl, O.na _ (by decide), rfl, lt, ys, rfl, .inl ⟨SqL.of (kn B.e_lt n1'), fun l2 n2' => ⟨by show 5 ≤ sizeLine; decide, fun p np => q _ _ (((same_ext n1').trans (same_ext n2')).trans (same_ext np))⟩⟩⟩⟩⟩⟩
  · rw [decide_eq_false (fun y => z (V.str.inj y))]
    have lf := B.e_fs.len
    refine ⟨_, rfl, iteF ⟨_, rfl, b, CB, dx, _, _, rfl, B.e_b, O.cl, O.na _ (by decide), rfl, _, rfl, b, CB, dx, _, _, rfl, B.e_b, O.cl, O.na _ (by decide), rfl, _, rfl, b, CB, dx, _, _, rfl, B.e_b, O.cl, O.na _ (by decide), rfl, pf, fs, rfl, .inl (SqT.of B.e_f), _, rfl, b, CB, dx, _, _, rfl, B.e_b, O.cl, O.na _ (by decide), rfl, rl, xs, rfl, .inl ⟨SqL.of B.e_rwl, fun l1 n1' => ⟨?_, fun p np => q _ _ ((same_ext n1').trans (same_ext np))⟩⟩⟩⟩
    rw [sizeLine_eq]
    simp only [List.length_cons, List.length_append, List.length_nil]
    omega
end
end K8
set_option Elab.async false
set_option linter.all false
set_option maxRecDepth 100000
set_option maxHeartbeats 4000000
/-! Steps of the reader on the heap. -/
namespace K8
open PySem L2
section
variable {CB CR : Addr} {H0 H0' H H' : Hp} {r : Addr} {s s' : S} {n m : Nat} {dx tl tw tj bl gt bg : Addr} {kw kj kg : List (Key × V)} {bas bas' : List Addr} {k : BK} {b f rwl lt db : Addr} {i : Int} {fs xs ys : List V}
theorem BlkE.mono (h : BlkE CB H0 H n bl bg k b) (l : n ≤ m) : BlkE CB H0 H m bl bg k b :=
  let ⟨_, _, _, _, _, _, _, _, q⟩ := h
  ⟨_, _, _, _, _, _, _, _, { q with e_ys := Nat.le_trans q.e_ys l, e_xs := Nat.le_trans q.e_xs l }⟩
theorem RSt.mono (h : RSt CB CR H0 H r s n dx tl tw tj bl gt bg kw kj kg bas) (l : n ≤ m) : RSt CB CR H0 H r s m dx tl tw tj bl gt bg kw kj kg bas :=
  { h with bat := fun j k b e1 e2 => (h.bat j k b e1 e2).mono l, l1 := Nat.le_trans h.l1 l, l2 := Nat.le_trans h.l2 l, l3 := Nat.le_trans h.l3 l, l4 := Nat.le_trans h.l4 l, l5 := Nat.le_trans h.l5 l }
theorem RAt.mono (h : RAt CB CR H0 H r s n) (l : n ≤ m) : RAt CB CR H0 H r s m :=
  let ⟨_, _, _, _, _, _, _, _, _, _, _, h⟩ := h
  (h.mono l).at
theorem BlkE.nR (h : BlkE CB H0 H n bl bg k b) {C : Addr} {d : Addr} {l : List (Str × V)} (e : H r = some (.ins C d l)) (c : CB ≠ C) : r ≠ b := fun z => by
  obtain ⟨_, _, _, _, _, _, _, _, q⟩ := h
  have q1 := q.e_b
  rw [← z, e] at q1
  injection q1 with q1
  injection q1 with q1
  exact c q1.symm
theorem BlkE.nL (h : BlkE CB H0 H n bl bg k b) {l : List V} {p : Addr} (e : H p = some (.lst l)) : p ≠ b := fun z => by
  obtain ⟨_, _, _, _, _, _, _, _, q⟩ := h
  have q1 := q.e_b
  rw [← z, e] at q1
  cases q1
theorem BlkE.nD (h : BlkE CB H0 H n bl bg k b) {l : List (Key × V)} {p : Addr} (e : H p = some (.dK l)) : p ≠ b := fun z => by
  obtain ⟨_, _, _, _, _, _, _, _, q⟩ := h
  have q1 := q.e_b
  rw [← z, e] at q1
  cases q1
theorem nRL {C d : Addr} {l : List (Str × V)} {p : Addr} {x : List V} (e : H r = some (.ins C d l)) (e' : H p = some (.lst x)) : r ≠ p := fun z => by rw [z, e'] at e; cases e
theorem nRD {C d : Addr} {l : List (Str × V)} {p : Addr} {x : List (Key × V)} (e : H r = some (.ins C d l)) (e' : H p = some (.dK x)) : r ≠ p := fun z => by rw [z, e'] at e; cases e
theorem nDL {p q : Addr} {l : List (Key × V)} {x : List V} (e : H p = some (.dK l)) (e' : H q = some (.lst x)) : p ≠ q := fun z => by rw [z, e'] at e; cases e
theorem snoc_at {α : Type} {l : List α} {x : α} {j : Nat} {y : α} (h : (l ++ [x])[j]? = some y) : (j < l.length ∧ l[j]? = some y) ∨ (j = l.length ∧ y = x) := by
  rcases Nat.lt_or_ge j l.length with q | q
  · rw [List.getElem?_append_left q] at h
    exact .inl ⟨q, h⟩
  · rw [List.getElem?_append_right q] at h
    rcases Nat.eq_zero_or_pos (j - l.length) with z | z
    · rw [z] at h
      injection h with h
      exact .inr ⟨by omega, h.symm⟩
    · rw [List.getElem?_eq_none (show 1 ≤ _ from z)] at h
      cases h
/-- a new block is laid on the others -/
theorem RSt.push (h : RSt CB CR H0 H r s n dx tl tw tj bl gt bg kw kj kg bas) (B : BlkE CB H0 H n bl bg k b) (nb : b ∉ bas) (e1 : bks s' = bks s ++ [k]) (ew : s'.walks = s.walks) (ej : s'.jobs = s.jobs) (eg : s'.gates = s.gates) (eb : s'.begun = s.begun) (ed : s'.deepest = s.deepest) :
    RSt CB CR H0 (upd H bl (.lst ((bas ++ [b]).map V.ref))) r s' (n + 1) dx tl tw tj bl gt bg kw kj kg (bas ++ [b]) :=
  { sm := same_put h.sm h.fl, e_r := by rw [ed]; exact ku h.e_r (nRL h.e_r h.e_bl), e_tl := ku h.e_tl (nDL h.e_tl h.e_bl), e_tw := ku h.e_tw (nDL h.e_tw h.e_bl), e_kw := by rw [ew]; exact h.e_kw, e_tj := ku h.e_tj (nDL h.e_tj h.e_bl), e_kj := by rw [ej]; exact h.e_kj,
    e_gt := ku h.e_gt (nDL h.e_gt h.e_bl), e_kg := by rw [eg]; exact h.e_kg, e_bg := by rw [eb]; exact ku h.e_bg h.n7.symm, e_bl := upd_same, len := by rw [e1, List.length_append, List.length_append, h.len]; rfl,
    bat := fun j k' b' q1 q2 => by
      rw [e1] at q1
      rcases snoc_at q1 with ⟨l1, q1⟩ | ⟨l1, rfl⟩ <;> rcases snoc_at q2 with ⟨l2, q2⟩ | ⟨l2, rfl⟩
      · have z := h.bat j k' b' q1 q2
        exact (z.oth h.e_bl (z.nL h.e_bl) (fun _ y => by cases y) (.inr (.inl rfl))).more
      · exact absurd l1 (by rw [← h.len]; omega)
      · exact absurd l2 (by rw [h.len]; omega)
      · exact (B.oth h.e_bl (B.nL h.e_bl) (fun _ y => by cases y) (.inr (.inl rfl))).more,
    nd := List.nodup_append.mpr ⟨h.nd, by simp, fun x hx y hy e => nb (by rw [← List.mem_singleton.mp hy, ← e]; exact hx)⟩, fr := h.fr, fw := h.fw, fj := h.fj, fg := h.fg, fb := h.fb, fl := h.fl, n1 := h.n1, n2 := h.n2, n3 := h.n3, n4 := h.n4, n5 := h.n5, n6 := h.n6, n7 := h.n7, cc := h.cc,
    l1 := Nat.le_succ_of_le h.l1, l2 := Nat.le_succ_of_le h.l2, l3 := Nat.le_succ_of_le h.l3, l4 := by rw [eb]; exact Nat.le_succ_of_le h.l4, l5 := by rw [List.length_append]; exact Nat.succ_le_succ h.l5 }
/-- .. is taken off -/
theorem RSt.pop (h : RSt CB CR H0 H r s n dx tl tw tj bl gt bg kw kj kg (bas ++ [b])) (e1 : bks s = bks s' ++ [k]) (ew : s'.walks = s.walks) (ej : s'.jobs = s.jobs) (eg : s'.gates = s.gates) (eb : s'.begun = s.begun) (ed : s'.deepest = s.deepest) :
    RSt CB CR H0 (upd H bl (.lst (bas.map V.ref))) r s' n dx tl tw tj bl gt bg kw kj kg bas :=
  { sm := same_put h.sm h.fl, e_r := by rw [ed]; exact ku h.e_r (nRL h.e_r h.e_bl), e_tl := ku h.e_tl (nDL h.e_tl h.e_bl), e_tw := ku h.e_tw (nDL h.e_tw h.e_bl), e_kw := by rw [ew]; exact h.e_kw, e_tj := ku h.e_tj (nDL h.e_tj h.e_bl), e_kj := by rw [ej]; exact h.e_kj,
    e_gt := ku h.e_gt (nDL h.e_gt h.e_bl), e_kg := by rw [eg]; exact h.e_kg, e_bg := by rw [eb]; exact ku h.e_bg h.n7.symm, e_bl := upd_same, len := by have q := h.len; rw [e1, List.length_append, List.length_append] at q; exact Nat.succ.inj q,
    bat := fun j k' b' q1 q2 => by
      have z := h.bat j k' b' (by rw [e1, List.getElem?_append_left (List.getElem?_eq_some_iff.mp q1).1]; exact q1) (by rw [List.getElem?_append_left (List.getElem?_eq_some_iff.mp q2).1]; exact q2)
      exact z.oth h.e_bl (z.nL h.e_bl) (fun _ y => by cases y) (.inr (.inl rfl)),
    nd := (List.nodup_append.mp h.nd).1, fr := h.fr, fw := h.fw, fj := h.fj, fg := h.fg, fb := h.fb, fl := h.fl, n1 := h.n1, n2 := h.n2, n3 := h.n3, n4 := h.n4, n5 := h.n5, n6 := h.n6, n7 := h.n7, cc := h.cc,
    l1 := h.l1, l2 := h.l2, l3 := h.l3, l4 := by rw [eb]; exact h.l4, l5 := Nat.le_trans (by rw [List.length_append]; exact Nat.le_add_right _ _) h.l5 }
/-- a deeper place -/
theorem RSt.deep (h : RSt CB CR H0 H r s n dx tl tw tj bl gt bg kw kj kg bas) (d : Nat) : RSt CB CR H0 (upd H r (.ins CR dx (rIns tl bl gt bg d))) r { s with deepest := d } n dx tl tw tj bl gt bg kw kj kg bas :=
  { h with sm := same_put h.sm h.fr, e_r := upd_same, e_tl := ku h.e_tl (nRD h.e_r h.e_tl).symm, e_tw := ku h.e_tw (nRD h.e_r h.e_tw).symm, e_tj := ku h.e_tj (nRD h.e_r h.e_tj).symm, e_gt := ku h.e_gt (nRD h.e_r h.e_gt).symm, e_bg := ku h.e_bg (nRL h.e_r h.e_bg).symm, e_bl := ku h.e_bl (nRL h.e_r h.e_bl).symm, bat := fun j k' b' q1 q2 => (h.bat j k' b' q1 q2).oth h.e_r ((h.bat j k' b' q1 q2).nR h.e_r h.cc) (fun _ y => by cases y) (.inl fun _ y => by cases y) }
/-- a row is laid into a block's list -/
theorem RSt.row (h : RSt CB CR H0 H r s n dx tl tw tj bl gt bg kw kj kg bas) {q : Addr} {zs : List V} {v : V} (e : H q = some (.lst zs)) (l : zs.length ≤ n) (n1' : q ≠ bl) (n2' : q ≠ bg) (f0 : H0 q = none) :
    RSt CB CR H0 (upd H q (.lst (zs ++ [v]))) r s (n + 1) dx tl tw tj bl gt bg kw kj kg bas :=
  { h with sm := same_put h.sm f0, e_r := ku h.e_r (nRL h.e_r e), e_tl := ku h.e_tl (nDL h.e_tl e), e_tw := ku h.e_tw (nDL h.e_tw e), e_tj := ku h.e_tj (nDL h.e_tj e), e_gt := ku h.e_gt (nDL h.e_gt e), e_bg := ku h.e_bg n2'.symm, e_bl := ku h.e_bl n1'.symm, bat := fun j k' b' q1 q2 => (h.bat j k' b' q1 q2).row e l, l1 := Nat.le_succ_of_le h.l1, l2 := Nat.le_succ_of_le h.l2, l3 := Nat.le_succ_of_le h.l3, l4 := Nat.le_succ_of_le h.l4, l5 := Nat.le_succ_of_le h.l5 }
theorem RSt.gate (h : RSt CB CR H0 H r s n dx tl tw tj bl gt bg kw kj kg bas) (g : Str) (v : V) : RSt CB CR H0 (upd H gt (.dK (putK kg (.inr g) v))) r { s with gates := addG s.gates g } (n + 1) dx tl tw tj bl gt bg kw kj (putK kg (.inr g) v) bas :=
  { h.mono (Nat.le_succ n) with sm := same_put h.sm h.fg, e_r := ku h.e_r (nRD h.e_r h.e_gt), e_tl := ku h.e_tl h.n3, e_tw := ku h.e_tw h.n5, e_tj := ku h.e_tj h.n6, e_gt := upd_same, e_kg := keys_put h.e_kg g v, e_bg := ku h.e_bg (nDL h.e_gt h.e_bg).symm, e_bl := ku h.e_bl (nDL h.e_gt h.e_bl).symm, bat := fun j k' b' q1 q2 => ((h.bat j k' b' q1 q2).oth h.e_gt ((h.bat j k' b' q1 q2).nD h.e_gt) (fun _ y => by cases y) (.inl fun _ y => by cases y)).more, l3 := Nat.le_trans (length_putK _ _ _) (Nat.succ_le_succ h.l3) }
theorem RSt.begin (h : RSt CB CR H0 H r s n dx tl tw tj bl gt bg kw kj kg bas) (x : Str) : RSt CB CR H0 (upd H bg (.lst (s.begun.map V.str ++ [.str x]))) r { s with begun := s.begun ++ [x] } (n + 1) dx tl tw tj bl gt bg kw kj kg bas :=
  { h.mono (Nat.le_succ n) with sm := same_put h.sm h.fb, e_r := ku h.e_r (nRL h.e_r h.e_bg), e_tl := ku h.e_tl (nDL h.e_tl h.e_bg), e_tw := ku h.e_tw (nDL h.e_tw h.e_bg), e_tj := ku h.e_tj (nDL h.e_tj h.e_bg), e_gt := ku h.e_gt (nDL h.e_gt h.e_bg), e_bg := by rw [upd_same]; show _ = some (HO.lst (List.map V.str (s.begun ++ [x]))); rw [List.map_append]; rfl, e_bl := ku h.e_bl h.n7, bat := fun j k' b' q1 q2 => ((h.bat j k' b' q1 q2).oth h.e_bg ((h.bat j k' b' q1 q2).nL h.e_bg) (fun _ y => by cases y) (.inr (.inr rfl))).more, l4 := by show (s.begun ++ [x]).length ≤ n + 1; rw [List.length_append]; exact Nat.succ_le_succ h.l4 }
/-- a definition is told -/
theorem RSt.tellW (h : RSt CB CR H0 H r s n dx tl tw tj bl gt bg kw kj kg bas) (x : Str) (v : V) (hx : x ∉ s.walks) : RSt CB CR H0 (upd H tw (.dK (putK kw (.inr x) v))) r { s with walks := s.walks ++ [x] } (n + 1) dx tl tw tj bl gt bg (putK kw (.inr x) v) kj kg bas :=
  { h.mono (Nat.le_succ n) with sm := same_put h.sm h.fw, e_r := ku h.e_r (nRD h.e_r h.e_tw), e_tl := ku h.e_tl h.n1, e_tj := ku h.e_tj h.n4.symm, e_tw := upd_same, e_kw := by have q := keys_put h.e_kw x v; unfold addG at q; rw [if_neg hx] at q; exact q, e_gt := ku h.e_gt h.n5.symm, e_bg := ku h.e_bg (nDL h.e_tw h.e_bg).symm, e_bl := ku h.e_bl (nDL h.e_tw h.e_bl).symm, bat := fun j k' b' q1 q2 => ((h.bat j k' b' q1 q2).oth h.e_tw ((h.bat j k' b' q1 q2).nD h.e_tw) (fun _ y => by cases y) (.inl fun _ y => by cases y)).more, l1 := Nat.le_trans (length_putK _ _ _) (Nat.succ_le_succ h.l1) }
theorem RSt.tellJ (h : RSt CB CR H0 H r s n dx tl tw tj bl gt bg kw kj kg bas) (x : Str) (v : V) (hx : x ∉ s.jobs) : RSt CB CR H0 (upd H tj (.dK (putK kj (.inr x) v))) r { s with jobs := s.jobs ++ [x] } (n + 1) dx tl tw tj bl gt bg kw (putK kj (.inr x) v) kg bas :=
  { h.mono (Nat.le_succ n) with sm := same_put h.sm h.fj, e_r := ku h.e_r (nRD h.e_r h.e_tj), e_tl := ku h.e_tl h.n2, e_tw := ku h.e_tw h.n4, e_tj := upd_same, e_kj := by have q := keys_put h.e_kj x v; unfold addG at q; rw [if_neg hx] at q; exact q, e_gt := ku h.e_gt h.n6.symm, e_bg := ku h.e_bg (nDL h.e_tj h.e_bg).symm, e_bl := ku h.e_bl (nDL h.e_tj h.e_bl).symm, bat := fun j k' b' q1 q2 => ((h.bat j k' b' q1 q2).oth h.e_tj ((h.bat j k' b' q1 q2).nD h.e_tj) (fun _ y => by cases y) (.inl fun _ y => by cases y)).more, l2 := Nat.le_trans (length_putK _ _ _) (Nat.succ_le_succ h.l2) }
/-- a guard turns -/
theorem RSt.turn (h : RSt CB CR H0 H r s n dx tl tw tj bl gt bg kw kj kg (bas ++ [b])) {ks : List BK} {l : Bool} (e0 : bks s = ks ++ [.inn .guard]) (e1 : bks s' = ks ++ [.inn (if l then .late else .mend)]) (ew : s'.walks = s.walks) (ej : s'.jobs = s.jobs) (eg : s'.gates = s.gates) (eb : s'.begun = s.begun) (ed : s'.deepest = s.deepest)
    (B : BlkAt CB H0 H n bl bg (.inn .guard) b db i f rwl lt fs xs ys) :
    RSt CB CR H0 (upd H b (.ins CB db (bIns "guard" i f (.str (tword l)) rwl lt))) r s' n dx tl tw tj bl gt bg kw kj kg (bas ++ [b]) := by
  have BE : BlkE CB H0 H n bl bg (.inn .guard) b := ⟨_, _, _, _, _, _, _, _, B⟩
  refine { h with sm := same_put h.sm B.fb, e_r := by rw [ed]; exact ku h.e_r (BE.nR h.e_r h.cc), e_tl := ku h.e_tl (BE.nD h.e_tl), e_tw := ku h.e_tw (BE.nD h.e_tw), e_tj := ku h.e_tj (BE.nD h.e_tj), e_gt := ku h.e_gt (BE.nD h.e_gt), e_bg := by rw [eb]; exact ku h.e_bg (BE.nL h.e_bg), e_bl := ku h.e_bl (BE.nL h.e_bl), e_kw := by rw [ew]; exact h.e_kw, e_kj := by rw [ej]; exact h.e_kj, e_kg := by rw [eg]; exact h.e_kg, len := ?_, bat := ?_, l4 := by rw [eb]; exact h.l4 }
  · have q := h.len
    rw [e0] at q
    rw [e1, q, List.length_append, List.length_append]
    rfl
  · intro j k' b' q1 q2
    rw [e1] at q1
    have hl : bas.length = ks.length := by have q := h.len; rw [e0, List.length_append, List.length_append] at q; exact Nat.succ.inj q
    rcases snoc_at q1 with ⟨l1, q1⟩ | ⟨l1, rfl⟩ <;> rcases snoc_at q2 with ⟨l2, q2⟩ | ⟨l2, rfl⟩
    · have z := h.bat j k' b' (by rw [e0, List.getElem?_append_left l1]; exact q1) (by rw [List.getElem?_append_left l2]; exact q2)
      refine z.oth B.e_b (fun y => ?_) (fun _ y => by cases y) (.inl fun _ y => by cases y)
      exact (List.nodup_append.mp h.nd).2.2 b' (List.mem_of_getElem? q2) b (by simp) y.symm
    · omega
    · omega
    · have hw : (BK.inn (if l then Blk.late else Blk.mend)).word = "guard" := by cases l <;> rfl
      have hp : (BK.inn (if l then Blk.late else Blk.mend)).part = .str (tword l) := by cases l <;> rfl
      have hf : (BK.inn (if l then Blk.late else Blk.mend)).Fs fs := by cases l <;> exact B.e_fs
      exact ⟨db, i, f, rwl, lt, fs, xs, ys, { B with e_b := by rw [hw, hp]; exact upd_same, e_f := ku B.e_f (fun y => by have q := B.e_b; rw [← y, B.e_f] at q; cases q), e_fs := hf, e_rwl := ku B.e_rwl (BE.nL B.e_rwl), e_lt := ku B.e_lt (BE.nL B.e_lt) }⟩
/-! ### the blocks of a state -/
theorem bks_push (s : S) (b : Blk) (hc : s.cur ≠ none) : bks (s.push b) = bks s ++ [.inn b] := by
  unfold bks S.push
  cases h : s.cur with
  | none => exact absurd h hc
  | some c => simp
theorem bks_none {s : S} (hc : s.cur = none) : bks s = [] := by unfold bks; rw [hc]
theorem bks_some {s : S} {w : Bool} {x : Str} (hc : s.cur = some (w, x)) : bks s = .defn w x :: s.inner.reverse.map .inn := by unfold bks; rw [hc]
theorem bks_inner {s : S} {b : Blk} {rest : List Blk} (hc : s.cur ≠ none) (hi : s.inner = b :: rest) : bks s = bks { s with inner := rest } ++ [.inn b] := by
  unfold bks
  rw [hi]
  cases h : s.cur with
  | none => exact absurd h hc
  | some c => simp
theorem bks_len {s : S} (hc : s.cur ≠ none) : (bks s).length = s.inner.length + 1 := by
  unfold bks
  cases h : s.cur with
  | none => exact absurd h hc
  | some c => simp
theorem snoc_ex {α : Type} {l : List α} (h : l ≠ []) : ∃ l' x, l = l' ++ [x] := ⟨l.dropLast, l.getLast h, (List.dropLast_concat_getLast _).symm⟩
/-- the innermost block -/
theorem RSt.last (h : RSt CB CR H0 H r s n dx tl tw tj bl gt bg kw kj kg bas) {ks : List BK} {k : BK} (e : bks s = ks ++ [k]) : ∃ bas' b, bas = bas' ++ [b] ∧ bas'.length = ks.length ∧ BlkE CB H0 H n bl bg k b := by
  have hl := h.len
  rw [e, List.length_append] at hl
  obtain ⟨bas', b, rfl⟩ := snoc_ex (l := bas) (fun z => by rw [z] at hl; cases hl)
  rw [List.length_append] at hl
  have hl' : bas'.length = ks.length := Nat.succ.inj hl
  exact ⟨bas', b, rfl, hl', h.bat ks.length k b (by rw [e]; simp) (by rw [← hl']; simp)⟩
end
end K8
set_option Elab.async false
set_option linter.all false
set_option maxRecDepth 100000
set_option maxHeartbeats 4000000
/-! The walks of Reader's small steps. -/
namespace K8
open PySem L2
theorem pe_mk0 {X : Cx} {k j : Nat} {C : Addr} {x : Str} {sp : Sp} {dvs : List V} {p pos : Pos} (c : C8.Mak X.prog X.w X.K X.mg X.base k x C sp dvs) (hr : Room j X.A) (hk : k + 1 ≤ j) (hg : Gl X x) (hdb : (x == ("__debug__" : Str)) = false := by decide) : PE X (.Call (.Name x p) [] [] pos) (tMake C sp dvs C8.E0 tNil) := by
  obtain ⟨f, fd, ps, ds, M, F, hm, b, d⟩ := c.ex
  exact pe_make0 M F (hr.mono hk) hg hm b d C8.pass0 hdb
def isWO : NK → Bool
  | .wait => true
  | .opn => true
  | _ => false
theorem in_wo (k : NK) : (if false = true then !inV (.str k.word) [.str "wait", .str "open"] else inV (.str k.word) [.str "wait", .str "open"]) = isWO k := by cases k <;> decide +kernel
section
variable {P : Program} {w : World} {K : PySem.W.Frag} {mg : Str → Option Value} {base : Heap} {f : Addr} {fd : FuncData} {CB CR : Addr}
abbrev sRinit : Stmt := cls 18 0
abbrev sRopened : Stmt := cls 18 6
abbrev sRadded : Stmt := cls 18 7
abbrev sRnamed : Stmt := cls 18 8
abbrev sRturned : Stmt := cls 18 9
abbrev sRended : Stmt := cls 18 10
theorem scRinit : FnScope ["self"] ["self"] (defScope sRinit) := ⟨rfl, rfl, rfl, by decide +kernel, rfl, by decide +kernel, by decide +kernel⟩
theorem scRopened : FnScope ["self", "block"] ["self", "block"] (defScope sRopened) := ⟨rfl, rfl, rfl, by decide +kernel, rfl, by decide +kernel, by decide +kernel⟩
theorem scRadded : FnScope ["self", "row"] ["self", "row"] (defScope sRadded) := ⟨rfl, rfl, rfl, by decide +kernel, rfl, by decide +kernel, by decide +kernel⟩
theorem scRnamed : FnScope ["self", "word", "at", "name"] ["self", "word", "at", "name"] (defScope sRnamed) := ⟨rfl, rfl, rfl, by decide +kernel, rfl, by decide +kernel, by decide +kernel⟩
theorem scRturned : FnScope ["self", "word", "block"] ["self", "word"] (defScope sRturned) := ⟨rfl, rfl, rfl, by decide +kernel, rfl, by decide +kernel, by decide +kernel⟩
theorem scRended : FnScope ["self", "block"] ["self"] (defScope sRended) := ⟨rfl, rfl, rfl, by decide +kernel, rfl, by decide +kernel, by decide +kernel⟩
def spRinit (CB CR : Addr) : Sp := fun vs H Q _ => ∃ (H0 : Hp) (x dx : Addr), vs = [.ref x] ∧ H x = some (.ins CR dx []) ∧ Same H0 H ∧ H0 x = none ∧ CB ≠ CR ∧ ∀ H', RAt CB CR H0 H' x {} 0 → Q .non H'
theorem ok_rinit (O : OwnC K CR fReader) (F : Fun K "__init__" "Reader.__init__" sRinit f fd) : FnOk P w K mg base CX0 1 f fd ["self"] (spRinit CB CR) := by
  refine F.ok scRinit (fun vs H Q E h => ?_) (fun cdv A outer s H vs Q E hr h => ?_)
  · obtain ⟨_, _, _, rfl, _⟩ := h
    rfl
  obtain ⟨H0, x, dx, rfl, hx, sm, f0, cc, q⟩ := h
  have nd := scRinit.nd
  refine ⟨_, (pss_cons (ps_fld (pv 0) (pe_disp (pps_cons pe_str pe_dnewK (pps_cons pe_str pe_dnewK pps_nil)) (by rfl) (by rfl) (fun z => by cases z) (by decide)) rfl)
    (pss_cons (ps_fld (pv 0) (pe_lst pa_nil) rfl)
    (pss_cons (ps_fld (pv 0) pe_dnewK rfl)
    (pss_cons (ps_fld (pv 0) (pe_lst pa_nil) rfl)
    (pss_one (ps_fld (pv 0) pe_int rfl)))))), ?_⟩
  refine fun tl nl => fun tw nw => fun tj nj => ⟨?_, [(.inr "walk", .ref tw), (.inr "job", .ref tj)], rfl, by show 2 ≤ 15; decide, _, rfl, x, CR, dx, [], rfl, ?_, O.cl, O.na "told" (by decide), by decide, ?_⟩
  · exact kn (kn upd_same nw) nj
  · exact ku (kn (kn (kn hx nl) nw) nj) (ne_of_none hx nl)
  have lw := (fr nw).2
  have lj := (fr (fr nj).1).2
  have wj := (fr nj).2
  have xl := ne_of_none hx nl
  have xw := ne_of_none (kn hx nl) nw
  have xj := ne_of_none (kn (kn hx nl) nw) nj
  have f1 : H tw = none := (fr nw).1
  have f2 : H tj = none := (fr (fr nj).1).1
  have s1 : Same H0 (upd (upd (upd (upd (upd H tl (.dK [])) tw (.dK [])) tj (.dK [])) tl (.dK (mergeK [] [(.inr "walk", .ref tw), (.inr "job", .ref tj)]))) x (.ins CR dx (putF "told" (.ref tl) []))) :=
    same_put (same_put (same_put (same_put (same_put sm (none_of sm nl)) (none_of sm f1)) (none_of sm f2)) (none_of sm nl)) f0
  have e1 : (upd (upd (upd (upd (upd H tl (.dK [])) tw (.dK [])) tj (.dK [])) tl (.dK (mergeK [] [(.inr "walk", .ref tw), (.inr "job", .ref tj)]))) x (.ins CR dx (putF "told" (.ref tl) []))) x = some (.ins CR dx [("told", .ref tl)]) := upd_same
  have e2 : (upd (upd (upd (upd (upd H tl (.dK [])) tw (.dK [])) tj (.dK [])) tl (.dK (mergeK [] [(.inr "walk", .ref tw), (.inr "job", .ref tj)]))) x (.ins CR dx (putF "told" (.ref tl) []))) tl = some (.dK [(.inr "walk", .ref tw), (.inr "job", .ref tj)]) := ku upd_same xl.symm
  have e3 : (upd (upd (upd (upd (upd H tl (.dK [])) tw (.dK [])) tj (.dK [])) tl (.dK (mergeK [] [(.inr "walk", .ref tw), (.inr "job", .ref tj)]))) x (.ins CR dx (putF "told" (.ref tl) []))) tw = some (.dK []) := ku (ku (kn upd_same nj) lw) xw.symm
  have e4 : (upd (upd (upd (upd (upd H tl (.dK [])) tw (.dK [])) tj (.dK [])) tl (.dK (mergeK [] [(.inr "walk", .ref tw), (.inr "job", .ref tj)]))) x (.ins CR dx (putF "told" (.ref tl) []))) tj = some (.dK []) := ku (ku upd_same lj) xj.symm
  revert s1 e1 e2 e3 e4
  generalize (upd (upd (upd (upd (upd H tl (.dK [])) tw (.dK [])) tj (.dK [])) tl (.dK (mergeK [] [(.inr "walk", .ref tw), (.inr "job", .ref tj)]))) x (.ins CR dx (putF "told" (.ref tl) []))) = H1
  intro s1 e1 e2 e3 e4
  refine ⟨by decide, fun bl nbl => ⟨_, rfl, x, CR, dx, _, rfl, kn e1 nbl, O.cl, O.na "blocks" (by decide), by show 1 < 1000; decide, ?_⟩⟩
  refine fun gt ngt => ⟨_, rfl, x, CR, dx, _, rfl, kn upd_same ngt, O.cl, O.na "gates" (by decide), by show 2 < 1000; decide, ?_⟩
  refine ⟨by decide, fun bg nbg => ⟨_, rfl, x, CR, dx, _, rfl, kn upd_same nbg, O.cl, O.na "begun" (by decide), by show 3 < 1000; decide, ?_⟩⟩
  refine ⟨_, rfl, x, CR, dx, _, rfl, upd_same, O.cl, O.na "deepest" (by decide), by show 4 < 1000; decide, ?_⟩
  have a1 := fr nbg
  have a2 := fr a1.1
  have a3 := fr a2.1
  have a4 := fr a3.1
  have b1 := fr ngt
  have b2 := fr b1.1
  have go : ∀ {q : Addr} {o : HO}, H1 q = some o → q ≠ x → upd (upd (upd (upd (upd (upd (upd H1 bl (.lst [])) x (.ins CR dx (putF "blocks" (.ref bl) [("told", .ref tl)]))) gt (.dK [])) x (.ins CR dx (putF "gates" (.ref gt) (putF "blocks" (.ref bl) [("told", .ref tl)])))) bg (.lst [])) x (.ins CR dx (putF "begun" (.ref bg) (putF "gates" (.ref gt) (putF "blocks" (.ref bl) [("told", .ref tl)]))))) x (.ins CR dx (putF "deepest" (.int 0) (putF "begun" (.ref bg) (putF "gates" (.ref gt) (putF "blocks" (.ref bl) [("told", .ref tl)]))))) q = some o :=
    fun hq hx' => ku (ku (kn (ku (kn (ku (kn hq nbl) hx') ngt) hx') nbg) hx') hx'
  refine q _ ⟨dx, tl, tw, tj, bl, gt, bg, [], [], [], [], ?_⟩
  exact { sm := same_put (same_put (same_put (same_put (same_put (same_put (same_put s1 (none_of s1 nbl)) f0) (none_of s1 b2.1)) f0) (none_of s1 a4.1)) f0) f0,
          e_r := upd_same, e_tl := go e2 xl.symm, e_tw := go e3 xw.symm, e_kw := rfl, e_tj := go e4 xj.symm, e_kj := rfl, e_gt := ku (ku (kn (ku upd_same b1.2) nbg) b1.2) b1.2, e_kg := rfl, e_bg := ku (ku upd_same a1.2) a1.2, e_bl := ku (ku (kn (ku (kn (ku upd_same (ne_of_none e1 nbl).symm) ngt) (ne_of_none e1 nbl).symm) nbg) (ne_of_none e1 nbl).symm) (ne_of_none e1 nbl).symm,
          len := rfl, bat := fun j k b h => (nomatch h), nd := .nil, fr := f0, fw := none_of sm f1, fj := none_of sm f2, fg := none_of s1 b2.1, fb := none_of s1 a4.1, fl := none_of s1 nbl, n1 := lw.symm, n2 := lj.symm, n3 := ne_of_none e2 b2.1, n4 := wj.symm, n5 := ne_of_none e3 b2.1, n6 := ne_of_none e4 b2.1, n7 := a4.2.symm, cc := cc, l1 := Nat.zero_le _, l2 := Nat.zero_le _, l3 := Nat.zero_le _, l4 := Nat.zero_le _, l5 := Nat.zero_le _ }
/-- rows that are laid on -/
def spRadded (CB CR : Addr) : Sp := fun vs H Q _ => ∃ (H0 : Hp) (r : Addr) (s : S) (n : Nat) (v : V), vs = [.ref r, v] ∧ RAt CB CR H0 H r s n ∧ s.cur ≠ none ∧ n ≤ 300 ∧ ∀ H', RAt CB CR H0 H' r s (n + 1) → Q (.bl true) H'
theorem ok_radded (O : OwnC K CR fReader) (F : Fun K "added" "Reader.added" sRadded f fd) (c_Block_add : C8.Met P w K mg base 1 CB "add" (spBadd CB) []) : FnOk P w K mg base CX0 2 f fd ["self", "row"] (spRadded CB CR) := by
  refine F.ok scRadded (fun vs H Q E h => ?_) (fun cdv A outer s H vs Q E hr h => ?_)
  · obtain ⟨_, _, _, _, _, rfl, _⟩ := h
    rfl
  obtain ⟨H0, r, s, n, v, rfl, ⟨dx, tl, tw, tj, bl, gt, bg, kw, kj, kg, bas, R⟩, hc, hn, q⟩ := h
  have nd := scRadded.nd
  refine ⟨_, (pss_cons (ps_expr (C8.pe_mt c_Block_add hr (by omega) (pe_ix ix_list (pe_fld (pv 0) rfl) (pe_un un_neg pe_int) (fun _ _ => rfl)) (pa_cons (pv 1) pa_nil)))
    (pss_one (ps_ret pe_bl))), ?_⟩
  obtain ⟨ks, k, ek⟩ := snoc_ex (l := bks s) (fun z => by have q1 := bks_len hc; rw [z] at q1; cases q1)
  obtain ⟨bas', b, rfl, hl, db, i, pf, rl, lt, fs, xs, ys, B⟩ := R.last ek
  refine ⟨_, rfl, r, CR, dx, _, _, rfl, R.e_r, O.cl, O.na _ (by decide), rfl, _, rfl, bl, _, _, _, rfl, rfl, SqL.of R.e_bl, by rw [List.map_append]; exact atI_last _ _, ?_⟩
  refine ⟨b, db, _, rfl, B.e_b, rfl, _, rfl, H0, n, bl, bg, k, b, db, i, pf, rl, lt, fs, xs, ys, v, rfl, B, hn, fun p zs e1 l1 n1' n2' f0 => ?_⟩
  exact q _ (R.row e1 l1 n1' n2' f0).at
def spRopened (CB CR : Addr) : Sp := fun vs H Q _ => ∃ (H0 : Hp) (r : Addr) (s : S) (n : Nat) (dx tl tw tj bl gt bg : Addr) (kw kj kg : List (Key × V)) (bas : List Addr) (b : Addr) (k : Blk), vs = [.ref r, .ref b] ∧ RSt CB CR H0 H r s n dx tl tw tj bl gt bg kw kj kg bas ∧ s.cur ≠ none ∧ n ≤ 300 ∧ BlkE CB H0 H n bl bg (.inn k) b ∧ b ∉ bas ∧
  ∀ H', RAt CB CR H0 H' r (s.push k) (n + 1) → Q (.bl true) H'
theorem ok_ropened (O : OwnC K CR fReader) (F : Fun K "opened" "Reader.opened" sRopened f fd) (m_len : mg "len" = none) (m_max : mg "max" = none) : FnOk P w K mg base CX0 1 f fd ["self", "block"] (spRopened CB CR) := by
  refine F.ok scRopened (fun vs H Q E h => ?_) (fun cdv A outer s H vs Q E hr h => ?_)
  · obtain ⟨_, _, _, _, _, _, _, _, _, _, _, _, _, _, _, _, _, rfl, _⟩ := h
    rfl
  obtain ⟨H0, r, s, n, dx, tl, tw, tj, bl, gt, bg, kw, kj, kg, bas, b, k, rfl, R, hc, hn, B, nb, q⟩ := h
  have nd := scRopened.nd
  refine ⟨_, (pss_cons (ps_expr (pe_bm PySem.F.plainAttrs_list PySem.F.slot_list_append PySem.F.type_list_append mt_append (pe_fld (pv 0) rfl) (pa_cons (pv 1) pa_nil)))
    (pss_cons (ps_fld (pv 0) (pe_callB (call_max2 rfl) (by rfl) m_max (by decide +kernel) (pa_cons (pe_fld (pv 0) rfl) (pa_cons (pe_op op_sub (pe_callB call_len_seq (by rfl) m_len (by decide +kernel) (pa_cons (pe_fld (pv 0) rfl) pa_nil)) pe_int) pa_nil))) rfl)
    (pss_one (ps_ret pe_bl)))), ?_⟩
  have bl_r := nRL R.e_r R.e_bl
  have e0 := bks_len hc
  have el := R.len
  have l5 := R.l5
  refine ⟨_, rfl, r, CR, dx, _, _, rfl, R.e_r, O.cl, O.na _ (by decide), rfl, .inl ⟨rfl, _, SqL.of R.e_bl⟩, _, rfl, bl, _, _, rfl, rfl, R.e_bl, small1000 (by rw [List.length_map]; omega), ?_⟩
  have e1 : bas.map V.ref ++ [.ref b] = (bas ++ [b]).map V.ref := by rw [List.map_append]; rfl
  rw [e1]
  have R1 := R.push (s' := { s with inner := k :: s.inner }) (k := .inn k) B nb (by have z := bks_push s k hc; unfold S.push at z; exact z) rfl rfl rfl rfl rfl
  revert R1
  generalize upd H bl (.lst ((bas ++ [b]).map V.ref)) = H1
  intro R1
  refine ⟨_, rfl, r, CR, dx, _, _, rfl, R1.e_r, O.cl, O.na _ (by decide), rfl, _, rfl, r, CR, dx, _, _, rfl, R1.e_r, O.cl, O.na _ (by decide), rfl, bl, _, rfl, .inl (SqL.of R1.e_bl), _, _, rfl, rfl, _, _, rfl, _, rfl, r, CR, dx, _, rfl, R1.e_r, O.cl, O.na _ (by decide), (by show 5 < 1000; decide), ?_⟩
  have e2 : (if (((bas ++ [b]).map V.ref).length : Int) - 1 > (s.deepest : Int) then (((bas ++ [b]).map V.ref).length : Int) - 1 else (s.deepest : Int)) = ((max s.deepest (s.inner.length + 1) : Nat) : Int) := by
    rw [List.length_map, List.length_append, List.length_singleton, el, e0]
    split <;> omega
  show Q (.bl true) (upd H1 r (.ins CR dx (putF "deepest" (.int (if (((bas ++ [b]).map V.ref).length : Int) - 1 > (s.deepest : Int) then (((bas ++ [b]).map V.ref).length : Int) - 1 else (s.deepest : Int))) (rIns tl bl gt bg s.deepest))))
  rw [e2]
  exact q _ (R1.deep _).at
def spRnamed (CB CR : Addr) : Sp := fun vs H Q _ => ∃ (H0 : Hp) (r : Addr) (s : S) (n : Nat) (k : NK) (i : Int) (x : Str), vs = [.ref r, .str k.word, .int i, .str x] ∧ RAt CB CR H0 H r s n ∧ s.cur ≠ none ∧ n ≤ 299 ∧ ∀ H', RAt CB CR H0 H' r (s.note k x) (n + 2) → Q (.bl true) H'
theorem ok_rnamed (O : OwnC K CR fReader) (F : Fun K "named" "Reader.named" sRnamed f fd) (c_Reader_added : C8.Met P w K mg base 2 CR "added" (spRadded CB CR) []) : FnOk P w K mg base CX0 3 f fd ["self", "word", "at", "name"] (spRnamed CB CR) := by
  refine F.ok scRnamed (fun vs H Q E h => ?_) (fun cdv A outer s H vs Q E hr h => ?_)
  · obtain ⟨_, _, _, _, _, _, _, rfl, _⟩ := h
    rfl
  obtain ⟨H0, r, s, n, k, i, x, rfl, ⟨dx, tl, tw, tj, bl, gt, bg, kw, kj, kg, bas, R⟩, hc, hn, q⟩ := h
  have nd := scRnamed.nd
  have hu := hu_of hr
  refine ⟨_, (pss_cons (ps_if (pt_cmpR op_in_seq (pv 1) (pe_tup (pa_cons pe_str (pa_cons pe_str pa_nil))) (by rfl)) (pss_one (ps_dput hu (pe_fld (pv 0) rfl) (pv 3) pe_bl rfl)) pss_nil)
    (pss_cons (ps_if (pt_cmpR op_eq (pv 1) pe_str (nomark _)) (pss_one (ps_expr (pe_bm PySem.F.plainAttrs_list PySem.F.slot_list_append PySem.F.type_list_append mt_append (pe_fld (pv 0) rfl) (pa_cons (pv 3) pa_nil)))) pss_nil)
    (pss_one (ps_ret (C8.pe_mt c_Reader_added hr (by omega) (pv 0) (pa_cons (pe_tup (pa_cons (pv 1) (pa_cons (pv 2) (pa_cons (pv 3) pa_nil)))) pa_nil)))))), ?_⟩
  have fin : ∀ (H1 : Hp) (m : Nat), RAt CB CR H0 H1 r (s.note k x) m → m ≤ n + 1 → ∀ D : Ends, D.rt = Q → tRet (tMeth CR "added" (spRadded CB CR) [] C8.E0 (tVar 0) (tCons (tTup (tCons (tVar 1) (tCons (tVar 2) (tCons (tVar 3) tNil)))) tNil)) D [some (.ref r), some (.str k.word), some (.int i), some (.str x)] H1 := by
    rintro H1 m ⟨dx, tl, tw, tj, bl, gt, bg, kw, kj, kg, bas, R1⟩ hm D rfl
    refine ⟨_, rfl, r, dx, _, rfl, R1.e_r, rfl, _, rfl, _, rfl, _, rfl, by show 3 ≤ sizeLine; decide, fun p np => ⟨H0, r, _, m, .ref p, rfl, (R1.same (same_ext np)).at, by rw [(note_cases s k x).2.2.2.2.1]; exact hc, by omega, fun H' h => q H' (h.mono (by omega))⟩⟩
  refine ⟨_, rfl, by show 2 ≤ sizeLine; decide, fun p np => ⟨p, _, rfl, .inr (SqT.of upd_same), rfl, rfl, _, rfl, ?_⟩⟩
  rw [in_wo k]
  have R1 := R.same (same_ext (o := .tup [.str "wait", .str "open"]) np)
  revert R1
  generalize upd H p (.tup [.str "wait", .str "open"]) = H1
  intro R1
  have l3 := R.l3
  have l4 := R.l4
  cases k with
  | say =>
    refine iteF ?_
    refine ⟨_, rfl, rfl, _, rfl, iteF ?_⟩
    exact fin _ _ R1.at (Nat.le_succ n) _ rfl
  | fail =>
    refine iteF ?_
    refine ⟨_, rfl, rfl, _, rfl, iteF ?_⟩
    exact fin _ _ R1.at (Nat.le_succ n) _ rfl
  | begin =>
    refine iteF ?_
    refine ⟨_, rfl, rfl, _, rfl, iteT ⟨_, rfl, r, CR, dx, _, _, rfl, R1.e_r, O.cl, O.na _ (by decide), rfl, .inl ⟨rfl, _, SqL.of R1.e_bg⟩, _, rfl, bg, _, _, rfl, rfl, R1.e_bg, small1000 (by rw [List.length_map]; omega), ?_⟩⟩
    exact fin _ _ (R1.begin x).at (Nat.le_refl _) _ rfl
  | wait =>
    refine iteT ⟨_, rfl, r, CR, dx, _, _, rfl, R1.e_r, O.cl, O.na _ (by decide), rfl, _, rfl, gt, _, rfl, dp R1.e_gt (by omega) rfl, ?_⟩
    refine ⟨_, rfl, rfl, _, rfl, iteF ?_⟩
    exact fin _ _ (R1.gate x _).at (Nat.le_refl _) _ rfl
  | opn =>
    refine iteT ⟨_, rfl, r, CR, dx, _, _, rfl, R1.e_r, O.cl, O.na _ (by decide), rfl, _, rfl, gt, _, rfl, dp R1.e_gt (by omega) rfl, ?_⟩
    refine ⟨_, rfl, rfl, _, rfl, iteF ?_⟩
    exact fin _ _ (R1.gate x _).at (Nat.le_refl _) _ rfl
def spRturned (CB CR : Addr) : Sp := fun vs H Q _ => ∃ (H0 : Hp) (r : Addr) (s : S) (n : Nat) (l : Bool) (rest : List Blk), vs = [.ref r, .str (tword l)] ∧ RAt CB CR H0 H r s n ∧ s.cur ≠ none ∧ s.inner = .guard :: rest ∧ ∀ H', RAt CB CR H0 H' r { s with inner := (if l then .late else .mend) :: rest } n → Q (.bl true) H'
theorem ok_rturned (OB : OwnC K CB fBlock) (O : OwnC K CR fReader) (F : Fun K "turned" "Reader.turned" sRturned f fd) (c_Block_is_guarding : C8.Met P w K mg base 1 CB "is_guarding" (spBis CB) []) : FnOk P w K mg base CX0 2 f fd ["self", "word"] (spRturned CB CR) := by
  refine F.ok scRturned (fun vs H Q E h => ?_) (fun cdv A outer s H vs Q E hr h => ?_)
  · obtain ⟨_, _, _, _, _, _, rfl, _⟩ := h
    rfl
  obtain ⟨H0, r, s, n, l, rest, rfl, ⟨dx, tl, tw, tj, bl, gt, bg, kw, kj, kg, bas, R⟩, hc, hi, q⟩ := h
  have nd := scRturned.nd
  refine ⟨_, (pss_cons (ps_set (i := 2) nd rfl (.inl rfl) (pe_ix ix_list (pe_fld (pv 0) rfl) (pe_un un_neg pe_int) (fun _ _ => rfl)))
    (pss_cons (ps_if (pt_not (pt_val (C8.pe_mt0 c_Block_is_guarding hr (by omega) (pv 2)))) (pss_one (ps_ret pe_bl)) pss_nil)
    (pss_cons (ps_fld (pv 2) (pv 1) rfl)
    (pss_one (ps_ret pe_bl))))), ?_⟩
  have e0 := bks_inner hc hi
  obtain ⟨bas', b, rfl, hl, db, i, pf, rl, lt, fs, xs, ys, B⟩ := R.last e0
  refine ⟨_, rfl, r, CR, dx, _, _, rfl, R.e_r, O.cl, O.na _ (by decide), rfl, _, rfl, bl, _, _, _, rfl, rfl, SqL.of R.e_bl, by rw [List.map_append]; exact atI_last _ _, ?_⟩
  refine ⟨_, rfl, b, db, _, rfl, B.e_b, rfl, H0, n, bl, bg, _, b, db, i, pf, rl, lt, fs, xs, ys, rfl, B, _, rfl, iteF ?_⟩
  refine ⟨_, rfl, _, rfl, b, CB, db, _, rfl, B.e_b, OB.cl, OB.na _ (by decide), by show 6 < 1000; decide, ?_⟩
  refine q _ (R.turn (s' := { s with inner := (if l then .late else .mend) :: rest }) (l := l) e0 ?_ rfl rfl rfl rfl rfl B).at
  exact bks_inner (s := { s with inner := (if l then .late else .mend) :: rest }) hc rfl
def spRended (CB CR : Addr) : Sp := fun vs H Q _ => ∃ (H0 : Hp) (r : Addr) (s s' : S) (n : Nat), vs = [.ref r] ∧ RAt CB CR H0 H r s n ∧ Step s .fin s' ∧ n ≤ 300 ∧ (∀ w x, s.cur = some (w, x) → x ∉ s.told w) ∧ ∀ H', RAt CB CR H0 H' r s' (n + 1) → Q (.bl true) H'
theorem ok_rended (OB : OwnC K CB fBlock) (O : OwnC K CR fReader) (F : Fun K "ended" "Reader.ended" sRended f fd) (c_Block_is_guarding : C8.Met P w K mg base 1 CB "is_guarding" (spBis CB) []) (c_Block_made : C8.Met P w K mg base 1 CB "made" (spBmade CB) []) (c_Reader_added : C8.Met P w K mg base 2 CR "added" (spRadded CB CR) []) (m_tuple : mg "tuple" = none) : FnOk P w K mg base CX0 3 f fd ["self"] (spRended CB CR) := by
  refine F.ok scRended (fun vs H Q E h => ?_) (fun cdv A outer s H vs Q E hr h => ?_)
  · obtain ⟨_, _, _, _, _, rfl, _⟩ := h
    rfl
  obtain ⟨H0, r, s, s', n, rfl, ⟨dx, tl, tw, tj, bl, gt, bg, kw, kj, kg, bas, R⟩, st, hn, hf, q⟩ := h
  have nd := scRended.nd
  have hu := hu_of hr
  refine ⟨_, (pss_cons (ps_if (PW.pt (pw_or (pt_cmpR (op_eqE hr.units0) (pe_fld (pv 0) rfl) (pe_lst pa_nil) (nomark _)) (pw_or1 (pt_val (C8.pe_mt0 c_Block_is_guarding hr (by omega) (pe_ix ix_list (pe_fld (pv 0) rfl) (pe_un un_neg pe_int) (fun _ _ => rfl))))))) (pss_one (ps_ret pe_bl)) pss_nil)
    (pss_cons (ps_set (i := 1) nd rfl (.inl rfl) (pe_bm0 PySem.F.plainAttrs_list PySem.F.slot_list_pop PySem.F.type_list_pop mt_pop (pe_fld (pv 0) rfl)))
    (pss_cons (ps_if (pt_cmpR (op_eqE hr.units0) (pe_fld (pv 0) rfl) (pe_lst pa_nil) (nomark _)) (pss_cons (ps_dput hu (pe_dget hu (pe_fld (pv 0) rfl) (pe_fld (pv 1) rfl) (fun _ _ => rfl)) (pe_ix ix_tup (pe_fld (pv 1) rfl) pe_int (fun _ _ => rfl)) (pe_callTy call_tuple_of (by rfl) m_tuple (by decide +kernel) (pa_cons (pe_fld (pv 1) rfl) pa_nil)) rfl)
    (pss_one (ps_ret pe_bl))) pss_nil)
    (pss_one (ps_ret (C8.pe_mt c_Reader_added hr (by omega) (pv 0) (pa_cons (C8.pe_mt0 c_Block_made hr (by omega) (pv 1)) pa_nil))))))), ?_⟩
  cases st with
  | @fin0 w x hc hi =>
    have EE : bks s = [] ++ [.defn w x] := by rw [bks_some hc, hi]; rfl
    obtain ⟨bas', b, rfl, hl, db, i, pf, rl, lt, fs, xs, ys, B⟩ := R.last EE
    refine ⟨_, rfl, r, CR, dx, _, _, rfl, R.e_r, O.cl, O.na _ (by decide), rfl, by show 0 ≤ sizeLine; decide, fun p np => ⟨bl, p, _, rfl, rfl, SqL.of (kn R.e_bl np), SqL.of upd_same, _, rfl, ?_⟩⟩
    have R1 := R.same (same_ext (o := .lst []) np)
    have B1 := B.same (same_ext (o := .lst []) np)
    revert R1 B1
    generalize upd H p (.lst []) = H1
    intro R1 B1
    rw [show (false != ((bas' ++ [b]).map V.ref).isEmpty) = false by simp]
    refine iteF ⟨_, rfl, r, CR, dx, _, _, rfl, R1.e_r, O.cl, O.na _ (by decide), rfl, _, rfl, bl, _, _, _, rfl, rfl, SqL.of R1.e_bl, by rw [List.map_append]; exact atI_last _ _, ?_⟩
    refine ⟨b, db, _, rfl, B1.e_b, rfl, H0, n, bl, bg, _, b, db, i, pf, rl, lt, fs, xs, ys, rfl, B1, _, rfl, ?_⟩
    rw [(show isG (.defn w x) = false from rfl)]
    refine iteF ⟨_, rfl, r, CR, dx, _, _, rfl, R1.e_r, O.cl, O.na _ (by decide), rfl, .inl ⟨rfl, _, SqL.of R1.e_bl⟩, bl, _, .ref b, rfl, rfl, R1.e_bl, by simp, ?_⟩
    have ed : ((bas' ++ [b]).map V.ref).dropLast = bas'.map V.ref := by simp
    rw [ed]
    have R2 := R1.pop (s' := { s with cur := none }) EE rfl rfl rfl rfl rfl
    have B2 := B1.oth (o := .lst (bas'.map V.ref)) R1.e_bl (BlkE.nL ⟨_, _, _, _, _, _, _, _, B1⟩ R1.e_bl) (fun _ y => by cases y) (.inr (.inl rfl))
    revert R2 B2
    generalize upd H1 bl (.lst (bas'.map V.ref)) = H2
    intro R2 B2
    obtain rfl : bas' = [] := List.eq_nil_of_length_eq_zero hl
    refine ⟨_, rfl, r, CR, dx, _, _, rfl, R2.e_r, O.cl, O.na _ (by decide), rfl, by show 0 ≤ sizeLine; decide, fun p2 np2 => ⟨bl, p2, _, rfl, rfl, SqL.of (kn R2.e_bl np2), SqL.of upd_same, _, rfl, ?_⟩⟩
    have R3 := R2.same (same_ext (o := .lst []) np2)
    have B3 := B2.same (same_ext (o := .lst []) np2)
    revert R3 B3
    generalize upd H2 p2 (.lst []) = H3
    intro R3 B3
    refine iteT ⟨_, rfl, b, CB, db, _, _, rfl, B3.e_b, OB.cl, OB.na _ (by decide), rfl, rl, xs, rfl, .inl ⟨SqL.of B3.e_rwl, fun l nl => ?_⟩⟩
    have R4 := R3.same (same_ext (o := .tup xs) nl)
    have B4 := B3.same (same_ext (o := .tup xs) nl)
    revert R4 B4
    generalize upd H3 l (.tup xs) = H4
    intro R4 B4
    have nx := hf w x hc
    have efs : fs = [.str x] := B4.e_fs
    subst efs
    cases w with
    | true =>
      refine ⟨_, rfl, r, CR, dx, _, _, rfl, R4.e_r, O.cl, O.na _ (by decide), rfl, _, rfl, b, CB, db, _, _, rfl, B4.e_b, OB.cl, OB.na _ (by decide), rfl, tl, .ref tw, rfl, dg R4.e_tl rfl, _, rfl, b, CB, db, _, _, rfl, B4.e_b, OB.cl, OB.na _ (by decide), rfl, pf, _, 0, _, rfl, rfl, SqT.of B4.e_f, rfl, tw, _, rfl, dp R4.e_tw (by have := R4.l1; omega) rfl, ?_⟩
      exact q _ (R4.tellW x _ nx).at
    | false =>
      refine ⟨_, rfl, r, CR, dx, _, _, rfl, R4.e_r, O.cl, O.na _ (by decide), rfl, _, rfl, b, CB, db, _, _, rfl, B4.e_b, OB.cl, OB.na _ (by decide), rfl, tl, .ref tj, rfl, dg R4.e_tl rfl, _, rfl, b, CB, db, _, _, rfl, B4.e_b, OB.cl, OB.na _ (by decide), rfl, pf, _, 0, _, rfl, rfl, SqT.of B4.e_f, rfl, tj, _, rfl, dp R4.e_tj (by have := R4.l2; omega) rfl, ?_⟩
      exact q _ (R4.tellJ x _ nx).at
  | @fin1 k rest hc hi hk =>
    have EE := bks_inner hc hi
    have hg : isG (.inn k) = false := by cases k <;> first | rfl | exact absurd rfl hk
    obtain ⟨bas', b, rfl, hl, db, i, pf, rl, lt, fs, xs, ys, B⟩ := R.last EE
    refine ⟨_, rfl, r, CR, dx, _, _, rfl, R.e_r, O.cl, O.na _ (by decide), rfl, by show 0 ≤ sizeLine; decide, fun p np => ⟨bl, p, _, rfl, rfl, SqL.of (kn R.e_bl np), SqL.of upd_same, _, rfl, ?_⟩⟩
    have R1 := R.same (same_ext (o := .lst []) np)
    have B1 := B.same (same_ext (o := .lst []) np)
    revert R1 B1
    generalize upd H p (.lst []) = H1
    intro R1 B1
    rw [show (false != ((bas' ++ [b]).map V.ref).isEmpty) = false by simp]
    refine iteF ⟨_, rfl, r, CR, dx, _, _, rfl, R1.e_r, O.cl, O.na _ (by decide), rfl, _, rfl, bl, _, _, _, rfl, rfl, SqL.of R1.e_bl, by rw [List.map_append]; exact atI_last _ _, ?_⟩
    refine ⟨b, db, _, rfl, B1.e_b, rfl, H0, n, bl, bg, _, b, db, i, pf, rl, lt, fs, xs, ys, rfl, B1, _, rfl, ?_⟩
    rw [hg]
    refine iteF ⟨_, rfl, r, CR, dx, _, _, rfl, R1.e_r, O.cl, O.na _ (by decide), rfl, .inl ⟨rfl, _, SqL.of R1.e_bl⟩, bl, _, .ref b, rfl, rfl, R1.e_bl, by simp, ?_⟩
    have ed : ((bas' ++ [b]).map V.ref).dropLast = bas'.map V.ref := by simp
    rw [ed]
    have R2 := R1.pop (s' := { s with inner := rest }) EE rfl rfl rfl rfl rfl
    have B2 := B1.oth (o := .lst (bas'.map V.ref)) R1.e_bl (BlkE.nL ⟨_, _, _, _, _, _, _, _, B1⟩ R1.e_bl) (fun _ y => by cases y) (.inr (.inl rfl))
    revert R2 B2
    generalize upd H1 bl (.lst (bas'.map V.ref)) = H2
    intro R2 B2
    have nb : bas' ≠ [] := fun z => by
      have q1 := bks_len (s := { s with inner := rest }) hc
      rw [z] at hl
      rw [← hl] at q1
      cases q1
    refine ⟨_, rfl, r, CR, dx, _, _, rfl, R2.e_r, O.cl, O.na _ (by decide), rfl, by show 0 ≤ sizeLine; decide, fun p2 np2 => ⟨bl, p2, _, rfl, rfl, SqL.of (kn R2.e_bl np2), SqL.of upd_same, _, rfl, ?_⟩⟩
    rw [show (false != (bas'.map V.ref).isEmpty) = false by cases bas' with | nil => exact absurd rfl nb | cons _ _ => rfl]
    have R3 := R2.same (same_ext (o := .lst []) np2)
    have B3 := B2.same (same_ext (o := .lst []) np2)
    revert R3 B3
    generalize upd H2 p2 (.lst []) = H3
    intro R3 B3
    refine iteF ⟨_, rfl, r, dx, _, rfl, R3.e_r, rfl, _, rfl, b, db, _, rfl, B3.e_b, rfl, H0, n, bl, bg, _, b, db, i, pf, rl, lt, fs, xs, ys, rfl, B3, hn, fun v H4 s4 => ?_⟩
    refine ⟨H0, r, _, n, v, rfl, (R3.same s4).at, hc, hn, fun H' h => q H' h⟩
end
end K8
set_option Elab.async false
set_option linter.all false
set_option maxRecDepth 100000
set_option maxHeartbeats 4000000
/-! The walks of Reader's readings of rows. -/
namespace K8
open PySem L2
/-- within a comprehension the reading may not name its frame -/
theorem pe_fldK {X : Cx} {K : PySem.W.Frag} {e : Expr} {f : Str} {pos : Pos} {ta : TE} (hK : X.K = K) (he : PE X e ta) (hb : attributeBase e f X.env (eval e X.env) = eval e X.env) : PE X (.Attribute e f pos) (tFld K ta f) := by
  subst hK
  exact pe_fld he hb
structure MakR (P : Program) (w : World) (K : PySem.W.Frag) (mg : Str → Option Value) (base : Heap) (k : Nat) (x : Str) (C : Addr) (sp : Sp) : Prop where
  ex : ∃ f, Mk K C f ∧ FnR P w K mg base CX0 k f sp ∧ mg x = some (.ref C)
theorem pe_mkR {X : Cx} {k j : Nat} {C : Addr} {x : Str} {sp : Sp} {p pos : Pos} {e : Expr} {es : List Expr} {t : TA} (c : MakR X.prog X.w X.K X.mg X.base k x C sp) (hr : Room j X.A) (hk : k + 1 ≤ j) (hg : Gl X x) (ha : PA X (e :: es) t) (hdb : (x == ("__debug__" : Str)) = false := by decide)
    (he : starEach (e :: es) X.env = (false, eval e X.env) :: starEach es X.env := by rfl) (hpl : (backTo pos (starEach es X.env)).any (·.1) = false := by rfl) : PE X (.Call (.Name x p) (e :: es) [] pos) (StX.tMakeR C sp C8.E0 t) := by
  obtain ⟨f, M, F, hm⟩ := c.ex
  exact StX.pe_makeR M F (hr.mono hk) hg hm C8.pass0 ha hdb he hpl
theorem RSt.first {CB CR : Addr} {H0 H : Hp} {r : Addr} {s : S} {n : Nat} {dx tl tw tj bl gt bg : Addr} {kw kj kg : List (Key × V)} {bas : List Addr} (h : RSt CB CR H0 H r s n dx tl tw tj bl gt bg kw kj kg bas) {ks : List BK} {k : BK} (e : bks s = k :: ks) : ∃ bas' b, bas = b :: bas' ∧ BlkE CB H0 H n bl bg k b := by
  have hl := h.len
  rw [e] at hl
  cases bas with
  | nil => cases hl
  | cons b bas' => exact ⟨bas', b, rfl, h.bat 0 k b (by rw [e]; rfl) rfl⟩
theorem bks_mem {s : S} {k : BK} (h : k ∈ bks s) : (∃ w x, k = .defn w x) ∨ ∃ b, b ∈ s.inner ∧ k = .inn b := by
  unfold bks at h
  cases hc : s.cur with
  | none => rw [hc] at h; cases h
  | some c =>
    rw [hc] at h
    rcases List.mem_cons.mp h with rfl | h
    · exact .inl ⟨_, _, rfl⟩
    · obtain ⟨b, hb, rfl⟩ := List.mem_map.mp h
      exact .inr ⟨b, List.mem_reverse.mp hb, rfl⟩
/-- every block of the list is one of the state's -/
theorem RSt.mem {CB CR : Addr} {H0 H : Hp} {r : Addr} {s : S} {n : Nat} {dx tl tw tj bl gt bg : Addr} {kw kj kg : List (Key × V)} {bas : List Addr} (h : RSt CB CR H0 H r s n dx tl tw tj bl gt bg kw kj kg bas) {x : V} (hx : x ∈ bas.map V.ref) : ∃ b k, x = .ref b ∧ k ∈ bks s ∧ BlkE CB H0 H n bl bg k b := by
  obtain ⟨b, hb, rfl⟩ := List.mem_map.mp hx
  obtain ⟨j, hj⟩ := List.getElem?_of_mem hb
  have hl : j < (bks s).length := by rw [← h.len]; exact (List.getElem?_eq_some_iff.mp hj).1
  exact ⟨b, (bks s)[j], rfl, List.getElem_mem hl, h.bat j _ b (List.getElem?_eq_getElem hl) hj⟩
theorem no_late {s : S} {k : BK} (h : k ∈ bks s) (hl : Blk.late ∉ s.inner) : ¬ k.part = V.str "late" := by
  rcases bks_mem h with ⟨_, _, rfl⟩ | ⟨b, hb, rfl⟩
  · exact fun z => by cases z
  · cases b with
    | late => exact absurd hb hl
    | mend => exact fun z => absurd (V.str.inj z) (by decide)
    | _ => exact fun z => by cases z
theorem no_each {s : S} {k : BK} {x : Str} (h : k ∈ bks s) (hl : Blk.each x .kept ∉ s.inner) : isK x k = false := by
  rcases bks_mem h with ⟨_, _, rfl⟩ | ⟨b, hb, rfl⟩
  · rfl
  · cases b with
    | each y how =>
      cases how with
      | kept => exact decide_eq_false fun z => hl (by rw [← z]; exact hb)
      | _ => rfl
    | _ => rfl
section
variable {P : Program} {w : World} {K : PySem.W.Frag} {mg : Str → Option Value} {base : Heap} {f : Addr} {fd : FuncData} {CB CR : Addr}
abbrev sRgive : Stmt := cls 18 11
abbrev sRpull : Stmt := cls 18 12
abbrev sRdef : Stmt := cls 18 5
theorem scRgive : FnScope ["self", "block"] ["self"] (defScope sRgive) := ⟨rfl, rfl, rfl, by decide +kernel, rfl, by decide +kernel, by decide +kernel⟩
theorem scRpull : FnScope ["self", "walk", "how", "block"] ["self", "walk", "how"] (defScope sRpull) := ⟨rfl, rfl, rfl, by decide +kernel, rfl, by decide +kernel, by decide +kernel⟩
theorem scRdef : FnScope ["self", "sort", "at", "name"] ["self", "sort", "at", "name"] (defScope sRdef) := ⟨rfl, rfl, rfl, by decide +kernel, rfl, by decide +kernel, by decide +kernel⟩
def spRgive (CB CR : Addr) : Sp := fun vs H Q _ => ∃ (H0 : Hp) (r : Addr) (s : S) (n : Nat) (x : Str), vs = [.ref r] ∧ RAt CB CR H0 H r s n ∧ n ≤ 300 ∧ s.cur = some (true, x) ∧ Blk.late ∉ s.inner ∧ ∀ H', Same H H' → Q (.bl true) H'
theorem ok_rgive (OB : OwnC K CB fBlock) (O : OwnC K CR fReader) (F : Fun K "may_give" "Reader.may_give" sRgive f fd) (m_any : mg "any" = none) : FnOk P w K mg base CX0 1 f fd ["self"] (spRgive CB CR) := by
  refine F.ok scRgive (fun vs H Q E h => ?_) (fun cdv A outer s H vs Q E hr h => ?_)
  · obtain ⟨_, _, _, _, _, rfl, _⟩ := h
    rfl
  obtain ⟨H0, r, s, n, x, rfl, ⟨dx, tl, tw, tj, bl, gt, bg, kw, kj, kg, bas, R⟩, hn, hc, hl, q⟩ := h
  have nd := scRgive.nd
  refine ⟨_, (pss_one (ps_ret (pe_and (pe_cmpR op_eq (pe_fld (pe_ix ix_list (pe_fld (pv 0) rfl) pe_int (fun _ _ => rfl)) rfl) pe_str (nomark _)) (pe_one (pe_not (pe_callB (cr_any rfl) (by rfl) m_any (by decide +kernel) (pa_cons (pe_lc  (own := [("block", 1)]) (g := gName 1) (tt := tYes) rfl nd (pi_list (pe_fld (pv 0) rfl)) (blkOk_by (own := [("block", 1)]) (N := ["self", "block"]) (sc := defScope (cls 18 11)) (by decide +kernel)) (fun _ _ _ _ _ => (pg_name (i := 1) nd rfl (.inl rfl))) (fun _ _ _ _ _ => pts_nil) (fun _ _ _ _ _ => (pe_cmpR op_eq (K8.pe_fldK (K := K) rfl (pv 1) (by rfl)) pe_str (nomark _)))) pa_nil))))))), ?_⟩
  obtain ⟨bas', b, rfl, db, i, pf, rl, lt, fs, xs, ys, B⟩ := R.first (bks_some hc)
  refine ⟨_, rfl, r, CR, dx, _, _, rfl, R.e_r, O.cl, O.na _ (by decide), rfl, bl, _, 0, _, rfl, rfl, SqL.of R.e_bl, atI_nat (j := 0) rfl, b, CB, db, _, _, rfl, B.e_b, OB.cl, OB.na _ (by decide), rfl, rfl, _, rfl, iteT ?_⟩
  unfold tNotV tCB tCons tNil
  dsimp only [List.map]
  have l5 := R.l5
  refine lc_listG bl ((b :: bas').map V.ref) (fun _ => true) (fun _ => .bl false) (fun R' hR => ⟨_, rfl, r, CR, dx, _, _, rfl, R.e_r, O.cl, O.na _ (by decide), rfl, bl, rfl, ⟨_, SqL.of R.e_bl⟩, hR⟩) (SqL.of R.e_bl) (by rw [List.length_map]; omega) (fun D H1 nD s1 hD => ?_) (fun y H1 Q' hy s1 z => z _ (Same.refl _)) (fun y H1 Q' hy _ s1 z => ?_)
  · refine ⟨D, ((b :: bas').map V.ref).map fun _ => false, rfl, ?_, _, rfl, ?_⟩
    · rw [List.map_map]
      rw [List.filter_eq_self.mpr (fun _ _ => rfl)] at hD
      exact SqL.of hD
    · rw [show ((((b :: bas').map V.ref).map fun _ => false).any id) = false by simp]
      exact q _ s1
  · obtain ⟨b', k', rfl, hk', db', i', pf', rl', lt', fs', xs', ys', B'⟩ := R.mem hy
    refine ⟨_, rfl, b', CB, db', _, _, rfl, s1 _ _ B'.e_b, OB.cl, OB.na _ (by decide), rfl, ?_, ?_⟩
    · rcases bks_mem hk' with ⟨_, _, rfl⟩ | ⟨b1, _, rfl⟩
      · rfl
      · cases b1 <;> rfl
    · rw [decide_eq_false (no_late hk' hl)]
      exact z _ (Same.refl _)
def spRpull (CB CR : Addr) : Sp := fun vs H Q _ => ∃ (H0 : Hp) (r : Addr) (s : S) (n : Nat) (wk : Str) (how : How), vs = [.ref r, .str wk, .str how.word] ∧ RAt CB CR H0 H r s n ∧ n ≤ 300 ∧ Nm wk ∧ wk ∈ s.walks ∧ (how = .kept → (∃ x, s.cur = some (false, x)) ∧ Blk.each wk .kept ∉ s.inner) ∧ ∀ H', Same H H' → Q (.bl true) H'
theorem ok_rpull {ph : Addr} (OB : OwnC K CB fBlock) (O : OwnC K CR fReader) (F : Fun K "may_pull" "Reader.may_pull" sRpull f fd) (c_Block_keeps : C8.Met P w K mg base 1 CB "keeps" (spBkeeps CB) []) (m_any : mg "any" = none) (g_HOWS : ∃ u, mg "HOWS" = some u ∧ RelV (.ref ph) u) (hh : KTup K ph [.str "closed", .str "dropped", .str "kept"]) : FnOk P w K mg base CX0 2 f fd ["self", "walk", "how"] (spRpull CB CR) := by
  refine F.ok scRpull (fun vs H Q E h => ?_) (fun cdv A outer s H vs Q E hr h => ?_)
  · obtain ⟨_, _, _, _, _, _, rfl, _⟩ := h
    rfl
  obtain ⟨H0, r, s, n, wk, how, rfl, ⟨dx, tl, tw, tj, bl, gt, bg, kw, kj, kg, bas, R⟩, hn, nm, hw, hk, q⟩ := h
  have nd := scRpull.nd
  have hu := hu_of hr
  refine ⟨_, (pss_cons (ps_if (PW.pt (pw_or (pt_cmp (pc_dnotin hu (pv 1) (pe_dget hu (pe_fld (pv 0) rfl) pe_str (fun _ _ => rfl)))) (pw_or1 (pt_cmpR op_notIn_seq (pv 2) (C8.pe_gc rfl g_HOWS) (by rfl))))) (pss_one (ps_ret pe_bl)) pss_nil)
    (pss_cons (ps_if (pt_cmpR op_ne (pv 2) pe_str (nomark _)) (pss_one (ps_ret pe_bl)) pss_nil)
    (pss_one (ps_ret (pe_and (pe_cmpR op_eq (pe_fld (pe_ix ix_list (pe_fld (pv 0) rfl) pe_int (fun _ _ => rfl)) rfl) pe_str (nomark _)) (pe_one (pe_not (pe_callB (cr_any rfl) (by rfl) m_any (by decide +kernel) (pa_cons (pe_lc  (own := [("block", 3)]) (g := gName 3) (tt := tYes) rfl nd (pi_list (pe_fld (pv 0) rfl)) (blkOk_by (own := [("block", 3)]) (N := ["self", "walk", "how", "block"]) (sc := defScope (cls 18 12)) (by decide +kernel)) (fun _ _ _ _ _ => (pg_name (i := 3) nd rfl (.inl rfl))) (fun _ _ _ _ _ => pts_nil) (fun _ _ _ _ _ => (C8.pe_mt c_Block_keeps hr (by omega) (pv 3) (pa_cons (pv 1) pa_nil)))) pa_nil))))))))), ?_⟩
  have hin := keys_mem R.e_kw wk
  rw [decide_eq_true hw] at hin
  refine ⟨_, rfl, _, rfl, r, CR, dx, _, _, rfl, R.e_r, O.cl, O.na _ (by decide), rfl, tl, .ref tw, rfl, dg R.e_tl rfl, tw, _, rfl, dgo R.e_tw, _, rfl, ?_⟩
  rw [hin]
  refine iteF ⟨_, rfl, ph, _, rfl, .inr (hh H), rfl, rfl, _, rfl, ?_⟩
  rw [show (if true = true then !inV (.str how.word) [.str "closed", .str "dropped", .str "kept"] else inV (.str how.word) [.str "closed", .str "dropped", .str "kept"]) = false by cases how <;> decide +kernel]
  refine iteF ⟨_, rfl, rfl, _, rfl, ?_⟩
  by_cases hkp : how = .kept
  · subst hkp
    obtain ⟨⟨x, hc⟩, hl⟩ := hk rfl
    rw [show (!decide (V.str How.kept.word = V.str "kept")) = false from rfl]
    refine iteF ?_
    obtain ⟨bas', b, rfl, db, i, pf, rl, lt, fs, xs, ys, B⟩ := R.first (bks_some hc)
    refine ⟨_, rfl, r, CR, dx, _, _, rfl, R.e_r, O.cl, O.na _ (by decide), rfl, bl, _, 0, _, rfl, rfl, SqL.of R.e_bl, atI_nat (j := 0) rfl, b, CB, db, _, _, rfl, B.e_b, OB.cl, OB.na _ (by decide), rfl, rfl, _, rfl, iteT ?_⟩
    unfold tNotV tCB tCons tNil
    dsimp only [List.map]
    have l5 := R.l5
    refine lc_listG bl ((b :: bas').map V.ref) (fun _ => true) (fun _ => .bl false) (fun R' hR => ⟨_, rfl, r, CR, dx, _, _, rfl, R.e_r, O.cl, O.na _ (by decide), rfl, bl, rfl, ⟨_, SqL.of R.e_bl⟩, hR⟩) (SqL.of R.e_bl) (by rw [List.length_map]; omega) (fun D H1 nD s1 hD => ?_) (fun y H1 Q' hy s1 z => z _ (Same.refl _)) (fun y H1 Q' hy _ s1 z => ?_)
    · refine ⟨D, ((b :: bas').map V.ref).map fun _ => false, rfl, ?_, _, rfl, ?_⟩
      · rw [List.map_map]
        rw [List.filter_eq_self.mpr (fun _ _ => rfl)] at hD
        exact SqL.of hD
      · rw [show ((((b :: bas').map V.ref).map fun _ => false).any id) = false by simp]
        exact q _ s1
    · obtain ⟨b', k', rfl, hk', db', i', pf', rl', lt', fs', xs', ys', B'⟩ := R.mem hy
      refine ⟨_, rfl, b', db', _, rfl, s1 _ _ B'.e_b, rfl, _, rfl, H0, n, bl, bg, k', b', db', i', pf', rl', lt', fs', xs', ys', wk, rfl, nm, B'.same s1, fun H2 s2 => ?_⟩
      rw [no_each hk' hl]
      exact z _ s2
  · rw [show (!decide (V.str how.word = V.str "kept")) = true by cases how with | kept => exact absurd rfl hkp | _ => rfl]
    exact iteT (q H (Same.refl H))
def spRdef (CB CR : Addr) : Sp := fun vs H Q _ => ∃ (H0 : Hp) (r : Addr) (s : S) (n : Nat) (wk : Bool) (i : Int) (x : Str), vs = [.ref r, .str (dword wk), .int i, .str x] ∧ RAt CB CR H0 H r s n ∧ n ≤ 300 ∧ Nm x ∧ s.cur = none ∧ s.inner = [] ∧ x ∉ s.told wk ∧ ∀ H', RAt CB CR H0 H' r { s with cur := some (wk, x) } (n + 1) → Q (.bl true) H'
theorem ok_rdef (O : OwnC K CR fReader) (F : Fun K "opened_definition" "Reader.opened_definition" sRdef f fd) (c_is_name : C8.Cal P w K mg base 2 "is_name" spName []) (c_Block : MakR P w K mg base 1 "Block" CB (spBinit CB)) : FnOk P w K mg base CX0 3 f fd ["self", "sort", "at", "name"] (spRdef CB CR) := by
  refine F.ok scRdef (fun vs H Q E h => ?_) (fun cdv A outer s H vs Q E hr h => ?_)
  · obtain ⟨_, _, _, _, _, _, _, rfl, _⟩ := h
    rfl
  obtain ⟨H0, r, s, n, wk, i, x, rfl, ⟨dx, tl, tw, tj, bl, gt, bg, kw, kj, kg, bas, R⟩, hn, nm, hc, hi, hx, q⟩ := h
  have nd := scRdef.nd
  have hu := hu_of hr
  refine ⟨_, (pss_cons (ps_if (PW.pt (pw_or (pt_cmpR (op_neE hr.units0) (pe_fld (pv 0) rfl) (pe_lst pa_nil) (nomark _)) (pw_or (pt_not (pt_val (C8.pe_c c_is_name hr (by omega) rfl (pa_cons (pv 3) pa_nil)))) (pw_or1 (pt_cmp (pc_din hu (pv 3) (pe_dget hu (pe_fld (pv 0) rfl) (pv 1) (fun _ _ => rfl)))))))) (pss_one (ps_ret pe_bl)) pss_nil)
    (pss_cons (ps_expr (pe_bm PySem.F.plainAttrs_list PySem.F.slot_list_append PySem.F.type_list_append mt_append (pe_fld (pv 0) rfl) (pa_cons (K8.pe_mkR c_Block hr (by omega) rfl (pa_cons (pv 1) (pa_cons (pv 2) (pa_cons (pv 3) pa_nil)))) pa_nil)))
    (pss_one (ps_ret pe_bl)))), ?_⟩
  have eb : bas = [] := List.eq_nil_of_length_eq_zero (by rw [R.len, bks_none hc]; rfl)
  subst eb
  refine ⟨_, rfl, r, CR, dx, _, _, rfl, R.e_r, O.cl, O.na _ (by decide), rfl, by show 0 ≤ sizeLine; decide, fun p np => ⟨bl, p, _, rfl, rfl, SqL.of (kn R.e_bl np), SqL.of upd_same, _, rfl, ?_⟩⟩
  have R1 := R.same (same_ext (o := .lst []) np)
  revert R1
  generalize upd H p (.lst []) = H1
  intro R1
  refine iteF ⟨_, rfl, x, rfl, nm, fun H2 s2 => ⟨_, rfl, iteF ?_⟩⟩
  have R2 := R1.same s2
  have fin : tSeq (tDrop (tBM K "list" rAppend (tFld K (tVar 0) "blocks") (tCons (StX.tMakeR CB (spBinit CB) C8.E0 (tCons (tVar 1) (tCons (tVar 2) (tCons (tVar 3) tNil)))) tNil))) (tRet (tC (.bl true))) { nx := fun _ H' => Q .non H', rt := Q } [some (.ref r), some (.str (dword wk)), some (.int i), some (.str x)] H2 := by
    refine ⟨_, rfl, r, CR, dx, _, _, rfl, R2.e_r, O.cl, O.na _ (by decide), rfl, .inl ⟨rfl, _, SqL.of R2.e_bl⟩, _, rfl, _, rfl, _, rfl, fun b db nb ndb nbd => ⟨b, db, dword wk, i, [.str x], rfl, by show 1 ≤ 3; decide, upd_same, fun H3 pf l1 l2 bt e1 e2 e3 e4 f1 f2 => ⟨rfl, ?_⟩⟩⟩
    have s3 : Same H2 H3 := fun c o ho => bt c o (kn (kn ho ndb) (by rw [upd_ne (Ne.symm nbd)]; exact nb)) (n1 (ne_of_none ho nb))
    have f1' := (fr (fr f1).1).1
    have f2' := (fr (fr f2).1).1
    have R3 := R2.same s3
    refine ⟨bl, _, .ref b, rfl, rfl, R3.e_bl, by show 0 < sizeLine; decide, ?_⟩
    refine q _ (R3.push (s' := { s with cur := some (wk, x) }) (k := .defn wk x) (b := b) ⟨db, i, pf, l1, l2, [.str x], [], [], ?_⟩ (by simp) ?_ rfl rfl rfl rfl rfl).at
    · exact { e_b := e1, e_f := e2, e_fs := rfl, e_rwl := e3, e_xs := Nat.zero_le _, e_lt := e4, e_ys := Nat.zero_le _, nrl := (ne_of_none R2.e_bl f1').symm, nrg := (ne_of_none R2.e_bg f1').symm, nll := (ne_of_none R2.e_bl f2').symm, nlg := (ne_of_none R2.e_bg f2').symm, fb := none_of R2.sm nb, fr := none_of R2.sm f1', fl := none_of R2.sm f2' }
    · show bks _ = bks s ++ _
      rw [bks_none hc, bks_some (s := { s with cur := some (wk, x) }) rfl]
      show _ :: (s.inner.reverse.map BK.inn) = _
      rw [hi]
      rfl
  cases wk with
  | true =>
    have hin := keys_mem R2.e_kw x
    rw [decide_eq_false (show x ∉ s.walks from hx)] at hin
    refine ⟨_, rfl, _, rfl, r, CR, dx, _, _, rfl, R2.e_r, O.cl, O.na _ (by decide), rfl, _, rfl, tl, .ref tw, rfl, dg R2.e_tl rfl, tw, _, rfl, dgo R2.e_tw, _, rfl, ?_⟩
    rw [hin]
    exact iteF fin
  | false =>
    have hin := keys_mem R2.e_kj x
    rw [decide_eq_false (show x ∉ s.jobs from hx)] at hin
    refine ⟨_, rfl, _, rfl, r, CR, dx, _, _, rfl, R2.e_r, O.cl, O.na _ (by decide), rfl, _, rfl, tl, .ref tj, rfl, dg R2.e_tl rfl, tj, _, rfl, dgo R2.e_tj, _, rfl, ?_⟩
    rw [hin]
    exact iteF fin
end
end K8
set_option Elab.async false
set_option linter.all false
set_option maxRecDepth 100000
set_option maxHeartbeats 4000000
/-! The walks of Reader.alone, pulled, within, take. -/
namespace K8
open PySem L2
theorem mk_blk {CB CR : Addr} {H0 H1 H2 : Hp} {r : Addr} {s : S} {n : Nat} {dx tl tw tj bl gt bg : Addr} {kw kj kg : List (Key × V)} {bas : List Addr} {b db pf l1 l2 : Addr} {k : BK} {i : Int} {rest : List V} (R : RSt CB CR H0 H1 r s n dx tl tw tj bl gt bg kw kj kg bas)
    (nb : H1 b = none) (ndb : H1 db = none) (nbd : db ≠ b) (bt : But [b] (upd (upd H1 db (.own b)) b (.ins CB db [])) H2) (e1 : H2 b = some (.ins CB db (bIns k.word i pf .non l1 l2))) (e2 : H2 pf = some (.tup rest)) (e3 : H2 l1 = some (.lst [])) (e4 : H2 l2 = some (.lst []))
    (f1 : (upd (upd H1 db (.own b)) b (.ins CB db [])) l1 = none) (f2 : (upd (upd H1 db (.own b)) b (.ins CB db [])) l2 = none) (hp : k.part = .non) (hf : k.Fs rest) : Same H1 H2 ∧ BlkE CB H0 H2 n bl bg k b ∧ b ∉ bas := by
  have s3 : Same H1 H2 := fun c o ho => bt c o (kn (kn ho ndb) (by rw [upd_ne (Ne.symm nbd)]; exact nb)) (n1 (ne_of_none ho nb))
  have f1' := (fr (fr f1).1).1
  have f2' := (fr (fr f2).1).1
  refine ⟨s3, ⟨db, i, pf, l1, l2, rest, [], [], ?_⟩, fun hb => ?_⟩
  · exact { e_b := by rw [hp]; exact e1, e_f := e2, e_fs := hf, e_rwl := e3, e_xs := Nat.zero_le _, e_lt := e4, e_ys := Nat.zero_le _, nrl := (ne_of_none R.e_bl f1').symm, nrg := (ne_of_none R.e_bg f1').symm, nll := (ne_of_none R.e_bl f2').symm, nlg := (ne_of_none R.e_bg f2').symm, fb := none_of R.sm nb, fr := none_of R.sm f1', fl := none_of R.sm f2' }
  · obtain ⟨b', k', e, _, db', i', pf', rl', lt', fs', xs', ys', B'⟩ := R.mem (x := .ref b) (List.mem_map_of_mem hb)
    injection e with e
    have q := B'.e_b
    rw [← e, nb] at q
    cases q
theorem Step.curN {s s' : S} {row : Row} (h : Step s row s') (hd : row.isDef = false) : s.cur ≠ none := fun z => by
  rw [h.cur_iff.mp z] at hd
  cases hd
theorem in_lm (l : Bool) : (if false = true then !inV (.str (tword l)) [.str "late", .str "mend"] else inV (.str (tword l)) [.str "late", .str "mend"]) = true := by cases l <;> decide +kernel
theorem dig_int : ∀ d ∈ digs, (PySem.intText? d).isSome = true := by decide +kernel
theorem in_named (k : NK) : (if false = true then !inV (.str k.word) [.str "say", .str "wait", .str "open", .str "begin", .str "fail"] else inV (.str k.word) [.str "say", .str "wait", .str "open", .str "begin", .str "fail"]) = true := by cases k <;> decide +kernel
theorem in_23 (wk : Str) (how : How) (t : Option Str) : (if false = true then !inV (.int (((wk :: how.word :: t.toList).map V.str).length : Nat)) [.int 2, .int 3] else inV (.int (((wk :: how.word :: t.toList).map V.str).length : Nat)) [.int 2, .int 3]) = true := by
  cases t with
  | none => rfl
  | some d => rfl
theorem in_wj (w : Bool) : (if false = true then !inV (.str (dword w)) [.str "walk", .str "job"] else inV (.str (dword w)) [.str "walk", .str "job"]) = true := by cases w <;> decide +kernel
section
variable {P : Program} {w : World} {K : PySem.W.Frag} {mg : Str → Option Value} {base : Heap} {f : Addr} {fd : FuncData} {CB CR : Addr}
abbrev sRalone : Stmt := cls 18 3
abbrev sRpulled : Stmt := cls 18 4
abbrev sRwithin : Stmt := cls 18 2
abbrev sRtake : Stmt := cls 18 1
theorem scRalone : FnScope ["self", "at", "word"] ["self", "at", "word"] (defScope sRalone) := ⟨rfl, rfl, rfl, by decide +kernel, rfl, by decide +kernel, by decide +kernel⟩
theorem scRpulled : FnScope ["self", "at", "rest", "walk", "how", "times", "figure"] ["self", "at", "rest"] (defScope sRpulled) := ⟨rfl, rfl, rfl, by decide +kernel, rfl, by decide +kernel, by decide +kernel⟩
theorem scRwithin : FnScope ["self", "at", "word", "rest"] ["self", "at", "word", "rest"] (defScope sRwithin) := ⟨rfl, rfl, rfl, by decide +kernel, rfl, by decide +kernel, by decide +kernel⟩
theorem scRtake : FnScope ["self", "at", "parts", "word", "rest"] ["self", "at", "parts"] (defScope sRtake) := ⟨rfl, rfl, rfl, by decide +kernel, rfl, by decide +kernel, by decide +kernel⟩
def isFin : Row → Bool
  | .fin => true
  | _ => false
def spRalone (CB CR : Addr) : Sp := fun vs H Q _ => ∃ (H0 : Hp) (r : Addr) (s s' : S) (n : Nat) (i : Int) (row : Row) (wd : Str), vs = [.ref r, .int i, .str wd] ∧ row.parts = [wd] ∧ isFin row = false ∧ RAt CB CR H0 H r s n ∧ n ≤ 290 ∧ Step s row s' ∧ ∀ H', RAt CB CR H0 H' r s' (n + 2) → Q (.bl true) H'
theorem ok_ralone (O : OwnC K CR fReader) (F : Fun K "alone" "Reader.alone" sRalone f fd) (c_Reader_turned : C8.Met P w K mg base 2 CR "turned" (spRturned CB CR) []) (c_Reader_opened : C8.Met P w K mg base 1 CR "opened" (spRopened CB CR) []) (c_Block : MakR P w K mg base 1 "Block" CB (spBinit CB)) (c_Reader_may_give : C8.Met P w K mg base 1 CR "may_give" (spRgive CB CR) []) (c_Reader_added : C8.Met P w K mg base 2 CR "added" (spRadded CB CR) []) :
    FnOk P w K mg base CX0 3 f fd ["self", "at", "word"] (spRalone CB CR) := by
  refine F.ok scRalone (fun vs H Q E h => ?_) (fun cdv A outer s H vs Q E hr h => ?_)
  · obtain ⟨_, _, _, _, _, _, _, _, rfl, _⟩ := h
    rfl
  obtain ⟨H0, r, s, s', n, i, row, wd, rfl, hp, hf, ⟨dx, tl, tw, tj, bl, gt, bg, kw, kj, kg, bas, R⟩, hn, st, q⟩ := h
  have nd := scRalone.nd
  refine ⟨_, (pss_cons (ps_if (pt_cmpR op_in_seq (pv 2) (pe_tup (pa_cons pe_str (pa_cons pe_str pa_nil))) (by rfl)) (pss_one (ps_ret (C8.pe_mt c_Reader_turned hr (by omega) (pv 0) (pa_cons (pv 2) pa_nil)))) pss_nil)
    (pss_cons (ps_if (pt_cmpR op_eq (pv 2) pe_str (nomark _)) (pss_one (ps_ret (C8.pe_mt c_Reader_opened hr (by omega) (pv 0) (pa_cons (K8.pe_mkR c_Block hr (by omega) rfl (pa_cons pe_str (pa_cons (pv 1) pa_nil))) pa_nil)))) pss_nil)
    (pss_cons (ps_if (pt_cmpR op_eq (pv 2) pe_str (nomark _)) (pss_one (ps_ret (pe_and (C8.pe_mt0 c_Reader_may_give hr (by omega) (pv 0)) (pe_one (C8.pe_mt c_Reader_added hr (by omega) (pv 0) (pa_cons (pe_tup (pa_cons pe_str (pa_cons (pv 1) pa_nil))) pa_nil)))))) pss_nil)
    (pss_one (ps_ret (pe_and (pe_cmpR op_eq (pv 2) pe_str (nomark _)) (pe_one (C8.pe_mt c_Reader_added hr (by omega) (pv 0) (pa_cons (pe_tup (pa_cons pe_str (pa_cons (pv 1) pa_nil))) pa_nil))))))))), ?_⟩
  have ex : ∀ {a b : Str}, row.parts = [a, b] → False := fun e => by rw [e] at hp; cases (List.cons.inj hp).2
  refine ⟨_, rfl, by show 2 ≤ sizeLine; decide, fun tp ntp => ⟨tp, _, rfl, .inr (SqT.of upd_same), rfl, rfl, _, rfl, ?_⟩⟩
  have R1 := R.same (same_ext (o := .tup [.str "late", .str "mend"]) ntp)
  revert R1
  generalize upd H tp (.tup [.str "late", .str "mend"]) = H1
  intro R1
  cases st with
  | defn _ _ _ _ => exact (ex rfl).elim
  | fin0 _ _ => cases hf
  | fin1 _ _ _ => cases hf
  | named _ _ => exact (ex rfl).elim
  | rep _ _ => exact (ex rfl).elim
  | @each w1 h1 t1 _ _ _ _ _ => cases t1 <;> cases (List.cons.inj hp).2
  | @turn l rest hc hi =>
    have e : tword l = wd := (List.cons.inj hp).1
    subst e
    rw [in_lm l]
    exact iteT ⟨_, rfl, r, dx, _, rfl, R1.e_r, rfl, _, rfl, H0, r, s, n, l, rest, rfl, R1.at, hc, hi, fun H' h => q H' (h.mono (by omega))⟩
  | guard hc =>
    have e : ("guard" : Str) = wd := (List.cons.inj hp).1
    subst e
    rw [show (if false = true then !inV (.str "guard") [.str "late", .str "mend"] else inV (.str "guard") [.str "late", .str "mend"]) = false from by decide +kernel]
    refine iteF ⟨_, rfl, rfl, _, rfl, iteT ⟨_, rfl, r, dx, _, rfl, R1.e_r, rfl, _, rfl, fun b db nb ndb nbd => ⟨b, db, "guard", i, [], rfl, by show 0 ≤ 3; decide, upd_same, fun H2 pf l1 l2 bt e1 e2 e3 e4 f1 f2 => ⟨rfl, ?_⟩⟩⟩⟩
    obtain ⟨s2, B, nbas⟩ := mk_blk (k := .inn .guard) R1 nb ndb nbd bt e1 e2 e3 e4 f1 f2 rfl (by show 0 ≤ 3; decide)
    exact ⟨H0, r, s, n, dx, tl, tw, tj, bl, gt, bg, kw, kj, kg, bas, b, .guard, rfl, R1.same s2, hc, by omega, B, nbas, fun H' h => q H' (h.mono (by omega))⟩
  | @give x hc hl =>
    have e : ("give" : Str) = wd := (List.cons.inj hp).1
    subst e
    have hcn : s.cur ≠ none := by rw [hc]; exact fun z => by cases z
    rw [show (if false = true then !inV (.str "give") [.str "late", .str "mend"] else inV (.str "give") [.str "late", .str "mend"]) = false from by decide +kernel]
    refine iteF ⟨_, rfl, rfl, _, rfl, iteF ⟨_, rfl, rfl, _, rfl, iteT ⟨_, rfl, r, dx, _, rfl, R1.e_r, rfl, H0, r, s, n, x, rfl, R1.at, by omega, hc, hl, fun H2 s2 => ⟨_, rfl, iteT ?_⟩⟩⟩⟩
    exact ⟨_, rfl, r, dx, _, rfl, (R1.same s2).e_r, rfl, _, rfl, by show 2 ≤ sizeLine; decide, fun p np => ⟨H0, r, s, n, .ref p, rfl, ((R1.same s2).same (same_ext np)).at, hcn, by omega, fun H' h => q H' (h.mono (by omega))⟩⟩
  | pause hc =>
    have e : ("pause" : Str) = wd := (List.cons.inj hp).1
    subst e
    rw [show (if false = true then !inV (.str "pause") [.str "late", .str "mend"] else inV (.str "pause") [.str "late", .str "mend"]) = false from by decide +kernel]
    refine iteF ⟨_, rfl, rfl, _, rfl, iteF ⟨_, rfl, rfl, _, rfl, iteF ⟨_, rfl, rfl, _, rfl, iteT ?_⟩⟩⟩
    exact ⟨_, rfl, r, dx, _, rfl, R1.e_r, rfl, _, rfl, by show 2 ≤ sizeLine; decide, fun p np => ⟨H0, r, s, n, .ref p, rfl, (R1.same (same_ext np)).at, hc, by omega, fun H' h => q H' (h.mono (by omega))⟩⟩
def spRpulled (CB CR : Addr) : Sp := fun vs H Q _ => ∃ (H0 : Hp) (r p : Addr) (s s' : S) (n : Nat) (i : Int) (wk : Str) (how : How) (t : Option Str), vs = [.ref r, .int i, .ref p] ∧ H0 p = some (lstS (wk :: how.word :: t.toList)) ∧ RAt CB CR H0 H r s n ∧ n ≤ 290 ∧ Step s (.each wk how t) s' ∧ ∀ H', RAt CB CR H0 H' r s' (n + 2) → Q (.bl true) H'
theorem ok_rpulled (O : OwnC K CR fReader) (F : Fun K "pulled" "Reader.pulled" sRpulled f fd) (c_Reader_may_pull : C8.Met P w K mg base 2 CR "may_pull" (spRpull CB CR) []) (c_Reader_opened : C8.Met P w K mg base 1 CR "opened" (spRopened CB CR) []) (c_Block : MakR P w K mg base 1 "Block" CB (spBinit CB)) (c_is_times : C8.Cal P w K mg base 2 "is_times" spTimes []) (m_all : mg "all" = none) (m_int : mg "int" = none) :
    FnOk P w K mg base CX0 3 f fd ["self", "at", "rest"] (spRpulled CB CR) := by
  refine F.ok scRpulled (fun vs H Q E h => ?_) (fun cdv A outer s H vs Q E hr h => ?_)
  · obtain ⟨_, _, _, _, _, _, _, _, _, _, rfl, _⟩ := h
    rfl
  obtain ⟨H0, r, p, s, s', n, i, wk, how, t, rfl, hp, ⟨dx, tl, tw, tj, bl, gt, bg, kw, kj, kg, bas, R⟩, hn, st, q⟩ := h
  have nd := scRpulled.nd
  refine ⟨_, (pss_cons (ps_asg (pv 2) (pg_star 2 rfl (pgs_cons (pg_name (i := 3) nd rfl (.inl rfl)) (pgs_cons (pg_name (i := 4) nd rfl (.inl rfl)) (pgs_star (pg_name (i := 5) nd rfl (.inl rfl)) pgs_nil)))))
    (pss_cons (ps_if (PW.pt (pw_or (pt_not (pt_val (C8.pe_mt c_Reader_may_pull hr (by omega) (pv 0) (pa_cons (pv 3) (pa_cons (pv 4) pa_nil))))) (pw_or1 (pt_not (pt_val (pe_callB (cr_all rfl) (by rfl) m_all (by decide +kernel) (pa_cons (pe_lc  (own := [("figure", 6)]) (g := gName 6) (tt := tYes) rfl nd (pi_list (pv 5)) (blkOk_by (own := [("figure", 6)]) (N := ["self", "at", "rest", "walk", "how", "times", "figure"]) (sc := defScope (cls 18 4)) (by decide +kernel)) (fun _ _ _ _ _ => (pg_name (i := 6) nd rfl (.inl rfl))) (fun _ _ _ _ _ => pts_nil) (fun _ _ _ _ _ => (C8.pe_c c_is_times hr (by omega) rfl (pa_cons (pv 6) pa_nil)))) pa_nil))))))) (pss_one (ps_ret pe_bl)) pss_nil)
    (pss_one (ps_ret (C8.pe_mt c_Reader_opened hr (by omega) (pv 0) (pa_cons (K8.pe_mkR c_Block hr (by omega) rfl (pa_cons pe_str (pa_cons (pv 1) (pa_cons (pv 3) (pa_cons (pv 4) (pa_cons (pe_ifExp (pt_cmpR (op_neE hr.units0) (pv 5) (pe_lst pa_nil) (nomark _)) (pe_callTy call_int_str (by rfl) m_int (by decide +kernel) (pa_cons (pe_ix ix_list (pv 5) pe_int (fun _ _ => rfl)) pa_nil)) pe_non) pa_nil)))))) pa_nil)))))), ?_⟩
  obtain ⟨hc, hnm, hw, ht, hk⟩ : s.cur ≠ none ∧ Nm wk ∧ wk ∈ s.walks ∧ (∀ d, t = some d → d ∈ digs) ∧ (how = .kept → (∃ n, s.cur = some (false, n)) ∧ Blk.each wk .kept ∉ s.inner) := by cases st with | each a b c d e => exact ⟨a, b, c, d, e⟩
  have es : s' = s.push (.each wk how) := by cases st with | each a b c d e => rfl
  subst es
  have hp1 := R.sm _ _ hp
  cases t with
  | none =>
    refine ⟨_, rfl, p, _, rfl, SqL.of hp1, by simp, by simp, fun tp ntp => ⟨_, _, rfl, _, _, rfl, _, _, rfl, rfl, ?_⟩⟩
    have R1 := R.same (same_ext (o := .lst (List.drop 2 (List.map V.str (wk :: how.word :: Option.toList none)))) ntp)
    have et : (upd H tp (.lst (List.drop 2 (List.map V.str (wk :: how.word :: Option.toList none))))) tp = some (.lst []) := upd_same
    revert R1 et
    generalize upd H tp (.lst (List.drop 2 (List.map V.str (wk :: how.word :: Option.toList none)))) = H1
    intro R1 et
    refine ⟨_, rfl, r, dx, _, rfl, R1.e_r, rfl, _, rfl, _, rfl, H0, r, s, n, wk, how, rfl, R1.at, by omega, hnm, hw, hk, fun H2 s2 => ⟨_, rfl, iteF ?_⟩⟩
    have et2 := s2 _ _ et
    have R2 := R1.same s2
    unfold tNot tB tCB tCons tNil
    dsimp only [List.map]
    refine lc_listG tp [] (fun _ => true) (fun _ => .bl true) (fun R' hR => ⟨_, rfl, tp, rfl, ⟨_, SqL.of et2⟩, hR⟩) (SqL.of et2) (by simp) (fun D H3 nD s3 hD => ?_) (fun y H3 Q' hy s3 z => z _ (Same.refl _)) (fun y H3 Q' hy _ s3 z => ?_)
    rotate_left 1
    · exact nomatch hy
    refine ⟨D, List.map (fun _ => true) ([] : List V), rfl, by rw [List.map_map]; rw [List.filter_eq_self.mpr (fun _ _ => rfl)] at hD; exact SqL.of hD, _, rfl, iteF ?_⟩
    replace et2 := s3 _ _ et2
    replace R2 := R2.same s3
    refine ⟨_, rfl, r, dx, _, rfl, R2.e_r, rfl, _, rfl, _, rfl, _, rfl, _, rfl, by show 0 ≤ sizeLine; decide, fun p2 np2 => ⟨tp, p2, _, rfl, rfl, SqL.of (kn et2 np2), SqL.of upd_same, _, rfl, iteF ?_⟩⟩
    have R3 := R2.same (same_ext (o := .lst []) np2)
    refine fun b db nb ndb nbd => ⟨b, db, "each", i, [.str wk, .str how.word, .non], rfl, by show 3 ≤ 3; decide, upd_same, fun H4 pf l1 l2 bt e1 e2 e3 e4 f1 f2 => ⟨rfl, ?_⟩⟩
    obtain ⟨s4, B, nbas⟩ := mk_blk (k := .inn (.each wk how)) R3 nb ndb nbd bt e1 e2 e3 e4 f1 f2 rfl ⟨_, hnm, rfl⟩
    exact ⟨H0, r, s, n, dx, tl, tw, tj, bl, gt, bg, kw, kj, kg, bas, b, .each wk how, rfl, R3.same s4, hc, by omega, B, nbas, fun H' h => q H' (h.mono (by omega))⟩
  | some d =>
    have hd := ht d rfl
    obtain ⟨kd, hkd⟩ := Option.isSome_iff_exists.mp (dig_int d hd)
    refine ⟨_, rfl, p, _, rfl, SqL.of hp1, by simp, by simp, fun tp ntp => ⟨_, _, rfl, _, _, rfl, _, _, rfl, rfl, ?_⟩⟩
    have R1 := R.same (same_ext (o := .lst (List.drop 2 (List.map V.str (wk :: how.word :: Option.toList (some d))))) ntp)
    have et : (upd H tp (.lst (List.drop 2 (List.map V.str (wk :: how.word :: Option.toList (some d)))))) tp = some (.lst [.str d]) := upd_same
    revert R1 et
    generalize upd H tp (.lst (List.drop 2 (List.map V.str (wk :: how.word :: Option.toList (some d))))) = H1
    intro R1 et
    refine ⟨_, rfl, r, dx, _, rfl, R1.e_r, rfl, _, rfl, _, rfl, H0, r, s, n, wk, how, rfl, R1.at, by omega, hnm, hw, hk, fun H2 s2 => ⟨_, rfl, iteF ?_⟩⟩
    have et2 := s2 _ _ et
    have R2 := R1.same s2
    unfold tNot tB tCB tCons tNil
    dsimp only [List.map]
    refine lc_listG tp [.str d] (fun _ => true) (fun _ => .bl true) (fun R' hR => ⟨_, rfl, tp, rfl, ⟨_, SqL.of et2⟩, hR⟩) (SqL.of et2) (by simp) (fun D H3 nD s3 hD => ?_) (fun y H3 Q' hy s3 z => z _ (Same.refl _)) (fun y H3 Q' hy _ s3 z => ?_)
    rotate_left 1
    · rw [List.mem_singleton.mp hy]
      exact ⟨_, rfl, d, rfl, hd, fun H4 s4 => z _ s4⟩
    refine ⟨D, List.map (fun _ => true) [V.str d], rfl, by rw [List.map_map]; rw [List.filter_eq_self.mpr (fun _ _ => rfl)] at hD; exact SqL.of hD, _, rfl, iteF ?_⟩
    replace et2 := s3 _ _ et2
    replace R2 := R2.same s3
    refine ⟨_, rfl, r, dx, _, rfl, R2.e_r, rfl, _, rfl, _, rfl, _, rfl, _, rfl, by show 0 ≤ sizeLine; decide, fun p2 np2 => ⟨tp, p2, _, rfl, rfl, SqL.of (kn et2 np2), SqL.of upd_same, _, rfl, iteT ?_⟩⟩
    have R3 := R2.same (same_ext (o := .lst []) np2)
    refine ⟨_, rfl, tp, _, 0, _, rfl, rfl, SqL.of (kn et2 np2), atI_nat (j := 0) rfl, d, kd, rfl, hkd, Nat.le_trans (dig_ok d hd).2.1 (by decide), ?_⟩
    refine fun b db nb ndb nbd => ⟨b, db, "each", i, [.str wk, .str how.word, .int kd], rfl, by show 3 ≤ 3; decide, upd_same, fun H4 pf l1 l2 bt e1 e2 e3 e4 f1 f2 => ⟨rfl, ?_⟩⟩
    obtain ⟨s4, B, nbas⟩ := mk_blk (k := .inn (.each wk how)) R3 nb ndb nbd bt e1 e2 e3 e4 f1 f2 rfl ⟨_, hnm, rfl⟩
    exact ⟨H0, r, s, n, dx, tl, tw, tj, bl, gt, bg, kw, kj, kg, bas, b, .each wk how, rfl, R3.same s4, hc, by omega, B, nbas, fun H' h => q H' (h.mono (by omega))⟩
def spRwithin (CB CR : Addr) : Sp := fun vs H Q _ => ∃ (H0 : Hp) (r p : Addr) (s s' : S) (n : Nat) (i : Int) (row : Row) (wd : Str) (rest : List Str), vs = [.ref r, .int i, .str wd, .ref p] ∧ H0 p = some (lstS rest) ∧ row.parts = wd :: rest ∧ isFin row = false ∧ row.isDef = false ∧ RAt CB CR H0 H r s n ∧ n ≤ 290 ∧ Step s row s' ∧ ∀ H', RAt CB CR H0 H' r s' (n + 2) → Q (.bl true) H'
theorem ok_rwithin {pn : Addr} (O : OwnC K CR fReader) (F : Fun K "within" "Reader.within" sRwithin f fd) (c_Reader_named : C8.Met P w K mg base 3 CR "named" (spRnamed CB CR) []) (c_Reader_opened : C8.Met P w K mg base 1 CR "opened" (spRopened CB CR) []) (c_Reader_pulled : C8.Met P w K mg base 3 CR "pulled" (spRpulled CB CR) []) (c_Reader_alone : C8.Met P w K mg base 3 CR "alone" (spRalone CB CR) [])
    (c_Block : MakR P w K mg base 1 "Block" CB (spBinit CB)) (c_is_times : C8.Cal P w K mg base 2 "is_times" spTimes []) (c_is_name : C8.Cal P w K mg base 2 "is_name" spName []) (m_len : mg "len" = none) (m_int : mg "int" = none) (g_NAMED : ∃ u, mg "NAMED" = some u ∧ RelV (.ref pn) u) (hh : KTup K pn [.str "say", .str "wait", .str "open", .str "begin", .str "fail"]) :
    FnOk P w K mg base CX0 4 f fd ["self", "at", "word", "rest"] (spRwithin CB CR) := by
  refine F.ok scRwithin (fun vs H Q E h => ?_) (fun cdv A outer s H vs Q E hr h => ?_)
  · obtain ⟨_, _, _, _, _, _, _, _, _, _, rfl, _⟩ := h
    rfl
  obtain ⟨H0, r, p, s, s', n, i, row, wd, rest, rfl, hp, hrow, hf, hd, ⟨dx, tl, tw, tj, bl, gt, bg, kw, kj, kg, bas, R⟩, hn, st, q⟩ := h
  have nd := scRwithin.nd
  refine ⟨_, (pss_cons (ps_if (pt_cmpR op_in_seq (pv 2) (C8.pe_gc rfl g_NAMED) (by rfl)) (pss_one (ps_ret (pe_and (pe_cmpR op_eq (pe_callB call_len_seq (by rfl) m_len (by decide +kernel) (pa_cons (pv 3) pa_nil)) pe_int (nomark _)) (pe_and (C8.pe_c c_is_name hr (by omega) rfl (pa_cons (pe_ix ix_list (pv 3) pe_int (fun _ _ => rfl)) pa_nil)) (pe_one (C8.pe_mt c_Reader_named hr (by omega) (pv 0) (pa_cons (pv 2) (pa_cons (pv 1) (pa_cons (pe_ix ix_list (pv 3) pe_int (fun _ _ => rfl)) pa_nil))))))))) pss_nil)
    (pss_cons (ps_if (pt_cmpR op_eq (pv 2) pe_str (nomark _)) (pss_one (ps_ret (pe_and (pe_cmpR op_eq (pe_callB call_len_seq (by rfl) m_len (by decide +kernel) (pa_cons (pv 3) pa_nil)) pe_int (nomark _)) (pe_and (C8.pe_c c_is_times hr (by omega) rfl (pa_cons (pe_ix ix_list (pv 3) pe_int (fun _ _ => rfl)) pa_nil)) (pe_one (C8.pe_mt c_Reader_opened hr (by omega) (pv 0) (pa_cons (K8.pe_mkR c_Block hr (by omega) rfl (pa_cons pe_str (pa_cons (pv 1) (pa_cons (pe_callTy call_int_str (by rfl) m_int (by decide +kernel) (pa_cons (pe_ix ix_list (pv 3) pe_int (fun _ _ => rfl)) pa_nil)) pa_nil)))) pa_nil))))))) pss_nil)
    (pss_cons (ps_if (pt_cmpR op_eq (pv 2) pe_str (nomark _)) (pss_one (ps_ret (pe_and (pe_cmpR op_in_seq (pe_callB call_len_seq (by rfl) m_len (by decide +kernel) (pa_cons (pv 3) pa_nil)) (pe_tup (pa_cons pe_int (pa_cons pe_int pa_nil))) (by rfl)) (pe_one (C8.pe_mt c_Reader_pulled hr (by omega) (pv 0) (pa_cons (pv 1) (pa_cons (pv 3) pa_nil))))))) pss_nil)
    (pss_one (ps_ret (pe_and (pe_cmpR (op_eqE hr.units0) (pv 3) (pe_lst pa_nil) (nomark _)) (pe_one (C8.pe_mt c_Reader_alone hr (by omega) (pv 0) (pa_cons (pv 1) (pa_cons (pv 2) pa_nil)))))))))), ?_⟩
  have hp1 := R.sm _ _ hp
  cases st with
  | defn _ _ _ _ => cases hd
  | fin0 _ _ => cases hf
  | fin1 _ _ _ => cases hf
  | @named k x hc nm =>
    obtain ⟨e1, e2⟩ := List.cons.inj hrow
    subst e1 e2
    refine ⟨_, rfl, pn, _, rfl, .inr (hh H), rfl, rfl, _, rfl, ?_⟩
    rw [in_named k]
    refine iteT ⟨_, rfl, p, _, rfl, .inl (SqL.of hp1), rfl, _, rfl, iteT ?_⟩
    refine ⟨_, rfl, p, _, 0, _, rfl, rfl, SqL.of hp1, atI_nat (j := 0) rfl, x, rfl, nm, fun H1 s1 => ⟨_, rfl, iteT ?_⟩⟩
    have R1 := R.same s1
    exact ⟨_, rfl, r, dx, _, rfl, R1.e_r, rfl, _, rfl, _, rfl, _, rfl, p, _, 0, _, rfl, rfl, SqL.of (s1 _ _ hp1), atI_nat (j := 0) rfl, H0, r, s, n, k, i, x, rfl, R1.at, hc, by omega, fun H' h => q H' h⟩
  | @rep d hc hdd =>
    obtain ⟨e1, e2⟩ := List.cons.inj hrow
    subst e1 e2
    obtain ⟨kd, hkd⟩ := Option.isSome_iff_exists.mp (dig_int d hdd)
    refine ⟨_, rfl, pn, _, rfl, .inr (hh H), rfl, rfl, _, rfl, ?_⟩
    rw [show (if false = true then !inV (.str "repeat") [.str "say", .str "wait", .str "open", .str "begin", .str "fail"] else inV (.str "repeat") [.str "say", .str "wait", .str "open", .str "begin", .str "fail"]) = false from by decide +kernel]
    refine iteF ⟨_, rfl, rfl, _, rfl, iteT ⟨_, rfl, p, _, rfl, .inl (SqL.of hp1), rfl, _, rfl, iteT ?_⟩⟩
    refine ⟨_, rfl, p, _, 0, _, rfl, rfl, SqL.of hp1, atI_nat (j := 0) rfl, d, rfl, hdd, fun H1 s1 => ⟨_, rfl, iteT ?_⟩⟩
    have R1 := R.same s1
    refine ⟨_, rfl, r, dx, _, rfl, R1.e_r, rfl, _, rfl, _, rfl, p, _, 0, _, rfl, rfl, SqL.of (s1 _ _ hp1), atI_nat (j := 0) rfl, d, kd, rfl, hkd, Nat.le_trans (dig_ok d hdd).2.1 (by decide), ?_⟩
    refine fun b db nb ndb nbd => ⟨b, db, "repeat", i, [.int kd], rfl, by show 1 ≤ 3; decide, upd_same, fun H4 pf l1 l2 bt e1 e2 e3 e4 f1 f2 => ⟨rfl, ?_⟩⟩
    obtain ⟨s4, B, nbas⟩ := mk_blk (k := .inn (.rep d)) R1 nb ndb nbd bt e1 e2 e3 e4 f1 f2 rfl (by show 1 ≤ 3; decide)
    exact ⟨H0, r, s, n, dx, tl, tw, tj, bl, gt, bg, kw, kj, kg, bas, b, .rep d, rfl, R1.same s4, hc, by omega, B, nbas, fun H' h => q H' (h.mono (by omega))⟩
  | @each wk how t hc hn1 hw ht hk =>
    have st : Step s (.each wk how t) (s.push (.each wk how)) := .each hc hn1 hw ht hk
    have hrow' : ("each" : Str) :: wk :: how.word :: t.toList = wd :: rest := by rw [← hrow]; cases t <;> rfl
    obtain ⟨e1, e2⟩ := List.cons.inj hrow'
    subst e1 e2
    refine ⟨_, rfl, pn, _, rfl, .inr (hh H), rfl, rfl, _, rfl, ?_⟩
    rw [show (if false = true then !inV (.str "each") [.str "say", .str "wait", .str "open", .str "begin", .str "fail"] else inV (.str "each") [.str "say", .str "wait", .str "open", .str "begin", .str "fail"]) = false from by decide +kernel]
    refine iteF ⟨_, rfl, rfl, _, rfl, iteF ⟨_, rfl, rfl, _, rfl, iteT ?_⟩⟩
    refine ⟨_, rfl, p, _, rfl, .inl (SqL.of hp1), by show 2 ≤ sizeLine; decide, fun tp ntp => ⟨tp, _, rfl, .inr (SqT.of upd_same), rfl, rfl, _, rfl, ?_⟩⟩
    rw [in_23 wk how t]
    have R1 := R.same (same_ext (o := .tup [.int 2, .int 3]) ntp)
    exact iteT ⟨_, rfl, r, dx, _, rfl, R1.e_r, rfl, _, rfl, _, rfl, H0, r, p, s, _, n, i, wk, how, t, rfl, hp, R1.at, hn, st, fun H' h => q H' h⟩
  | @turn l rs hc hi =>
    have st : Step s (.turn l) { s with inner := (if l then .late else .mend) :: rs } := .turn hc hi
    have e1 : ∀ l : Bool, Row.parts (.turn l) = [tword l] := fun l => rfl
    obtain ⟨e1, e2⟩ := List.cons.inj hrow
    subst e1 e2
    refine ⟨_, rfl, pn, _, rfl, .inr (hh H), rfl, rfl, _, rfl, ?_⟩
    rw [show (if false = true then !inV (.str (tword l)) [.str "say", .str "wait", .str "open", .str "begin", .str "fail"] else inV (.str (tword l)) [.str "say", .str "wait", .str "open", .str "begin", .str "fail"]) = false from (by cases l <;> decide +kernel)]
    have n1' : decide (V.str (tword l) = V.str "repeat") = false := (by cases l <;> decide +kernel)
    have n2' : decide (V.str (tword l) = V.str "each") = false := (by cases l <;> decide +kernel)
    refine iteF ⟨_, rfl, rfl, _, rfl, ?_⟩
    rw [n1']
    refine iteF ⟨_, rfl, rfl, _, rfl, ?_⟩
    rw [n2']
    refine iteF ⟨_, rfl, by show 0 ≤ sizeLine; decide, fun p2 np2 => ⟨p, p2, _, rfl, rfl, SqL.of (kn hp1 np2), SqL.of upd_same, _, rfl, iteT ?_⟩⟩
    have R1 := R.same (same_ext (o := .lst []) np2)
    exact ⟨_, rfl, r, dx, _, rfl, R1.e_r, rfl, _, rfl, _, rfl, H0, r, s, _, n, i, (.turn l), (tword l), rfl, rfl, rfl, R1.at, hn, st, fun H' h => q H' h⟩
  | guard hc =>
    have st : Step s .guard _ := .guard hc
    obtain ⟨e1, e2⟩ := List.cons.inj hrow
    subst e1 e2
    refine ⟨_, rfl, pn, _, rfl, .inr (hh H), rfl, rfl, _, rfl, ?_⟩
    rw [show (if false = true then !inV (.str "guard") [.str "say", .str "wait", .str "open", .str "begin", .str "fail"] else inV (.str "guard") [.str "say", .str "wait", .str "open", .str "begin", .str "fail"]) = false from (by decide +kernel)]
    have n1' : decide (V.str "guard" = V.str "repeat") = false := (by decide +kernel)
    have n2' : decide (V.str "guard" = V.str "each") = false := (by decide +kernel)
    refine iteF ⟨_, rfl, rfl, _, rfl, ?_⟩
    rw [n1']
    refine iteF ⟨_, rfl, rfl, _, rfl, ?_⟩
    rw [n2']
    refine iteF ⟨_, rfl, by show 0 ≤ sizeLine; decide, fun p2 np2 => ⟨p, p2, _, rfl, rfl, SqL.of (kn hp1 np2), SqL.of upd_same, _, rfl, iteT ?_⟩⟩
    have R1 := R.same (same_ext (o := .lst []) np2)
    exact ⟨_, rfl, r, dx, _, rfl, R1.e_r, rfl, _, rfl, _, rfl, H0, r, s, _, n, i, .guard, "guard", rfl, rfl, rfl, R1.at, hn, st, fun H' h => q H' h⟩
  | @give x hc hl =>
    have st : Step s .give _ := .give hc hl
    obtain ⟨e1, e2⟩ := List.cons.inj hrow
    subst e1 e2
    refine ⟨_, rfl, pn, _, rfl, .inr (hh H), rfl, rfl, _, rfl, ?_⟩
    rw [show (if false = true then !inV (.str "give") [.str "say", .str "wait", .str "open", .str "begin", .str "fail"] else inV (.str "give") [.str "say", .str "wait", .str "open", .str "begin", .str "fail"]) = false from (by decide +kernel)]
    have n1' : decide (V.str "give" = V.str "repeat") = false := (by decide +kernel)
    have n2' : decide (V.str "give" = V.str "each") = false := (by decide +kernel)
    refine iteF ⟨_, rfl, rfl, _, rfl, ?_⟩
    rw [n1']
    refine iteF ⟨_, rfl, rfl, _, rfl, ?_⟩
    rw [n2']
    refine iteF ⟨_, rfl, by show 0 ≤ sizeLine; decide, fun p2 np2 => ⟨p, p2, _, rfl, rfl, SqL.of (kn hp1 np2), SqL.of upd_same, _, rfl, iteT ?_⟩⟩
    have R1 := R.same (same_ext (o := .lst []) np2)
    exact ⟨_, rfl, r, dx, _, rfl, R1.e_r, rfl, _, rfl, _, rfl, H0, r, s, _, n, i, .give, "give", rfl, rfl, rfl, R1.at, hn, st, fun H' h => q H' h⟩
  | pause hc =>
    have st : Step s .pause _ := .pause hc
    obtain ⟨e1, e2⟩ := List.cons.inj hrow
    subst e1 e2
    refine ⟨_, rfl, pn, _, rfl, .inr (hh H), rfl, rfl, _, rfl, ?_⟩
    rw [show (if false = true then !inV (.str "pause") [.str "say", .str "wait", .str "open", .str "begin", .str "fail"] else inV (.str "pause") [.str "say", .str "wait", .str "open", .str "begin", .str "fail"]) = false from (by decide +kernel)]
    have n1' : decide (V.str "pause" = V.str "repeat") = false := (by decide +kernel)
    have n2' : decide (V.str "pause" = V.str "each") = false := (by decide +kernel)
    refine iteF ⟨_, rfl, rfl, _, rfl, ?_⟩
    rw [n1']
    refine iteF ⟨_, rfl, rfl, _, rfl, ?_⟩
    rw [n2']
    refine iteF ⟨_, rfl, by show 0 ≤ sizeLine; decide, fun p2 np2 => ⟨p, p2, _, rfl, rfl, SqL.of (kn hp1 np2), SqL.of upd_same, _, rfl, iteT ?_⟩⟩
    have R1 := R.same (same_ext (o := .lst []) np2)
    exact ⟨_, rfl, r, dx, _, rfl, R1.e_r, rfl, _, rfl, _, rfl, H0, r, s, _, n, i, .pause, "pause", rfl, rfl, rfl, R1.at, hn, st, fun H' h => q H' h⟩
def Good (s : S) : Prop := ∀ w x, s.cur = some (w, x) → x ∉ s.told w
def spTaken (CB CR : Addr) : Sp := fun vs H Q _ => ∃ (H0 : Hp) (r p : Addr) (s s' : S) (n : Nat) (i : Int) (row : Row), vs = [.ref r, .int i, .ref p] ∧ H0 p = some (lstS row.parts) ∧ RAt CB CR H0 H r s n ∧ n ≤ 290 ∧ Step s row s' ∧ Good s ∧ ∀ H', RAt CB CR H0 H' r s' (n + 2) → Q (.bl true) H'
theorem ok_taken (O : OwnC K CR fReader) (F : Fun K "take" "Reader.take" sRtake f fd) (c_Reader_opened_definition : C8.Met P w K mg base 3 CR "opened_definition" (spRdef CB CR) []) (c_Reader_ended : C8.Met P w K mg base 3 CR "ended" (spRended CB CR) []) (c_Reader_within : C8.Met P w K mg base 4 CR "within" (spRwithin CB CR) []) (m_len : mg "len" = none) :
    FnOk P w K mg base CX0 5 f fd ["self", "at", "parts"] (spTaken CB CR) := by
  refine F.ok scRtake (fun vs H Q E h => ?_) (fun cdv A outer s H vs Q E hr h => ?_)
  · obtain ⟨_, _, _, _, _, _, _, _, rfl, _⟩ := h
    rfl
  obtain ⟨H0, r, p, s, s', n, i, row, rfl, hp, ⟨dx, tl, tw, tj, bl, gt, bg, kw, kj, kg, bas, R⟩, hn, st, hg, q⟩ := h
  have nd := scRtake.nd
  refine ⟨_, (pss_cons (ps_asg (pv 2) (pg_star 1 rfl (pgs_cons (pg_name (i := 3) nd rfl (.inl rfl)) (pgs_star (pg_name (i := 4) nd rfl (.inl rfl)) pgs_nil))))
    (pss_cons (ps_if (pt_cmpR op_in_seq (pv 3) (pe_tup (pa_cons pe_str (pa_cons pe_str pa_nil))) (by rfl)) (pss_one (ps_ret (pe_and (pe_cmpR op_eq (pe_callB call_len_seq (by rfl) m_len (by decide +kernel) (pa_cons (pv 4) pa_nil)) pe_int (nomark _)) (pe_one (C8.pe_mt c_Reader_opened_definition hr (by omega) (pv 0) (pa_cons (pv 3) (pa_cons (pv 1) (pa_cons (pe_ix ix_list (pv 4) pe_int (fun _ _ => rfl)) pa_nil)))))))) pss_nil)
    (pss_cons (ps_if (pt_cmpR op_eq (pv 3) pe_str (nomark _)) (pss_one (ps_ret (pe_and (pe_cmpR (op_eqE hr.units0) (pv 4) (pe_lst pa_nil) (nomark _)) (pe_one (C8.pe_mt0 c_Reader_ended hr (by omega) (pv 0)))))) pss_nil)
    (pss_one (ps_ret (pe_and (pe_cmpR (op_neE hr.units0) (pe_fld (pv 0) rfl) (pe_lst pa_nil) (nomark _)) (pe_one (C8.pe_mt c_Reader_within hr (by omega) (pv 0) (pa_cons (pv 1) (pa_cons (pv 3) (pa_cons (pv 4) pa_nil))))))))))), ?_⟩
  have hp1 := R.sm _ _ hp
  have hpl := parts_len row
  refine ⟨_, rfl, p, _, rfl, SqL.of hp1, by rw [List.length_map]; exact hpl.1, by rw [List.length_map]; omega, fun tp ntp => ?_⟩
  obtain ⟨wd, rest, hrow⟩ : ∃ wd rest, row.parts = wd :: rest := by
    cases h : row.parts with
    | nil => exact absurd h (parts_ne row)
    | cons a b => exact ⟨a, b, rfl⟩
  rw [hrow]
  show (gCons (gName 3) (gCons (gName 4) gNil)) [.str wd, .ref tp] _ (upd H tp (.lst (rest.map V.str))) _
  have f0 : H0 tp = none := none_of R.sm ntp
  have R1 := R.ext (o := .lst (rest.map V.str)) ntp
  have wk0 : Same H0 (upd H0 tp (.lst (rest.map V.str))) := same_ext f0
  have et0 : (upd H0 tp (.lst (rest.map V.str))) tp = some (lstS rest) := upd_same
  revert R1 wk0 et0
  generalize upd H tp (.lst (rest.map V.str)) = H1
  generalize upd H0 tp (.lst (rest.map V.str)) = H01
  intro R1 wk0 et0
  have et1 := R1.sm _ _ et0
  have q' : ∀ H', RAt CB CR H01 H' r s' (n + 2) → Q (.bl true) H' := fun H' h => q H' (h.weak wk0)
  refine ⟨_, _, rfl, _, _, rfl, rfl, ?_⟩
  refine ⟨_, rfl, by show 2 ≤ sizeLine; decide, fun p2 np2 => ⟨p2, _, rfl, .inr (SqT.of upd_same), rfl, rfl, _, rfl, ?_⟩⟩
  have R2 := R1.same (same_ext (o := .tup [.str "walk", .str "job"]) np2)
  have et2 := kn (u := .tup [.str "walk", .str "job"]) et1 np2
  revert R2 et2
  generalize upd H1 p2 (.tup [.str "walk", .str "job"]) = H2
  intro R2 et2
  cases hd : row.isDef with
  | true =>
    cases st with
    | @defn wk x hc hi nm hx =>
      obtain ⟨e1, e2⟩ := List.cons.inj hrow
      subst e1 e2
      rw [in_wj wk]
      refine iteT ⟨_, rfl, tp, _, rfl, .inl (SqL.of et2), rfl, _, rfl, iteT ?_⟩
      exact ⟨_, rfl, r, dx, _, rfl, R2.e_r, rfl, _, rfl, _, rfl, _, rfl, tp, _, 0, _, rfl, rfl, SqL.of et2, atI_nat (j := 0) rfl, H01, r, s, n, wk, i, x, rfl, R2.at, by omega, nm, hc, hi, hx, fun H' h => q' H' (h.mono (by omega))⟩
    | _ => cases hd
  | false =>
    have hw : (if false = true then !inV (.str wd) [.str "walk", .str "job"] else inV (.str wd) [.str "walk", .str "job"]) = false := by
      cases row with
      | defn _ _ => cases hd
      | named k x => rw [← (List.cons.inj hrow).1]; cases k <;> decide +kernel
      | turn l => rw [← (List.cons.inj hrow).1]; cases l <;> decide +kernel
      | each a b c => cases c <;> rw [← (List.cons.inj hrow).1] <;> decide +kernel
      | _ => rw [← (List.cons.inj hrow).1]; decide +kernel
    rw [hw]
    refine iteF ?_
    have hc := st.curN hd
    cases hf : isFin row with
    | true =>
      obtain rfl : row = .fin := by cases row <;> first | rfl | cases hf
      obtain ⟨e1, e2⟩ := List.cons.inj hrow
      subst e1 e2
      refine ⟨_, rfl, rfl, _, rfl, iteT ⟨_, rfl, by show 0 ≤ sizeLine; decide, fun p3 np3 => ⟨tp, p3, _, rfl, rfl, SqL.of (kn et2 np3), SqL.of upd_same, _, rfl, iteT ?_⟩⟩⟩
      have R3 := R2.same (same_ext (o := .lst []) np3)
      exact ⟨_, rfl, r, dx, _, rfl, R3.e_r, rfl, H01, r, s, s', n, rfl, R3.at, st, by omega, hg, fun H' h => q' H' (h.mono (by omega))⟩
    | false =>
      have he : decide (V.str wd = V.str "end") = false := by
        cases row with
        | defn _ _ => cases hd
        | fin => cases hf
        | named k x => rw [← (List.cons.inj hrow).1]; cases k <;> decide +kernel
        | turn l => rw [← (List.cons.inj hrow).1]; cases l <;> decide +kernel
        | each a b c => cases c <;> rw [← (List.cons.inj hrow).1] <;> decide +kernel
        | _ => rw [← (List.cons.inj hrow).1]; decide +kernel
      refine ⟨_, rfl, rfl, _, rfl, ?_⟩
      rw [he]
      have nb : (true != (bas.map V.ref).isEmpty) = true := by
        have q1 := bks_len hc
        rw [← R.len] at q1
        cases bas with
        | nil => cases q1
        | cons _ _ => rfl
      refine iteF ⟨_, rfl, r, CR, dx, _, _, rfl, R2.e_r, O.cl, O.na _ (by decide), rfl, by show 0 ≤ sizeLine; decide, fun p3 np3 => ⟨bl, p3, _, rfl, rfl, SqL.of (kn R2.e_bl np3), SqL.of upd_same, _, rfl, ?_⟩⟩
      rw [nb]
      have R3 := R2.same (same_ext (o := .lst []) np3)
      exact iteT ⟨_, rfl, r, dx, _, rfl, R3.e_r, rfl, _, rfl, _, rfl, _, rfl, H01, r, tp, s, s', n, i, row, wd, rest, rfl, et0, hrow, hf, hd, R3.at, hn, st, fun H' h => q' H' h⟩
end
end K8
set_option Elab.async false
set_option linter.all false
set_option maxRecDepth 100000
set_option maxHeartbeats 4000000
/-! The walks of own_copy and of the errors' __init__. -/
namespace K8
open PySem L2
def Plain (v : V) : Prop := (∃ i, v = .int i) ∨ ∃ x, v = .str x
/-- what making an own error leaves -/
theorem mko_in {C : Addr} {sp : Sp} {dvs : List V} {H1 : Hp} {Q : XK} {f : Str} {v : V}
    (hsp : ∀ (a : Addr) (v : V) (H1 : Hp) (q : VK) (e : XK), H1 a = some (exo a C none) → (∀ H' d, H' a = some (exo a C (some d)) → H' d = some (exd d [(f, v)]) → H1 d = none → (∀ b o, H1 b = some o → b ≠ a → H' b = some o) → q .non H') → Plain v → sp (.ref a :: ([v] ++ dvs)) H1 q e)
    (pv : Plain v) (hq : ∀ d H3, H1 d = none → Same H1 H3 → H3 d = some (.xd [(f, v)]) → Q (.ref C) (some d) H3) :
    [v].length ≤ 1000 ∧ ∀ a, H1 a = none → sp (.ref a :: ([v] ++ dvs)) (upd H1 a (exo a C none))
      (fun v H2 => v = .non ∧ ∃ (d : Addr) (fs : List (Str × V)), H2 a = some (exo a C (some d)) ∧ H2 d = some (exd d fs) ∧ H1 d = none ∧ Q (.ref C) (some d) (upd (del H2 a) d (.xd fs))) (fun _ _ _ => False) := by
  refine ⟨by show 1 ≤ 1000; decide, fun a na => hsp a v _ _ _ upd_same (fun H' d e1 e2 e3 kp => ⟨rfl, d, _, e1, e2, (fr e3).1, ?_⟩) pv⟩
  have hd := fr e3
  refine hq d _ hd.1 (fun b o hb => ?_) upd_same
  rw [upd_ne (ne_of_none hb hd.1), del_ne (ne_of_none hb na)]
  exact kp b o (kn hb na) (ne_of_none hb na)
/-- own errors that may be made: over ValueError, over KeyError -/
structure MakO (P : Program) (w : World) (K : PySem.W.Frag) (mg : Str → Option Value) (base : Heap) (k : Nat) (x : Str) (C : Addr) (sp : Sp) : Prop where
  ex : ∃ (fI : Addr) (fd : FuncData) (ps : List Str), OexC K C ∧ PySem.W.findIn K (.ref C) "__init__" = some (some (.ref fI)) ∧ PySem.W.typeIn K (.ref fI) = some (.type "function") ∧ FnOk P w K mg base CX0 k fI fd ps sp ∧ Binds K fd ps [] ∧ mg x = some (.ref C)
structure MakK (P : Program) (w : World) (K : PySem.W.Frag) (mg : Str → Option Value) (base : Heap) (k : Nat) (x : Str) (C : Addr) (sp : Sp) : Prop where
  ex : ∃ (fI : Addr) (fd : FuncData) (ps : List Str), KexC K C ∧ PySem.W.findIn K (.ref C) "__init__" = some (some (.ref fI)) ∧ PySem.W.typeIn K (.ref fI) = some (.type "function") ∧ FnOk P w K mg base CX0 k fI fd ps sp ∧ Binds K fd ps [] ∧ mg x = some (.ref C)
section
variable {X : Cx} {k j : Nat} {C : Addr} {x : Str} {sp : Sp} {p pos : Pos} {e : Expr} {es : List Expr} {ta : TA}
theorem pmk_o (c : MakO X.prog X.w X.K X.mg X.base k x C sp) (hr : Room j X.A) (hk : k + 1 ≤ j) (hg : Gl X x) (ha : PA X (e :: es) ta) (hdb : (x == ("__debug__" : Str)) = false := by decide) (he : starEach (e :: es) X.env = (false, eval e X.env) :: starEach es X.env := by rfl) (hpl : (backTo pos (starEach es X.env)).any (·.1) = false := by rfl) :
    PMk X (.Call (.Name x p) (e :: es) [] pos) (tMkO C sp [] ta) := by
  obtain ⟨fI, fd, ps, T, iC, tI, F, b, hm⟩ := c.ex
  exact pmk_oex T iC tI F (hr.mono hk) b .nil C8.pass0 hg hm ha hdb he hpl
theorem pmk_k (c : MakK X.prog X.w X.K X.mg X.base k x C sp) (hr : Room j X.A) (hk : k + 1 ≤ j) (hg : Gl X x) (ha : PA X (e :: es) ta) (hdb : (x == ("__debug__" : Str)) = false := by decide) (he : starEach (e :: es) X.env = (false, eval e X.env) :: starEach es X.env := by rfl) (hpl : (backTo pos (starEach es X.env)).any (·.1) = false := by rfl) :
    PMk X (.Call (.Name x p) (e :: es) [] pos) (tMkO C sp [] ta) := by
  obtain ⟨fI, fd, ps, T, iC, tI, F, b, hm⟩ := c.ex
  exact pmk_kex T iC tI F (hr.mono hk) b .nil C8.pass0 hg hm ha hdb he hpl
end
section
variable {P : Program} {w : World} {K : PySem.W.Frag} {mg : Str → Option Value} {base : Heap} {f : Addr} {fd : FuncData} {CE : Addr}
abbrev sCopy : Stmt := top 9
abbrev sBad : Stmt := cls 12 0
abbrev sUnk : Stmt := cls 14 0
theorem scCopy : FnScope ["value", "deep", "one", "key"] ["value", "deep"] (defScope sCopy) := ⟨rfl, rfl, rfl, by decide +kernel, rfl, by decide +kernel, by decide +kernel⟩
theorem scBad : FnScope ["self", "at"] ["self", "at"] (defScope sBad) := ⟨rfl, rfl, rfl, by decide +kernel, rfl, by decide +kernel, by decide +kernel⟩
theorem scUnk : FnScope ["self", "name"] ["self", "name"] (defScope sUnk) := ⟨rfl, rfl, rfl, by decide +kernel, rfl, by decide +kernel, by decide +kernel⟩
def spCopy : Sp := fun vs H Q _ => ∃ v, vs = [v, .int 9] ∧ Plain v ∧ Q v H
theorem ok_copy (F : FunD K "own_copy" "own_copy" (defArgs sCopy) (defBody sCopy) (defScope sCopy) [.int 9] [] f fd) (m_isinstance : mg "isinstance" = none) (m_list : mg "list" = none) (m_dict : mg "dict" = none) (m_tuple : mg "tuple" = none)
    (kit : ∀ a ∈ ["int", "str"], ∀ b ∈ ["list", "dict", "tuple"], PySem.W.kitOne K (.type a) (.type b) = some false) : FnOk P w K mg base CX0 1 f fd ["value", "deep"] spCopy := by
  refine F.ok scCopy (fun vs H Q E h => ?_) (fun cdv A outer s H vs Q E hr h => ?_)
  · obtain ⟨_, rfl, _⟩ := h
    rfl
  obtain ⟨v, rfl, hv, q⟩ := h
  have nd := scCopy.nd
  refine ⟨_, (pss_cons (ps_if (PW.pt (pw_and (pt_cmpR op_gt (pv 1) pe_int (nomark _)) (pw_and1 (pt_val (pe_callB call_isi (by rfl) m_isinstance (by decide +kernel) (pa_cons (pv 0) (pa_cons (pe_bltn (v := .ty "list") rfl m_list (by decide +kernel) rfl) pa_nil))))))) (pss_one (ps_ret pe_never)) pss_nil)
    (pss_cons (ps_if (PW.pt (pw_and (pt_cmpR op_gt (pv 1) pe_int (nomark _)) (pw_and1 (pt_val (pe_callB call_isi (by rfl) m_isinstance (by decide +kernel) (pa_cons (pv 0) (pa_cons (pe_bltn (v := .ty "dict") rfl m_dict (by decide +kernel) rfl) pa_nil))))))) (pss_one (ps_ret pe_never)) pss_nil)
    (pss_one (ps_ret (pe_ifExp (PW.pt (pw_and (pt_cmpR op_gt (pv 1) pe_int (nomark _)) (pw_and1 (pt_val (pe_callB call_isi (by rfl) m_isinstance (by decide +kernel) (pa_cons (pv 0) (pa_cons (pe_bltn (v := .ty "tuple") rfl m_tuple (by decide +kernel) rfl) pa_nil))))))) pe_never (pv 0)))))), ?_⟩
  obtain ⟨t, mt, ty⟩ : ∃ t, t ∈ (["int", "str"] : List String) ∧ TyX K H v (.type t) := by
    rcases hv with ⟨i, rfl⟩ | ⟨x, rfl⟩
    · exact ⟨"int", by decide, .base (.int i)⟩
    · exact ⟨"str", by decide, .base (.str x)⟩
  refine ⟨_, rfl, 9, 0, rfl, rfl, _, rfl, iteT ⟨_, rfl, v, .ty "list", .type t, .type "list", false, rfl, .ty _, ty, kit t mt "list" (by decide), _, rfl, iteF ?_⟩⟩
  refine ⟨_, rfl, 9, 0, rfl, rfl, _, rfl, iteT ⟨_, rfl, v, .ty "dict", .type t, .type "dict", false, rfl, .ty _, ty, kit t mt "dict" (by decide), _, rfl, iteF ?_⟩⟩
  refine ⟨_, rfl, 9, 0, rfl, rfl, _, rfl, iteT ⟨_, rfl, v, .ty "tuple", .type t, .type "tuple", false, rfl, .ty _, ty, kit t mt "tuple" (by decide), _, rfl, iteF ?_⟩⟩
  exact ⟨_, rfl, q⟩
def spBad (C : Addr) : Sp := fun vs H Q _ => ∃ (a : Addr) (v : V), vs = [.ref a, v] ∧ H a = some (exo a C none) ∧ Plain v ∧ ∀ H' d, H' a = some (exo a C (some d)) → H' d = some (exd d [("at", v)]) → H d = none → (∀ b o, H b = some o → b ≠ a → H' b = some o) → Q .non H'
theorem ok_bad {CL : Addr} (F : Fun K "__init__" "BadRow.__init__" sBad f fd) (T : OexC K CE) (na : PySem.W.findIn K (.ref CE) "at" = some none) (c_own_copy : C8.Cal P w K mg base 1 "own_copy" spCopy [.int 9]) (m_LateError : mg "LateError" = some (.ref CL)) (rdL : PySem.W.readsIn K CL (.type "type") = true) (gaL : PySem.W.specialIn K (.ref CL) "__getattribute__" = some (some (.builtin "type.__getattribute__")))
    (vvL : PySem.W.findCls K (.ref CL) (.type "type") "__init__" = some (.val (.builtin "ValueError.__init__"))) : FnOk P w K mg base CX0 2 f fd ["self", "at"] (spBad CE) := by
  refine F.ok scBad (fun vs H Q E h => ?_) (fun cdv A outer s H vs Q E hr h => ?_)
  · obtain ⟨_, _, rfl, _⟩ := h
    rfl
  obtain ⟨a, v, rfl, ha, pv', q⟩ := h
  have nd := scBad.nd
  refine ⟨_, (pss_cons (ps_expr (pe_veown rfl m_LateError rdL gaL vvL (pa_cons (pv 0) (pa_cons (C8.pe_c c_own_copy hr (by omega) rfl (pa_cons (pv 1) pa_nil)) pa_nil))))
    (pss_one (ps_ost (pv 0) (C8.pe_c c_own_copy hr (by omega) rfl (pa_cons (pv 1) pa_nil))))), ?_⟩
  refine ⟨_, rfl, _, rfl, v, rfl, pv', a, CE, [v], rfl, by show 1 ≤ 1000; decide, T, ha, ?_⟩
  refine ⟨_, rfl, v, rfl, pv', _, rfl, a, CE, rfl, T, na, .inl ⟨ha, fun d ndd ne => ?_⟩⟩
  exact q _ d upd_same (ku upd_same ne) ndd fun b o hb hba => ku (kn hb ndd) hba
def spUnk (C : Addr) : Sp := fun vs H Q _ => ∃ (a : Addr) (v : V), vs = [.ref a, v] ∧ H a = some (exo a C none) ∧ Plain v ∧ ∀ H' d, H' a = some (exo a C (some d)) → H' d = some (exd d [("name", v)]) → H d = none → (∀ b o, H b = some o → b ≠ a → H' b = some o) → Q .non H'
theorem ok_unk (F : Fun K "__init__" "Unknown.__init__" sUnk f fd) (T : KexC K CE) (na : PySem.W.findIn K (.ref CE) "name" = some none) (c_own_copy : C8.Cal P w K mg base 1 "own_copy" spCopy [.int 9]) (m_KeyError : mg "KeyError" = none) (vvK : PySem.W.findCls K (.type "KeyError") (.type "type") "__init__" = some (.val (.builtin "KeyError.__init__"))) : FnOk P w K mg base CX0 2 f fd ["self", "name"] (spUnk CE) := by
  refine F.ok scUnk (fun vs H Q E h => ?_) (fun cdv A outer s H vs Q E hr h => ?_)
  · obtain ⟨_, _, rfl, _⟩ := h
    rfl
  obtain ⟨a, v, rfl, ha, pv', q⟩ := h
  have nd := scUnk.nd
  refine ⟨_, (pss_cons (ps_expr (pe_keinit rfl m_KeyError vvK (pa_cons (pv 0) (pa_cons (C8.pe_c c_own_copy hr (by omega) rfl (pa_cons (pv 1) pa_nil)) pa_nil))))
    (pss_one (ps_kst (pv 0) (C8.pe_c c_own_copy hr (by omega) rfl (pa_cons (pv 1) pa_nil))))), ?_⟩
  refine ⟨_, rfl, _, rfl, v, rfl, pv', a, CE, [v], rfl, by show 1 ≤ 1000; decide, T, ha, ?_⟩
  refine ⟨_, rfl, v, rfl, pv', _, rfl, a, CE, rfl, T, na, ha, fun d ndd ne => ?_⟩
  exact q _ d upd_same (ku upd_same ne) ndd fun b o hb hba => ku (kn hb ndd) hba
end
end K8
set_option Elab.async false
set_option linter.all false
set_option maxRecDepth 100000
set_option maxHeartbeats 4000000
/-! The walks of read_rows, look_at_names, look_at_size. -/
namespace K8
open PySem L2
theorem Step.good {s s' : S} {r : Row} (h : Step s r s') (g : Good s) : Good s' := by
  cases h with
  | @defn w n hc hi hn hx =>
    intro w' x e
    have e' : some (w, n) = some (w', x) := e
    injection e' with e'
    injection e' with e1 e2
    subst e1 e2
    cases w <;> exact hx
  | fin0 _ _ => exact fun w x e => by cases e
  | fin1 hc hi hk => exact fun w x e => by have q := g w x e; cases w <;> exact q
  | @named k n hc hn =>
    intro w x e
    have q := note_cases s k n
    have q2 := g w x (by rw [← q.2.2.2.2.1]; exact e)
    cases w
    · show x ∉ (s.note k n).jobs
      rw [q.2.2.2.2.2.2]; exact q2
    · show x ∉ (s.note k n).walks
      rw [q.2.2.2.2.2.1]; exact q2
  | _ => exact fun w x e => by have q := g w x e; cases w <;> exact q
theorem good0 : Good {} := fun w x e => by cases e
section
variable {P : Program} {w : World} {K : PySem.W.Frag} {mg : Str → Option Value} {base : Heap} {f : Addr} {fd : FuncData} {CB CR CE CU CT : Addr} {spT : Sp}
abbrev sRead : Stmt := top 19
abbrev sLookN : Stmt := top 25
abbrev sLookS : Stmt := top 26
theorem scRead : FnScope ["text", "reader", "rows", "at", "row"] ["text"] (defScope sRead) := ⟨rfl, rfl, rfl, by decide +kernel, rfl, by decide +kernel, by decide +kernel⟩
theorem scLookN : FnScope ["reader", "name"] ["reader"] (defScope sLookN) := ⟨rfl, rfl, rfl, by decide +kernel, rfl, by decide +kernel, by decide +kernel⟩
theorem scLookS : FnScope ["reader", "many", "sizes", "word", "size", "most"] ["reader", "many"] (defScope sLookS) := ⟨rfl, rfl, rfl, by decide +kernel, rfl, by decide +kernel, by decide +kernel⟩
def rowsText (rs : List Row) : Str := Str.join "\n" (rs.map Row.text)
def spRead (CB CR CE : Addr) : Sp := fun vs H Q E => ∃ (rs : List Row) (s' : S), vs = [.str (rowsText rs)] ∧ rs ≠ [] ∧ rs.length ≤ 100 ∧ Run {} rs s' ∧ CB ≠ CR ∧
  (s'.cur = none → ∀ r H', RAt CB CR H H' r s' (2 * rs.length) → Q (.ref r) H') ∧ (s'.cur ≠ none → ∀ d H', Same H H' → H d = none → H' d = some (.xd [("at", .int rs.length)]) → E (.ref CE) (some d) H')
theorem ok_read (O : OwnC K CR fReader) (F : Fun K "read_rows" "read_rows" sRead f fd) (c_Reader : C8.Mak P w K mg base 1 "Reader" CR (spRinit CB CR) []) (c_Reader_take : C8.Met P w K mg base 5 CR "take" (spTaken CB CR) []) (c_BadRow : MakO P w K mg base 2 "BadRow" CE (spBad CE)) (m_enumerate : mg "enumerate" = none) (m_len : mg "len" = none) :
    FnOk P w K mg base (L2.CX P w) 6 f fd ["text"] (spRead CB CR CE) := by
  refine F.okX scRead (fun vs H Q E h => ?_) (fun cdv A outer s H vs Q E hr h => ?_)
  · obtain ⟨_, _, rfl, _⟩ := h
    rfl
  obtain ⟨rs, s', rfl, hne, hl, run, cc, q1, q2⟩ := h
  have nd := scRead.nd
  refine ⟨_, (pss_cons (ps_set (i := 1) nd rfl (.inl rfl) (K8.pe_mk0 c_Reader hr (by omega) rfl))
    (pss_cons (ps_set (i := 2) nd rfl (.inl rfl) (pe_split (pv 0) pe_str))
    (pss_cons (ps_for (passes_of rfl) rfl (pi_enum (by rfl) m_enumerate (pa_cons (pv 2) pa_nil)) (pg_tup rfl (pgs_cons (pg_name (i := 3) nd rfl (.inl rfl)) (pgs_cons (pg_name (i := 4) nd rfl (.inl rfl)) pgs_nil)))
    (pss_one (ps_if (pt_not (pt_val (C8.pe_mt c_Reader_take hr (by omega) (pv 1) (pa_cons (pv 3) (pa_cons (pe_split (pv 4) pe_str) pa_nil))))) (pss_one (ps_raise rfl (takes_of rfl rfl rfl rfl) (K8.pmk_o c_BadRow hr (by omega) rfl (pa_cons (pv 3) pa_nil)))) pss_nil)))
    (pss_cons (ps_if (pt_cmpR (op_neE hr.units0) (pe_fld (pv 1) rfl) (pe_lst pa_nil) (nomark _)) (pss_one (ps_raise rfl (takes_of rfl rfl rfl rfl) (K8.pmk_o c_BadRow hr (by omega) rfl (pa_cons (pe_callB call_len_seq (by rfl) m_len (by decide +kernel) (pa_cons (pv 2) pa_nil)) pa_nil)))) pss_nil)
    (pss_one (ps_ret (pv 1))))))), ?_⟩
  have hok := run.ok
  have hs : Txt.split (rowsText rs) "\n" = rs.map Row.text := split_rows hne hok
  have hlen := rows_len hok
  refine fun r db nr ndb nbd => ⟨H, r, db, rfl, upd_same, (same_ext ndb).trans (same_ext (by rw [upd_ne (Ne.symm nbd)]; exact nr)), nr, cc, fun H1 R1 => ⟨rfl, ?_⟩⟩
  refine ⟨_, rfl, ⟨_, rfl⟩, rowsText rs, "\n", rfl, rfl, by decide +kernel, ?_, fun l nl => ?_⟩
  · rw [sizeLine_eq]
    have : (rowsText rs).length ≤ rs.length * 37 := hlen
    omega
  rw [hs]
  have f0 : H l = none := none_of R1.sm nl
  have R2 := R1.ext (o := .lst ((rs.map Row.text).map V.str)) nl
  have wk0 : Same H (upd H l (.lst ((rs.map Row.text).map V.str))) := same_ext f0
  have el : (upd H l (.lst ((rs.map Row.text).map V.str))) l = some (.lst ((rs.map Row.text).map V.str)) := upd_same
  revert R2 wk0 el
  generalize upd H1 l (.lst ((rs.map Row.text).map V.str)) = H2
  generalize upd H l (.lst ((rs.map Row.text).map V.str)) = HL
  intro R2 wk0 el
  refine ⟨_, rfl, l, _, rfl, SqL.of (R2.sm _ _ el), ?_⟩
  refine for_it (walk_enum (K := K) (a := l) (xs := (rs.map Row.text).map V.str)) (fun i σ H' => ∃ (t3 t4 : Option V) (s1 : S), σ = [some (.str (rowsText rs)), some (.ref r), some (.ref l), t3, t4] ∧ RAt CB CR HL H' r s1 (2 * i) ∧ Run s1 (rs.drop i) s' ∧ Good s1) ⟨_, _, {}, rfl, R2, run, good0⟩ (fun i σ H' _ pv => ?_) (fun i x σ H3 H4 hi pv y => ?_) (fun σ H' pv => ?_)
  · obtain ⟨_, _, s1, _, R3, _⟩ := pv
    exact SqL.of (R3.sm _ _ el)
  · obtain ⟨t3, t4, s1, rfl, R3, rn, g1⟩ := pv
    obtain ⟨T, xx, yy, rfl, nT, rfl, e1, e2⟩ := y
    have hi' : i < rs.length := by rw [List.length_map, List.length_map] at hi; exact hi
    have ey : yy = .str rs[i].text := by
      have e2 : ((rs.map Row.text).map V.str)[i]? = some yy := e2
      rw [List.getElem?_map, List.getElem?_map, List.getElem?_eq_getElem hi'] at e2
      exact (Option.some.inj e2).symm
    have ex : xx = .int (i : Nat) := (Option.some.inj e1).symm
    subst ex ey
    have hrow : rs.drop i = rs[i] :: rs.drop (i + 1) := List.drop_eq_getElem_cons hi'
    have hro : rs[i].Ok := hok _ (List.getElem_mem hi')
    rw [hrow] at rn
    revert rn hro
    generalize rs[i] = row
    intro rn hro
    cases rn with
    | @cons _ s2 _ _ _ st rn =>
      refine ⟨T, _, rfl, SqT.of upd_same, rfl, _, _, rfl, _, _, rfl, rfl, ?_⟩
      have R4 := R3.same (same_ext (o := .tup [.int (i : Nat), .str row.text]) nT)
      revert R4
      generalize upd H3 T (.tup [.int (i : Nat), .str row.text]) = H4
      intro R4
      obtain ⟨dx, tl, tw, tj, bl, gt, bg, kw, kj, kg, bas, R5⟩ := R4
      refine ⟨_, rfl, r, dx, _, rfl, R5.e_r, rfl, _, rfl, _, rfl, ⟨_, rfl⟩, row.text, " ", rfl, rfl, by decide +kernel, ?_, fun p np => ?_⟩
      · have := text_len hro
        rw [sizeLine_eq]
        omega
      rw [split_text hro]
      have R6 := R5.ext (o := .lst (row.parts.map V.str)) np
      refine ⟨upd HL p (.lst (row.parts.map V.str)), r, p, s1, s2, 2 * i, (i : Nat), row, rfl, upd_same, R6.at, by omega, st, g1, fun H5 R7 => ⟨_, rfl, iteF ?_⟩⟩
      exact ⟨_, _, s2, rfl, (R7.weak (same_ext (none_of R5.sm np))).mono (by omega), rn, st.good g1⟩
  · obtain ⟨t3, t4, s1, rfl, R3, rn, g1⟩ := pv
    rw [List.length_map, List.length_map] at R3 rn
    rw [List.drop_length] at rn
    cases rn with
    | nil =>
      obtain ⟨dx, tl, tw, tj, bl, gt, bg, kw, kj, kg, bas, R5⟩ := R3
      refine ⟨_, rfl, r, CR, dx, _, _, rfl, R5.e_r, O.cl, O.na _ (by decide), rfl, by show 0 ≤ sizeLine; decide, fun p np => ⟨bl, p, _, rfl, rfl, SqL.of (kn R5.e_bl np), SqL.of upd_same, _, rfl, ?_⟩⟩
      have R6 := R5.same (same_ext (o := .lst []) np)
      by_cases hc : s'.cur = none
      · have eb : bas = [] := List.eq_nil_of_length_eq_zero (by rw [R5.len, bks_none hc]; rfl)
        subst eb
        exact iteF ⟨_, rfl, q1 hc r _ (R6.weak wk0).at⟩
      · have nb : (true != (bas.map V.ref).isEmpty) = true := by
          have z := bks_len hc
          rw [← R5.len] at z
          cases bas with
          | nil => cases z
          | cons _ _ => rfl
        rw [nb]
        refine iteT ⟨_, rfl, l, _, rfl, .inl (SqL.of (R6.sm _ _ el)), ?_⟩
        rw [List.length_map, List.length_map]
        exact mko_in (f := "at") (fun a v H1 q e h1 h2 h3 => ⟨a, v, rfl, h1, h3, h2⟩) (.inl ⟨_, rfl⟩) fun d H3 hd s3 e3 => q2 hc d H3 ((wk0.trans R6.sm).trans s3) (none_of (wk0.trans R6.sm) hd) e3
def spLookN (CB CR CU : Addr) : Sp := fun vs H Q E => ∃ (H0 : Hp) (r : Addr) (s : S) (n : Nat), vs = [.ref r] ∧ RAt CB CR H0 H r s n ∧ n ≤ 300 ∧
  ((∀ x ∈ ("main" : Str) :: s.begun, x ∈ s.jobs) → ∀ H', Same H H' → Q .non H') ∧ (∀ pre x post, ("main" : Str) :: s.begun = pre ++ x :: post → (∀ y ∈ pre, y ∈ s.jobs) → x ∉ s.jobs → ∀ d H', Same H H' → H d = none → H' d = some (.xd [("name", .str x)]) → E (.ref CU) (some d) H')
theorem ok_lookN (O : OwnC K CR fReader) (F : Fun K "look_at_names" "look_at_names" sLookN f fd) (c_Unknown : MakK P w K mg base 2 "Unknown" CU (spUnk CU)) :
    FnOk P w K mg base (L2.CX P w) 4 f fd ["reader"] (spLookN CB CR CU) := by
  refine F.okX scLookN (fun vs H Q E h => ?_) (fun cdv A outer s H vs Q E hr h => ?_)
  · obtain ⟨_, _, _, _, rfl, _⟩ := h
    rfl
  obtain ⟨H0, r, s, n, rfl, R0, hn, q1, q2⟩ := h
  have nd := scLookN.nd
  have hu := hu_of hr
  refine ⟨_, (pss_one (ps_for (passes_of rfl) rfl (pi_tup (pe_tup (pa_cons pe_str (StX.pa_star (pe_fld (pv 0) rfl) pa_nil)))) (pg_name (i := 1) nd rfl (.inl rfl))
    (pss_one (ps_if (pt_cmp (pc_dnotin hu (pv 1) (pe_dget hu (pe_fld (pv 0) rfl) pe_str (fun _ _ => rfl)))) (pss_one (ps_raise rfl (takes_of rfl rfl rfl rfl) (K8.pmk_k c_Unknown hr (by omega) rfl (pa_cons (pv 1) pa_nil)))) pss_nil)))), ?_⟩
  obtain ⟨dx, tl, tw, tj, bl, gt, bg, kw, kj, kg, bas, R⟩ := R0
  have l4 := R.l4
  refine ⟨_, rfl, r, CR, dx, _, _, rfl, R.e_r, O.cl, O.na _ (by decide), rfl, bg, _, rfl, .inr (SqL.of R.e_bg), by rw [sizeLine_eq]; simp only [List.length_cons, List.length_append, List.length_map, List.length_nil]; omega, fun tp ntp => ⟨tp, rfl, ⟨_, SqT.of upd_same⟩, ?_⟩⟩
  have et : upd H tp (.tup (V.str "main" :: (s.begun.map V.str ++ []))) tp = some (.tup ((("main" : Str) :: s.begun).map V.str)) := by rw [upd_same, List.append_nil]; rfl
  have s0 : Same H (upd H tp (.tup (V.str "main" :: (s.begun.map V.str ++ [])))) := same_ext ntp
  revert s0 et
  generalize upd H tp (.tup (V.str "main" :: (s.begun.map V.str ++ []))) = H1
  intro et s0
  refine for_it (walk_tup (K := K) (a := tp) (xs := (("main" : Str) :: s.begun).map V.str)) (fun i σ H' => (∃ t, σ = [some (.ref r), t]) ∧ Same H1 H' ∧ ∀ y ∈ ((("main" : Str) :: s.begun).take i), y ∈ s.jobs) ⟨⟨_, rfl⟩, Same.refl _, fun y hy => by cases hy⟩ (fun i σ H' _ pv => SqT.of (pv.2.1 _ _ et)) (fun i x σ H2 H3 hi pv y => ?_) (fun σ H' pv => ?_)
  · obtain ⟨⟨t, rfl⟩, s2, all⟩ := pv
    obtain ⟨rfl, hx⟩ := y
    rw [List.length_map] at hi
    rw [List.getElem?_map, List.getElem?_eq_getElem hi] at hx
    have ex : x = .str (("main" : Str) :: s.begun)[i] := (Option.some.inj hx).symm
    subst ex
    have tk : (("main" : Str) :: s.begun).take (i + 1) = (("main" : Str) :: s.begun).take i ++ [(("main" : Str) :: s.begun)[i]] := (List.take_append_getElem hi).symm
    have spl : ("main" : Str) :: s.begun = (("main" : Str) :: s.begun).take i ++ (("main" : Str) :: s.begun)[i] :: (("main" : Str) :: s.begun).drop (i + 1) := by rw [← List.drop_eq_getElem_cons hi, List.take_append_drop]
    have q2' := q2 _ _ _ spl all
    revert tk q2'
    generalize (("main" : Str) :: s.begun)[i] = x
    intro tk q2'
    have R1 := R.same (s0.trans s2)
    have hin := keys_mem R1.e_kj x
    refine ⟨_, rfl, _, rfl, r, CR, dx, _, _, rfl, R1.e_r, O.cl, O.na _ (by decide), rfl, tl, .ref tj, rfl, dg R1.e_tl rfl, tj, _, rfl, dgo R1.e_tj, _, rfl, ?_⟩
    rw [hin]
    by_cases hm : x ∈ s.jobs
    · rw [decide_eq_true hm]
      refine iteF ⟨⟨_, rfl⟩, s2, fun y hy => ?_⟩
      rw [tk] at hy
      rcases List.mem_append.mp hy with hy | hy
      · exact all y hy
      · rw [List.mem_singleton.mp hy]; exact hm
    · rw [decide_eq_false hm]
      exact iteT ⟨_, rfl, mko_in (f := "name") (fun a v H1 q e h1 h2 h3 => ⟨a, v, rfl, h1, h3, h2⟩) (.inr ⟨_, rfl⟩) fun d H3 hd s3 e3 => q2' hm d H3 ((s0.trans s2).trans s3) (none_of (s0.trans s2) hd) e3⟩
  · obtain ⟨⟨t, rfl⟩, s2, all⟩ := pv
    rw [List.length_map, List.take_length] at all
    exact q1 all H' (s0.trans s2)
def spLookS (CB CR : Addr) : Sp := fun vs H Q E => ∃ (H0 : Hp) (r : Addr) (s : S) (n many : Nat), vs = [.ref r, .int many] ∧ RAt CB CR H0 H r s n ∧ n ≤ 300 ∧ many ≤ 100 ∧ s.jobs.length ≤ 6 ∧ s.walks.length ≤ 6 ∧ s.deepest ≤ 6 ∧ ∀ H', Same H H' → Q .non H'
theorem ok_lookS (O : OwnC K CR fReader) (F : Fun K "look_at_size" "look_at_size" sLookS f fd) (c_TooMany : MakO P w K mg base 2 "TooMany" CT spT) (m_len : mg "len" = none) (g_MOST_ROWS : ∃ u, mg "MOST_ROWS" = some u ∧ RelV (.int 100) u) (g_MOST_JOBS : ∃ u, mg "MOST_JOBS" = some u ∧ RelV (.int 6) u) (g_MOST_WALKS : ∃ u, mg "MOST_WALKS" = some u ∧ RelV (.int 6) u) (g_MOST_DEEP : ∃ u, mg "MOST_DEEP" = some u ∧ RelV (.int 6) u) :
    FnOk P w K mg base (L2.CX P w) 4 f fd ["reader", "many"] (spLookS CB CR) := by
  refine F.okX scLookS (fun vs H Q E h => ?_) (fun cdv A outer s H vs Q E hr h => ?_)
  · obtain ⟨_, _, _, _, _, rfl, _⟩ := h
    rfl
  obtain ⟨H0, r, s, n, many, rfl, R0, hn, h1, h2, h3, h4, q⟩ := h
  have nd := scLookS.nd
  have hu := hu_of hr
  refine ⟨_, (pss_cons (ps_set (i := 2) nd rfl (.inl rfl) (pe_disp (pps_cons pe_str (pe_tup (pa_cons (pv 1) (pa_cons (C8.pe_gc rfl g_MOST_ROWS) pa_nil))) (pps_cons pe_str (pe_tup (pa_cons (pe_callB call_lenD (by rfl) m_len (by decide +kernel) (pa_cons (pe_dget hu (pe_fld (pv 0) rfl) pe_str (fun _ _ => rfl)) pa_nil)) (pa_cons (C8.pe_gc rfl g_MOST_JOBS) pa_nil))) (pps_cons pe_str (pe_tup (pa_cons (pe_callB call_lenD (by rfl) m_len (by decide +kernel) (pa_cons (pe_dget hu (pe_fld (pv 0) rfl) pe_str (fun _ _ => rfl)) pa_nil)) (pa_cons (C8.pe_gc rfl g_MOST_WALKS) pa_nil))) (pps_cons pe_str (pe_tup (pa_cons (pe_fld (pv 0) rfl) (pa_cons (C8.pe_gc rfl g_MOST_DEEP) pa_nil))) pps_nil)))) (by rfl) (by rfl) (fun z => by cases z) (by decide)))
    (pss_one (ps_lock (ps_for (passes_of rfl) rfl (pi_items (pv 2)) (pg_tup rfl (pgs_cons (pg_name (i := 3) nd rfl (.inl rfl)) (pgs_cons (pg_tup rfl (pgs_cons (pg_name (i := 4) nd rfl (.inl rfl)) (pgs_cons (pg_name (i := 5) nd rfl (.inl rfl)) pgs_nil))) pgs_nil)))
    (pss_one (ps_if (pt_cmpR op_gt (pv 4) (pv 5) (nomark _)) (pss_one (ps_raise rfl (takes_of rfl rfl rfl rfl) (K8.pmk_o c_TooMany hr (by omega) rfl (pa_cons (pv 3) pa_nil)))) pss_nil)))))), ?_⟩
  obtain ⟨dx, tl, tw, tj, bl, gt, bg, kw, kj, kg, bas, R⟩ := R0
  refine fun p np => ⟨_, rfl, by show 2 ≤ sizeLine; decide, fun t1 nt1 => ?_⟩
  have R1 := (R.same (same_ext (o := .dK []) np)).same (same_ext (o := .tup [.int many, .int 100]) nt1)
  refine ⟨_, rfl, r, CR, dx, _, _, rfl, R1.e_r, O.cl, O.na _ (by decide), rfl, tl, .ref tj, rfl, dg R1.e_tl rfl, tj, kj, rfl, R1.e_tj, by show 2 ≤ sizeLine; decide, fun t2 nt2 => ?_⟩
  have R2 := R1.same (same_ext (o := .tup [.int kj.length, .int 6]) nt2)
  refine ⟨_, rfl, r, CR, dx, _, _, rfl, R2.e_r, O.cl, O.na _ (by decide), rfl, tl, .ref tw, rfl, dg R2.e_tl rfl, tw, kw, rfl, R2.e_tw, by show 2 ≤ sizeLine; decide, fun t3 nt3 => ?_⟩
  have R3 := R2.same (same_ext (o := .tup [.int kw.length, .int 6]) nt3)
  refine ⟨_, rfl, r, CR, dx, _, _, rfl, R3.e_r, O.cl, O.na _ (by decide), rfl, by show 2 ≤ sizeLine; decide, fun t4 nt4 => ⟨kn (kn (kn (kn upd_same nt1) nt2) nt3) nt4, [(.inr "rows", .ref t1), (.inr "jobs", .ref t2), (.inr "walks", .ref t3), (.inr "deep", .ref t4)], rfl, by show 4 ≤ 15; decide, ?_⟩⟩
  have lw : kw.length = s.walks.length := by have z := congrArg List.length R.e_kw; rw [List.length_map, List.length_map] at z; exact z
  have lj : kj.length = s.jobs.length := by have z := congrArg List.length R.e_kj; rw [List.length_map, List.length_map] at z; exact z
  have sH : Same H (upd (upd (upd (upd (upd (upd H p (.dK [])) t1 (.tup [.int many, .int 100])) t2 (.tup [.int kj.length, .int 6])) t3 (.tup [.int kw.length, .int 6])) t4 (.tup [.int s.deepest, .int 6])) p (.dK (mergeK [] [(.inr "rows", .ref t1), (.inr "jobs", .ref t2), (.inr "walks", .ref t3), (.inr "deep", .ref t4)]))) :=
    same_put (((((same_ext np).trans (same_ext nt1)).trans (same_ext nt2)).trans (same_ext nt3)).trans (same_ext nt4)) np
  have ep : (upd (upd (upd (upd (upd (upd H p (.dK [])) t1 (.tup [.int many, .int 100])) t2 (.tup [.int kj.length, .int 6])) t3 (.tup [.int kw.length, .int 6])) t4 (.tup [.int s.deepest, .int 6])) p (.dK (mergeK [] [(.inr "rows", .ref t1), (.inr "jobs", .ref t2), (.inr "walks", .ref t3), (.inr "deep", .ref t4)]))) p = some (.dK [(.inr "rows", .ref t1), (.inr "jobs", .ref t2), (.inr "walks", .ref t3), (.inr "deep", .ref t4)]) := upd_same
  have n1p := (fr nt1).2
  have n2p := (fr (fr nt2).1).2
  have n3p := (fr (fr (fr nt3).1).1).2
  have n4p := (fr (fr (fr (fr nt4).1).1).1).2
  have vals : ∀ kv ∈ ([(.inr "rows", .ref t1), (.inr "jobs", .ref t2), (.inr "walks", .ref t3), (.inr "deep", .ref t4)] : List (Key × V)), ∃ (t : Addr) (a b : Int), kv.2 = .ref t ∧ t ≠ p ∧ (upd (upd (upd (upd (upd (upd H p (.dK [])) t1 (.tup [.int many, .int 100])) t2 (.tup [.int kj.length, .int 6])) t3 (.tup [.int kw.length, .int 6])) t4 (.tup [.int s.deepest, .int 6])) p (.dK (mergeK [] [(.inr "rows", .ref t1), (.inr "jobs", .ref t2), (.inr "walks", .ref t3), (.inr "deep", .ref t4)]))) t = some (.tup [.int a, .int b]) ∧ a ≤ b := by
    intro kv hkv
    simp only [List.mem_cons, List.not_mem_nil, or_false] at hkv
    rcases hkv with rfl | rfl | rfl | rfl
    · exact ⟨t1, many, 100, rfl, n1p, ku (kn (kn (kn upd_same nt2) nt3) nt4) n1p, by omega⟩
    · exact ⟨t2, kj.length, 6, rfl, n2p, ku (kn (kn upd_same nt3) nt4) n2p, by omega⟩
    · exact ⟨t3, kw.length, 6, rfl, n3p, ku (kn upd_same nt4) n3p, by omega⟩
    · exact ⟨t4, s.deepest, 6, rfl, n4p, ku upd_same n4p, by omega⟩
  revert sH ep vals
  generalize (upd (upd (upd (upd (upd (upd H p (.dK [])) t1 (.tup [.int many, .int 100])) t2 (.tup [.int kj.length, .int 6])) t3 (.tup [.int kw.length, .int 6])) t4 (.tup [.int s.deepest, .int 6])) p (.dK (mergeK [] [(.inr "rows", .ref t1), (.inr "jobs", .ref t2), (.inr "walks", .ref t3), (.inr "deep", .ref t4)]))) = H1
  generalize ([(.inr "rows", .ref t1), (.inr "jobs", .ref t2), (.inr "walks", .ref t3), (.inr "deep", .ref t4)] : List (Key × V)) = kvs
  intro sH ep vals
  refine ⟨p, .dK kvs, ep, trivial, fun od => ⟨_, rfl, p, od, kvs, rfl, upd_same, ?_⟩⟩
  refine for_it (walk_items (kvs := kvs) (d := p) (o := od)) (fun i σ H' => (∃ t3 t4 t5 : Option V, σ = [some (.ref r), some (.int many), some (.ref p), t3, t4, t5]) ∧ Same (upd H1 p (.frz od (.dK kvs))) H') ⟨⟨_, _, _, rfl⟩, Same.refl _⟩ (fun i σ H' _ pv => pv.2 _ _ upd_same) (fun i x σ H2 H3 hi pv y => ?_) (fun σ H' pv => ?_)
  · obtain ⟨⟨u3, u4, u5, rfl⟩, s2⟩ := pv
    obtain ⟨T, xx, yy, rfl, nT, rfl, e1, e2⟩ := y
    have e2 : kvs[i]?.map Prod.snd = some yy := e2
    rw [List.getElem?_eq_getElem hi] at e2
    obtain ⟨t, a, b, ev, ntp, et, hab⟩ := vals _ (List.getElem_mem hi)
    have ey : yy = .ref t := (Option.some.inj e2).symm.trans ev
    subst ey
    refine ⟨T, _, rfl, SqT.of upd_same, rfl, _, _, rfl, _, _, rfl, ⟨t, _, rfl, SqT.of (kn (s2 _ _ (ku et ntp)) nT), rfl, _, _, rfl, _, _, rfl, rfl, rfl, ?_⟩⟩
    refine ⟨_, rfl, _, rfl, a, b, rfl, rfl, _, rfl, ?_⟩
    rw [decide_eq_false (show ¬ b < a by omega)]
    exact iteF ⟨⟨_, _, _, rfl⟩, s2.trans (same_ext nT)⟩
  · obtain ⟨⟨u3, u4, u5, rfl⟩, s2⟩ := pv
    refine ⟨s2 _ _ upd_same, q _ fun c o hc => ?_⟩
    by_cases z : c = p
    · rw [z, np] at hc
      cases hc
    · rw [upd_ne z]
      exact s2 _ _ (ku (sH _ _ hc) z)
end
end K8
set_option Elab.async false
set_option linter.all false
set_option maxRecDepth 100000
set_option maxHeartbeats 4000000
/-! The walks of Program. -/
namespace K8
open PySem PyProof.Rows L2
abbrev fProg : List Str := ["text", "job_rows", "walk_rows", "jobs", "walks", "gates"]
structure CalX (P : Program) (w : World) (K : PySem.W.Frag) (mg : Str → Option Value) (base : Heap) (k : Nat) (x : Str) (sp : Sp) (dvs : List V) : Prop where
  ex : ∃ (f : Addr) (fd : FuncData) (ps : List Str) (ds : List Value), FnOk P w K mg base (L2.CX P w) k f fd ps sp ∧ mg x = some (.ref f) ∧ PySem.W.keepIn K (.ref f) = true ∧ Binds K fd ps ds ∧ Vals dvs ds
theorem pe_cx {X : Cx} {k j : Nat} {x : Str} {sp : Sp} {dvs : List V} {E : XK} {p pos : Pos} {e : Expr} {es : List Expr} {t : TA} (c : CalX X.prog X.w X.K X.mg X.base k x sp dvs) (hr : Room j X.A) (hk : k ≤ j) (tk : Takes X (fun cls d _ H => E cls d H)) (hg : Gl X x) (ha : PA X (e :: es) t)
    (hdb : (x == ("__debug__" : Str)) = false := by decide) (he : starEach (e :: es) X.env = (false, eval e X.env) :: starEach es X.env := by rfl) (hpl : (backTo pos (starEach es X.env)).any (·.1) = false := by rfl) :
    PE X (.Call (.Name x p) (e :: es) [] pos) (tCall sp dvs E t) := by
  obtain ⟨f, fd, ps, ds, F, hm, kp, b, d⟩ := c.ex
  exact pe_call F (hr.mono hk) hg hm kp b d (passes_call tk fun _ _ _ _ h => h) ha hdb he hpl
structure PAt (CP : Addr) (H : Hp) (p : Addr) (t : Str) (js ws gs : List Str) : Prop where
  ex : ∃ (dx tj tw pj pw pg : Addr), H p = some (.ins CP dx [("text", .str t), ("job_rows", .ref tj), ("walk_rows", .ref tw), ("jobs", .ref pj), ("walks", .ref pw), ("gates", .ref pg)]) ∧ H pj = some (.tup (js.map V.str)) ∧ H pw = some (.tup (ws.map V.str)) ∧ H pg = some (.tup (gs.map V.str))
theorem PAt.same {CP : Addr} {H H' : Hp} {p : Addr} {t : Str} {js ws gs : List Str} (h : PAt CP H p t js ws gs) (s : Same H H') : PAt CP H' p t js ws gs := by
  obtain ⟨dx, tj, tw, pj, pw, pg, a, b, c, d⟩ := h
  exact ⟨dx, tj, tw, pj, pw, pg, s _ _ a, s _ _ b, s _ _ c, s _ _ d⟩
/-- the names of a program, in order -/
structure Sorts (s : S) (js ws gs : List Str) : Prop where
  j : js.Perm s.jobs
  w : ws.Perm s.walks
  g : gs.Perm s.gates
  sj : sortedS js = true
  sw : sortedS ws = true
  sg : sortedS gs = true
section
variable {P : Program} {w : World} {K : PySem.W.Frag} {mg : Str → Option Value} {base : Heap} {f : Addr} {fd : FuncData} {CB CR CE CU CP : Addr}
abbrev sPinit : Stmt := cls 27 0
abbrev sPread : Stmt := cls 27 1
theorem scPinit : FnScope ["self", "text", "reader"] ["self", "text", "reader"] (defScope sPinit) := ⟨rfl, rfl, rfl, by decide +kernel, rfl, by decide +kernel, by decide +kernel⟩
theorem scPread : FnScope ["text", "reader"] ["text"] (defScope sPread) := ⟨rfl, rfl, rfl, by decide +kernel, rfl, by decide +kernel, by decide +kernel⟩
def spPinit (CB CR CP : Addr) : Sp := fun vs H Q _ => ∃ (H0 : Hp) (x dx r : Addr) (t : Str) (s : S) (n : Nat), vs = [.ref x, .str t, .ref r] ∧ H x = some (.ins CP dx []) ∧ RAt CB CR H0 H r s n ∧ CP ≠ CR ∧ s.jobs.length < 64 ∧ s.walks.length < 64 ∧ s.gates.length < 64 ∧
  ∀ (js ws gs : List Str) (H' : Hp), Sorts s js ws gs → But [x] H H' → PAt CP H' x t js ws gs → Q .non H'
theorem ok_pinit (O : OwnC K CR fReader) (OP : OwnC K CP fProg) (F : Fun K "__init__" "Program.__init__" sPinit f fd) (m_tuple : mg "tuple" = none) (m_sorted : mg "sorted" = none) : FnOk P w K mg base CX0 1 f fd ["self", "text", "reader"] (spPinit CB CR CP) := by
  refine F.ok scPinit (fun vs H Q E h => ?_) (fun cdv A outer s H vs Q E hr h => ?_)
  · obtain ⟨_, _, _, _, _, _, _, rfl, _⟩ := h
    rfl
  obtain ⟨H0, x, dp, r, t, s, n, rfl, hx, ⟨dx, tl, tw, tj, bl, gt, bg, kw, kj, kg, bas, R⟩, cc, c1, c2, c3, q⟩ := h
  have nd := scPinit.nd
  have hu := hu_of hr
  refine ⟨_, (pss_cons (ps_fld (pv 0) (pv 1) rfl)
    (pss_cons (ps_fld (pv 0) (pe_dget hu (pe_fld (pv 2) rfl) pe_str (fun _ _ => rfl)) rfl)
    (pss_cons (ps_fld (pv 0) (pe_dget hu (pe_fld (pv 2) rfl) pe_str (fun _ _ => rfl)) rfl)
    (pss_cons (ps_fld (pv 0) (pe_callTy call_tuple_of (by rfl) m_tuple (by decide +kernel) (pa_cons (pe_callB (call_sortedD rfl) (by rfl) m_sorted (by decide +kernel) (pa_cons (pe_dget hu (pe_fld (pv 2) rfl) pe_str (fun _ _ => rfl)) pa_nil)) pa_nil)) rfl)
    (pss_cons (ps_fld (pv 0) (pe_callTy call_tuple_of (by rfl) m_tuple (by decide +kernel) (pa_cons (pe_callB (call_sortedD rfl) (by rfl) m_sorted (by decide +kernel) (pa_cons (pe_dget hu (pe_fld (pv 2) rfl) pe_str (fun _ _ => rfl)) pa_nil)) pa_nil)) rfl)
    (pss_one (ps_fld (pv 0) (pe_callTy call_tuple_of (by rfl) m_tuple (by decide +kernel) (pa_cons (pe_callB (call_sortedD rfl) (by rfl) m_sorted (by decide +kernel) (pa_cons (pe_fld (pv 2) rfl) pa_nil)) pa_nil)) rfl))))))), ?_⟩
  have nr : r ≠ x := fun z => by have q := R.e_r; rw [z, hx] at q; injection q with q; injection q with q; exact cc q
  have nd' : ∀ {a : Addr} {l : List (Key × V)}, H a = some (.dK l) → a ≠ x := fun e z => by rw [z, hx] at e; cases e
  have go : ∀ {H' : Hp}, But [x] H H' → H' r = some (.ins CR dx (rIns tl bl gt bg s.deepest)) ∧ H' tl = some (.dK [(.inr "walk", .ref tw), (.inr "job", .ref tj)]) ∧ H' tj = some (.dK kj) ∧ H' tw = some (.dK kw) ∧ H' gt = some (.dK kg) :=
    fun b => ⟨b _ _ R.e_r (n1 nr), b _ _ R.e_tl (n1 (nd' R.e_tl)), b _ _ R.e_tj (n1 (nd' R.e_tj)), b _ _ R.e_tw (n1 (nd' R.e_tw)), b _ _ R.e_gt (n1 (nd' R.e_gt))⟩
  refine ⟨_, rfl, _, rfl, x, CP, dp, _, rfl, hx, OP.cl, OP.na "text" (by decide), by show 0 < 1000; decide, ?_⟩
  have b1 : But [x] H (upd H x (.ins CP dp (putF "text" (.str t) []))) := But.refl.put m1
  have x1 : (upd H x (.ins CP dp (putF "text" (.str t) []))) x = some (.ins CP dp [("text", .str t)]) := upd_same
  refine ⟨_, rfl, r, CR, dx, _, _, rfl, (go b1).1, O.cl, O.na _ (by decide), rfl, tl, .ref tj, rfl, dg (go b1).2.1 rfl, _, rfl, x, CP, dp, _, rfl, x1, OP.cl, OP.na "job_rows" (by decide), by show 1 < 1000; decide, ?_⟩
  have b2 : But [x] H (upd (upd H x (.ins CP dp (putF "text" (.str t) []))) x (.ins CP dp (putF "job_rows" (.ref tj) [("text", .str t)]))) := b1.put m1
  have x2 : (upd (upd H x (.ins CP dp (putF "text" (.str t) []))) x (.ins CP dp (putF "job_rows" (.ref tj) [("text", .str t)]))) x = some (.ins CP dp [("text", .str t), ("job_rows", .ref tj)]) := upd_same
  refine ⟨_, rfl, r, CR, dx, _, _, rfl, (go b2).1, O.cl, O.na _ (by decide), rfl, tl, .ref tw, rfl, dg (go b2).2.1 rfl, _, rfl, x, CP, dp, _, rfl, x2, OP.cl, OP.na "walk_rows" (by decide), by show 2 < 1000; decide, ?_⟩
  have b3 : But [x] H (upd (upd (upd H x (.ins CP dp (putF "text" (.str t) []))) x (.ins CP dp (putF "job_rows" (.ref tj) [("text", .str t)]))) x (.ins CP dp (putF "walk_rows" (.ref tw) [("text", .str t), ("job_rows", .ref tj)]))) := b2.put m1
  have x3 : (upd (upd (upd H x (.ins CP dp (putF "text" (.str t) []))) x (.ins CP dp (putF "job_rows" (.ref tj) [("text", .str t)]))) x (.ins CP dp (putF "walk_rows" (.ref tw) [("text", .str t), ("job_rows", .ref tj)]))) x = some (.ins CP dp [("text", .str t), ("job_rows", .ref tj), ("walk_rows", .ref tw)]) := upd_same
  revert b3 x3
  generalize (upd (upd (upd H x (.ins CP dp (putF "text" (.str t) []))) x (.ins CP dp (putF "job_rows" (.ref tj) [("text", .str t)]))) x (.ins CP dp (putF "walk_rows" (.ref tw) [("text", .str t), ("job_rows", .ref tj)]))) = H3
  intro b3 x3
  refine ⟨_, rfl, r, CR, dx, _, _, rfl, (go b3).1, O.cl, O.na _ (by decide), rfl, tl, .ref tj, rfl, dg (go b3).2.1 rfl, tj, kj, s.jobs, rfl, .inl (go b3).2.2.1, R.e_kj, c1, fun js l3 pm3 sd3 nl3 => ⟨l3, _, rfl, .inl ⟨SqL.of upd_same, fun p3 np3 => ⟨_, rfl, x, CP, dp, _, rfl, kn (kn x3 nl3) np3, OP.cl, OP.na "jobs" (by decide), by show 3 < 1000; decide, ?_⟩⟩⟩⟩
  have b4 : But [x] H (upd (upd (upd H3 l3 (.lst (js.map V.str))) p3 (.tup (js.map V.str))) x (.ins CP dp (putF "jobs" (.ref p3) [("text", .str t), ("job_rows", .ref tj), ("walk_rows", .ref tw)]))) := ((b3.new nl3).new np3).put m1
  have x4 : (upd (upd (upd H3 l3 (.lst (js.map V.str))) p3 (.tup (js.map V.str))) x (.ins CP dp (putF "jobs" (.ref p3) [("text", .str t), ("job_rows", .ref tj), ("walk_rows", .ref tw)]))) x = some (.ins CP dp [("text", .str t), ("job_rows", .ref tj), ("walk_rows", .ref tw), ("jobs", .ref p3)]) := upd_same
  have f3 : (upd (upd (upd H3 l3 (.lst (js.map V.str))) p3 (.tup (js.map V.str))) x (.ins CP dp (putF "jobs" (.ref p3) [("text", .str t), ("job_rows", .ref tj), ("walk_rows", .ref tw)]))) p3 = some (.tup (js.map V.str)) := ku upd_same (ne_of_none (kn x3 nl3) np3).symm
  have y3 : p3 ≠ x := (ne_of_none (kn x3 nl3) np3).symm
  revert b4 x4 f3
  generalize (upd (upd (upd H3 l3 (.lst (js.map V.str))) p3 (.tup (js.map V.str))) x (.ins CP dp (putF "jobs" (.ref p3) [("text", .str t), ("job_rows", .ref tj), ("walk_rows", .ref tw)]))) = H4
  intro b4 x4 f3
  refine ⟨_, rfl, r, CR, dx, _, _, rfl, (go b4).1, O.cl, O.na _ (by decide), rfl, tl, .ref tw, rfl, dg (go b4).2.1 rfl, tw, kw, s.walks, rfl, .inl (go b4).2.2.2.1, R.e_kw, c2, fun ws l4 pm4 sd4 nl4 => ⟨l4, _, rfl, .inl ⟨SqL.of upd_same, fun p4 np4 => ⟨_, rfl, x, CP, dp, _, rfl, kn (kn x4 nl4) np4, OP.cl, OP.na "walks" (by decide), by show 4 < 1000; decide, ?_⟩⟩⟩⟩
  have b5 : But [x] H (upd (upd (upd H4 l4 (.lst (ws.map V.str))) p4 (.tup (ws.map V.str))) x (.ins CP dp (putF "walks" (.ref p4) [("text", .str t), ("job_rows", .ref tj), ("walk_rows", .ref tw), ("jobs", .ref p3)]))) := ((b4.new nl4).new np4).put m1
  have x5 : (upd (upd (upd H4 l4 (.lst (ws.map V.str))) p4 (.tup (ws.map V.str))) x (.ins CP dp (putF "walks" (.ref p4) [("text", .str t), ("job_rows", .ref tj), ("walk_rows", .ref tw), ("jobs", .ref p3)]))) x = some (.ins CP dp [("text", .str t), ("job_rows", .ref tj), ("walk_rows", .ref tw), ("jobs", .ref p3), ("walks", .ref p4)]) := upd_same
  have f4 : (upd (upd (upd H4 l4 (.lst (ws.map V.str))) p4 (.tup (ws.map V.str))) x (.ins CP dp (putF "walks" (.ref p4) [("text", .str t), ("job_rows", .ref tj), ("walk_rows", .ref tw), ("jobs", .ref p3)]))) p4 = some (.tup (ws.map V.str)) := ku upd_same (ne_of_none (kn x4 nl4) np4).symm
  have g3 : (upd (upd (upd H4 l4 (.lst (ws.map V.str))) p4 (.tup (ws.map V.str))) x (.ins CP dp (putF "walks" (.ref p4) [("text", .str t), ("job_rows", .ref tj), ("walk_rows", .ref tw), ("jobs", .ref p3)]))) p3 = some (.tup (js.map V.str)) := ku (kn (kn f3 nl4) np4) y3
  replace f3 := g3
  clear g3
  have y4 : p4 ≠ x := (ne_of_none (kn x4 nl4) np4).symm
  revert b5 x5 f3 f4
  generalize (upd (upd (upd H4 l4 (.lst (ws.map V.str))) p4 (.tup (ws.map V.str))) x (.ins CP dp (putF "walks" (.ref p4) [("text", .str t), ("job_rows", .ref tj), ("walk_rows", .ref tw), ("jobs", .ref p3)]))) = H5
  intro b5 x5 f4 f3
  refine ⟨_, rfl, r, CR, dx, _, _, rfl, (go b5).1, O.cl, O.na _ (by decide), rfl, gt, kg, s.gates, rfl, .inl (go b5).2.2.2.2, R.e_kg, c3, fun gs l5 pm5 sd5 nl5 => ⟨l5, _, rfl, .inl ⟨SqL.of upd_same, fun p5 np5 => ⟨_, rfl, x, CP, dp, _, rfl, kn (kn x5 nl5) np5, OP.cl, OP.na "gates" (by decide), by show 5 < 1000; decide, ?_⟩⟩⟩⟩
  have b6 : But [x] H (upd (upd (upd H5 l5 (.lst (gs.map V.str))) p5 (.tup (gs.map V.str))) x (.ins CP dp (putF "gates" (.ref p5) [("text", .str t), ("job_rows", .ref tj), ("walk_rows", .ref tw), ("jobs", .ref p3), ("walks", .ref p4)]))) := ((b5.new nl5).new np5).put m1
  have x6 : (upd (upd (upd H5 l5 (.lst (gs.map V.str))) p5 (.tup (gs.map V.str))) x (.ins CP dp (putF "gates" (.ref p5) [("text", .str t), ("job_rows", .ref tj), ("walk_rows", .ref tw), ("jobs", .ref p3), ("walks", .ref p4)]))) x = some (.ins CP dp [("text", .str t), ("job_rows", .ref tj), ("walk_rows", .ref tw), ("jobs", .ref p3), ("walks", .ref p4), ("gates", .ref p5)]) := upd_same
  have f5 : (upd (upd (upd H5 l5 (.lst (gs.map V.str))) p5 (.tup (gs.map V.str))) x (.ins CP dp (putF "gates" (.ref p5) [("text", .str t), ("job_rows", .ref tj), ("walk_rows", .ref tw), ("jobs", .ref p3), ("walks", .ref p4)]))) p5 = some (.tup (gs.map V.str)) := ku upd_same (ne_of_none (kn x5 nl5) np5).symm
  have g3 : (upd (upd (upd H5 l5 (.lst (gs.map V.str))) p5 (.tup (gs.map V.str))) x (.ins CP dp (putF "gates" (.ref p5) [("text", .str t), ("job_rows", .ref tj), ("walk_rows", .ref tw), ("jobs", .ref p3), ("walks", .ref p4)]))) p3 = some (.tup (js.map V.str)) := ku (kn (kn f3 nl5) np5) y3
  replace f3 := g3
  clear g3
  have g4 : (upd (upd (upd H5 l5 (.lst (gs.map V.str))) p5 (.tup (gs.map V.str))) x (.ins CP dp (putF "gates" (.ref p5) [("text", .str t), ("job_rows", .ref tj), ("walk_rows", .ref tw), ("jobs", .ref p3), ("walks", .ref p4)]))) p4 = some (.tup (ws.map V.str)) := ku (kn (kn f4 nl5) np5) y4
  replace f4 := g4
  clear g4
  have y5 : p5 ≠ x := (ne_of_none (kn x5 nl5) np5).symm
  exact q js ws gs _ ⟨pm3, pm4, pm5, sd3, sd4, sd5⟩ b6 ⟨dp, tj, tw, p3, p4, p5, x6, f3, f4, f5⟩
def spPread (CB CR CP CE CU : Addr) : Sp := fun vs H Q E => ∃ (rs : List Row) (s' : S), vs = [.str (rowsText rs)] ∧ rs ≠ [] ∧ rs.length ≤ 100 ∧ Run {} rs s' ∧ CB ≠ CR ∧ CP ≠ CR ∧
  (s'.cur ≠ none → ∀ d H', Same H H' → H d = none → H' d = some (.xd [("at", .int rs.length)]) → E (.ref CE) (some d) H') ∧
  (s'.cur = none → ∀ pre x post, ("main" : Str) :: s'.begun = pre ++ x :: post → (∀ y ∈ pre, y ∈ s'.jobs) → x ∉ s'.jobs → ∀ d H', Same H H' → H d = none → H' d = some (.xd [("name", .str x)]) → E (.ref CU) (some d) H') ∧
  (s'.cur = none → (∀ x ∈ ("main" : Str) :: s'.begun, x ∈ s'.jobs) → s'.jobs.length ≤ 6 ∧ s'.walks.length ≤ 6 ∧ s'.deepest ≤ 6 ∧ s'.gates.length < 64 ∧ ∀ p js ws gs H', Sorts s' js ws gs → Same H H' → PAt CP H' p (rowsText rs) js ws gs → Q (.ref p) H')
theorem ok_pread (F : Fun K "read" "Program.read" sPread f fd) (c_read_rows : CalX P w K mg base 6 "read_rows" (spRead CB CR CE) []) (c_look_at_names : CalX P w K mg base 4 "look_at_names" (spLookN CB CR CU) []) (c_look_at_size : CalX P w K mg base 4 "look_at_size" (spLookS CB CR) []) (c_Program : C8.Mak P w K mg base 1 "Program" CP (spPinit CB CR CP) []) (m_len : mg "len" = none) :
    FnOk P w K mg base (L2.CX P w) 7 f fd ["text"] (spPread CB CR CP CE CU) := by
  refine F.okX scPread (fun vs H Q E h => ?_) (fun cdv A outer s H vs Q E hr h => ?_)
  · obtain ⟨_, _, rfl, _⟩ := h
    rfl
  obtain ⟨rs, s', rfl, hne, hl, run, cc, cp, q1, q2, q3⟩ := h
  have nd := scPread.nd
  refine ⟨_, (pss_cons (ps_set (i := 1) nd rfl (.inl rfl) (K8.pe_cx c_read_rows hr (by omega) (takes_of rfl rfl rfl rfl) rfl (pa_cons (pv 0) pa_nil)))
    (pss_cons (ps_expr (K8.pe_cx c_look_at_names hr (by omega) (takes_of rfl rfl rfl rfl) rfl (pa_cons (pv 1) pa_nil)))
    (pss_cons (ps_expr (K8.pe_cx c_look_at_size hr (by omega) (takes_of rfl rfl rfl rfl) rfl (pa_cons (pv 1) (pa_cons (pe_callB call_len_seq (by rfl) m_len (by decide +kernel) (pa_cons (pe_split (pv 0) pe_str) pa_nil)) pa_nil))))
    (pss_one (ps_ret (C8.pe_mk c_Program hr (by omega) rfl (pa_cons (pv 0) (pa_cons (pv 1) pa_nil)))))))), ?_⟩
  have hok := run.ok
  have hs : Txt.split (rowsText rs) "\n" = rs.map Row.text := split_rows hne hok
  have hlen := rows_len hok
  refine ⟨_, rfl, rs, s', rfl, hne, hl, run, cc, fun hc r H1 R1 => ?_, fun hc d H1 s1 hd e1 => q1 hc d H1 s1 hd e1⟩
  refine ⟨_, rfl, H, r, s', 2 * rs.length, rfl, R1, by omega, fun all H2 s2 => ?_, fun pre x post e1 h1 h2 d H2 s2 hd e2 => q2 hc pre x post e1 h1 h2 d H2 (R1.sm.trans s2) (none_of R1.sm hd) e2⟩
  obtain ⟨z1, z2, z3, z4, q⟩ := q3 hc all
  refine ⟨_, rfl, _, rfl, ⟨_, rfl⟩, rowsText rs, "\n", rfl, rfl, by decide +kernel, ?_, fun l nl => ?_⟩
  · rw [sizeLine_eq]
    have : (rowsText rs).length ≤ rs.length * 37 := hlen
    omega
  rw [hs]
  refine ⟨l, _, rfl, .inl (SqL.of upd_same), ?_⟩
  rw [List.length_map, List.length_map]
  have R2 := (R1.same s2).same (same_ext (o := .lst ((rs.map Row.text).map V.str)) nl)
  refine ⟨H, r, s', 2 * rs.length, rs.length, rfl, R2, by omega, hl, z1, z2, z3, fun H3 s3 => ?_⟩
  have R3 := R2.same s3
  refine ⟨_, rfl, _, rfl, fun p dp np ndp nn => ?_⟩
  have sx : Same H3 (upd (upd H3 dp (.own p)) p (.ins CP dp [])) := (same_ext ndp).trans (same_ext (by rw [upd_ne (Ne.symm nn)]; exact np))
  refine ⟨H, p, dp, r, rowsText rs, s', 2 * rs.length, rfl, upd_same, R3.same sx, cp, by omega, by omega, z4, fun js ws gs H4 so bt pa => ⟨rfl, ?_⟩⟩
  refine q p js ws gs H4 so (fun c o ho => ?_) pa
  have h3 := R3.sm _ _ ho
  exact bt c o (sx _ _ h3) (n1 (ne_of_none h3 np))
end
end K8
set_option Elab.async false
set_option linter.all false
set_option maxRecDepth 100000
set_option maxHeartbeats 4000000
/-! The walks of Program's str, len, eq. -/
namespace K8
open PySem PyProof.Rows L2
section
variable {P : Program} {w : World} {K : PySem.W.Frag} {mg : Str → Option Value} {base : Heap} {f : Addr} {fd : FuncData} {CP : Addr}
abbrev sPstr : Stmt := cls 27 3
abbrev sPlen : Stmt := cls 27 4
abbrev sPeq : Stmt := cls 27 5
theorem scPstr : FnScope ["self"] ["self"] (defScope sPstr) := ⟨rfl, rfl, rfl, by decide +kernel, rfl, by decide +kernel, by decide +kernel⟩
theorem scPlen : FnScope ["self"] ["self"] (defScope sPlen) := ⟨rfl, rfl, rfl, by decide +kernel, rfl, by decide +kernel, by decide +kernel⟩
theorem scPeq : FnScope ["self", "other"] ["self", "other"] (defScope sPeq) := ⟨rfl, rfl, rfl, by decide +kernel, rfl, by decide +kernel, by decide +kernel⟩
def spPstr (CP : Addr) : Sp := fun vs H Q _ => ∃ (p dx : Addr) (t : Str) (fs : List (Str × V)), vs = [.ref p] ∧ H p = some (.ins CP dx fs) ∧ fs.lookup ("text" : Str) = some (V.str t) ∧ Q (.str t) H
theorem ok_pstr (O : OwnC K CP fProg) (F : Fun K "__str__" "Program.__str__" sPstr f fd) (m_str : mg "str" = none) : FnOk P w K mg base CX0 1 f fd ["self"] (spPstr CP) := by
  refine F.ok scPstr (fun vs H Q E h => ?_) (fun cdv A outer s H vs Q E hr h => ?_)
  · obtain ⟨_, _, _, _, rfl, _⟩ := h
    rfl
  obtain ⟨p, dx, t, fs, rfl, hp, hl, q⟩ := h
  have nd := scPstr.nd
  refine ⟨_, (pss_one (ps_ret (pe_callTy SkE.call_str_str (by rfl) m_str (by decide +kernel) (pa_cons (pe_fld (pv 0) rfl) pa_nil)))), ?_⟩
  exact ⟨_, rfl, p, CP, dx, fs, _, rfl, hp, O.cl, O.na _ (by decide), hl, t, rfl, q⟩
def spPlen (CP : Addr) : Sp := fun vs H Q _ => ∃ (p dx : Addr) (rs : List Row) (fs : List (Str × V)), vs = [.ref p] ∧ H p = some (.ins CP dx fs) ∧ fs.lookup ("text" : Str) = some (V.str (rowsText rs)) ∧ rs ≠ [] ∧ rs.length ≤ 100 ∧ (∀ r ∈ rs, r.Ok) ∧ ∀ H', Same H H' → Q (.int rs.length) H'
theorem ok_plen (O : OwnC K CP fProg) (F : Fun K "__len__" "Program.__len__" sPlen f fd) (m_len : mg "len" = none) : FnOk P w K mg base CX0 1 f fd ["self"] (spPlen CP) := by
  refine F.ok scPlen (fun vs H Q E h => ?_) (fun cdv A outer s H vs Q E hr h => ?_)
  · obtain ⟨_, _, _, _, rfl, _⟩ := h
    rfl
  obtain ⟨p, dx, rs, fs, rfl, hp, hl, hne, h100, hok, q⟩ := h
  have nd := scPlen.nd
  refine ⟨_, (pss_one (ps_ret (pe_callB call_len_seq (by rfl) m_len (by decide +kernel) (pa_cons (pe_split (pe_fld (pv 0) rfl) pe_str) pa_nil)))), ?_⟩
  have hs : Txt.split (rowsText rs) "\n" = rs.map Row.text := split_rows hne hok
  refine ⟨_, rfl, p, CP, dx, fs, _, rfl, hp, O.cl, O.na _ (by decide), hl, ⟨_, rfl⟩, rowsText rs, "\n", rfl, rfl, by decide +kernel, ?_, fun l nl => ?_⟩
  · have : (rowsText rs).length ≤ rs.length * 37 := rows_len hok
    rw [sizeLine_eq]
    omega
  rw [hs]
  refine ⟨l, _, rfl, .inl (SqL.of upd_same), ?_⟩
  rw [List.length_map, List.length_map]
  exact q _ (same_ext nl)
def spPeq (CP : Addr) : Sp := fun vs H Q _ => ∃ (p o dx dy : Addr) (t u : Str) (fs gs : List (Str × V)), vs = [.ref p, .ref o] ∧ H p = some (.ins CP dx fs) ∧ H o = some (.ins CP dy gs) ∧ fs.lookup ("text" : Str) = some (V.str t) ∧ gs.lookup ("text" : Str) = some (V.str u) ∧ Q (.bl (decide (t = u))) H
theorem ok_peq (O : OwnC K CP fProg) (F : Fun K "__eq__" "Program.__eq__" sPeq f fd) (iP : C8.InsC K CP) (m_isinstance : mg "isinstance" = none) (g_Program : ∃ u, mg "Program" = some u ∧ RelV (.ref CP) u) : FnOk P w K mg base CX0 1 f fd ["self", "other"] (spPeq CP) := by
  refine F.ok scPeq (fun vs H Q E h => ?_) (fun cdv A outer s H vs Q E hr h => ?_)
  · obtain ⟨_, _, _, _, _, _, _, _, rfl, _⟩ := h
    rfl
  obtain ⟨p, o, dx, dy, t, u, fs, gs, rfl, hp, ho, hl, hl2, q⟩ := h
  have nd := scPeq.nd
  refine ⟨_, (pss_one (ps_ret (pe_and (pe_callB (C8.call_isC iP) (by rfl) m_isinstance (by decide +kernel) (pa_cons (pv 1) (pa_cons (C8.pe_gc rfl g_Program) pa_nil))) (pe_one (pe_cmpR op_eq (pe_fld (pv 0) rfl) (pe_fld (pv 1) rfl) (nomark _)))))), ?_⟩
  refine ⟨_, rfl, o, dy, gs, rfl, ho, _, rfl, iteT ⟨_, rfl, p, CP, dx, fs, _, rfl, hp, O.cl, O.na _ (by decide), hl, _, rfl, o, CP, dy, gs, _, rfl, ho, O.cl, O.na _ (by decide), hl2, rfl, ?_⟩⟩
  have e : decide (V.str t = V.str u) = decide (t = u) := by
    by_cases h : t = u
    · subst h; simp
    · rw [decide_eq_false h, decide_eq_false fun z => h (V.str.inj z)]
  rw [e]
  exact q
end
end K8
set_option Elab.async false
set_option linter.all false
set_option maxRecDepth 100000
set_option maxHeartbeats 4000000
/-! The law's own reader: _law_is_name, _law_is_bad. -/
namespace K8
open PySem PyProof.Rows L2
theorem ifF {c : Bool} {A B : Prop} (h : c = false) (b : B) : if c = true then A else B := by
  rw [h]; exact iteF b
theorem ifT {c : Bool} {A B : Prop} (h : c = true) (a : A) : if c = true then A else B := by
  rw [h]; exact iteT a
def BK.ent : BK → List Str
  | .defn w n => [dword w, n]
  | .inn (.rep d) => ["repeat", d]
  | .inn .guard => ["guard"]
  | .inn .late => ["late"]
  | .inn .mend => ["mend"]
  | .inn (.each w how) => ["each", w, how.word]
/-- the law's stack and tables -/
structure LSt (H : Hp) (s : S) (sl tl wl jl bg : Addr) (as : List Addr) : Prop where
  e_sl : H sl = some (.lst (as.map V.ref))
  len : as.length = (bks s).length
  ent : ∀ (j : Nat) (k : BK) (a : Addr), (bks s)[j]? = some k → as[j]? = some a → H a = some (.tup (k.ent.map V.str))
  e_tl : H tl = some (.dK [(.inr "walk", .ref wl), (.inr "job", .ref jl)])
  e_wl : H wl = some (lstS s.walks)
  e_jl : H jl = some (lstS s.jobs)
  e_bg : H bg = some (lstS s.begun)
  ok : ∀ k ∈ bks s, ∀ t ∈ k.ent, PyData.strOk t = true
theorem LSt.same {H H' : Hp} {s : S} {sl tl wl jl bg : Addr} {as : List Addr} (h : LSt H s sl tl wl jl bg as) (q : Same H H') : LSt H' s sl tl wl jl bg as :=
  ⟨q _ _ h.e_sl, h.len, fun j k a e1 e2 => q _ _ (h.ent j k a e1 e2), q _ _ h.e_tl, q _ _ h.e_wl, q _ _ h.e_jl, q _ _ h.e_bg, h.ok⟩
theorem LSt.last {H : Hp} {s : S} {sl tl wl jl bg : Addr} {as : List Addr} (h : LSt H s sl tl wl jl bg as) {ks : List BK} {k : BK} (e : bks s = ks ++ [k]) : ∃ as' a, as = as' ++ [a] ∧ as'.length = ks.length ∧ H a = some (.tup (k.ent.map V.str)) := by
  have hl := h.len
  rw [e, List.length_append] at hl
  obtain ⟨as', a, rfl⟩ := snoc_ex (l := as) (fun z => by rw [z] at hl; cases hl)
  rw [List.length_append] at hl
  have hl' : as'.length = ks.length := Nat.succ.inj hl
  exact ⟨as', a, rfl, hl', h.ent ks.length k a (by rw [e]; simp) (by rw [← hl']; simp)⟩
def BK.hd : BK → Str
  | .defn w _ => dword w
  | .inn (.rep _) => "repeat"
  | .inn .guard => "guard"
  | .inn .late => "late"
  | .inn .mend => "mend"
  | .inn (.each _ _) => "each"
theorem ent_at (k : BK) : atI (k.ent.map V.str) (0 : Int) = some (.str k.hd) := by
  refine atI_nat (j := 0) ?_
  cases k with
  | defn w n => rfl
  | inn b => cases b <;> rfl
theorem at_last (as : List Addr) (a : Addr) : atI ((as ++ [a]).map V.ref) ((((as ++ [a]).map V.ref).length : Int) - 1) = some (.ref a) := by
  have e : (((as ++ [a]).map V.ref).length : Int) - 1 = (as.length : Nat) := by rw [List.length_map, List.length_append]; show ((as.length + 1 : Nat) : Int) - 1 = _; omega
  rw [e]
  refine atI_nat ?_
  simp
theorem q_of {Q : VK} {b : Bool} {H : Hp} (h : b = false) (q : Q (.bl false) H) : Q (.bl b) H := by rw [h]; exact q
theorem in_strs' {x : Str} {l : List Str} : (if false = true then !inV (.str x) (l.map V.str) else inV (.str x) (l.map V.str)) = decide (x ∈ l) := in_strs
theorem flat_strs' (l : List Str) : (l.map V.str).all flatV = true := by
  induction l with
  | nil => rfl
  | cons x xs ih => exact ih
theorem sgn_digs : sgn ("123456789" : Str) = digs := by decide +kernel
theorem not_digs {d : Str} (h : d ∈ digs) : (if true = true then !inV (.str d) (digs.map V.str) else inV (.str d) (digs.map V.str)) = false := by
  rw [in_strs, decide_eq_true h]; rfl
theorem units65 {k : Nat} {A : Around} (hr : Room k A) : A.units + 65 < cLine := by have := hr.un; omega
def entD (k : BK) : PyData := .tuple (k.ent.map PyData.str)
theorem dpS {K : PySem.W.Frag} {H : Hp} : ∀ l : List Str, DpAll K H (l.map V.str) (l.map PyData.str)
  | [] => .nil
  | x :: l => .cons (.str x) (dpS l)
theorem LSt.dp {K : PySem.W.Frag} {H : Hp} {s : S} {sl tl wl jl bg : Addr} {as : List Addr} (h : LSt H s sl tl wl jl bg as) : Dp K H (.ref sl) (.list ((bks s).map entD)) := by
  refine .lst (SqL.of h.e_sl) ?_
  have go : ∀ (as : List Addr) (ks : List BK), as.length = ks.length → (∀ (j : Nat) (k : BK) (a : Addr), ks[j]? = some k → as[j]? = some a → H a = some (.tup (k.ent.map V.str))) → DpAll K H (as.map V.ref) (ks.map entD) := by
    intro as
    induction as with
    | nil => intro ks hl _; cases ks with | nil => exact .nil | cons _ _ => cases hl
    | cons a as ih =>
      intro ks hl he
      cases ks with
      | nil => cases hl
      | cons k ks => exact .cons (.tup (SqT.of (he 0 k a rfl rfl)) (dpS _)) (ih ks (Nat.succ.inj hl) fun j k' a' h1 h2 => he (j + 1) k' a' h1 h2)
  exact go as (bks s) h.len h.ent
theorem lay_strs : ∀ l : List Str, (∀ t ∈ l, PyData.strOk t = true) → PyData.canLayAll0 (l.map PyData.str) = true ∧ PyData.depthAll (l.map PyData.str) ≤ 1
  | [], _ => ⟨rfl, Nat.zero_le _⟩
  | x :: l, h => by
    obtain ⟨h1, h2⟩ := lay_strs l fun t ht => h t (List.mem_cons_of_mem _ ht)
    refine ⟨?_, ?_⟩
    · simp only [List.map_cons, PyData.canLayAll0, PyData.canLay0, h x List.mem_cons_self, h1, Bool.and_self]
    · simp only [List.map_cons, PyData.depthAll, PyData.depth]
      omega
theorem lay_ents : ∀ ks : List BK, (∀ k ∈ ks, ∀ t ∈ k.ent, PyData.strOk t = true) → PyData.canLayAll0 (ks.map entD) = true ∧ PyData.depthAll (ks.map entD) ≤ 3
  | [], _ => ⟨rfl, Nat.zero_le _⟩
  | k :: ks, h => by
    obtain ⟨h1, h2⟩ := lay_ents ks fun t ht => h t (List.mem_cons_of_mem _ ht)
    obtain ⟨h3, h4⟩ := lay_strs k.ent (h k List.mem_cons_self)
    refine ⟨?_, ?_⟩
    · simp only [List.map_cons, PyData.canLayAll0, entD, PyData.canLay0, h3, h1, Bool.and_self]
    · simp only [List.map_cons, PyData.depthAll, entD, PyData.depth]
      omega
theorem shapedT {l : List Str} (h : ∀ t ∈ l, PyData.strOk t = true) : SeqAt.shaped (.tuple (l.map PyData.str)) = true := by
  obtain ⟨h1, h2⟩ := lay_strs l h
  unfold SeqAt.shaped
  rw [Bool.and_eq_true]
  refine ⟨by simp only [PyData.canLay0, h1], decide_eq_true ?_⟩
  simp only [PyData.depth]
  omega
theorem LSt.shaped {H : Hp} {s : S} {sl tl wl jl bg : Addr} {as : List Addr} (h : LSt H s sl tl wl jl bg as) : SeqAt.shaped (.list ((bks s).map entD)) = true := by
  obtain ⟨h1, h2⟩ := lay_ents (bks s) h.ok
  unfold SeqAt.shaped
  rw [Bool.and_eq_true]
  refine ⟨by simp only [PyData.canLay0, h1], decide_eq_true ?_⟩
  simp only [PyData.depth]
  omega
theorem not_ent {s : S} {l : List Str} (h : ∀ k ∈ bks s, k.ent ≠ l) : (((bks s).map entD).any fun z => PyData.eqv z (.tuple (l.map PyData.str))) = false := by
  rw [List.any_eq_false]
  intro z hz
  obtain ⟨k, hk, rfl⟩ := List.mem_map.mp hz
  have key : ∀ a b : List Str, PyData.eqvAll (a.map PyData.str) (b.map PyData.str) = decide (a = b) := by
    intro a
    induction a with
    | nil => intro b; cases b <;> rfl
    | cons x a ih =>
      intro b
      cases b with
      | nil => rfl
      | cons y b =>
        show ((x == y) && PyData.eqvAll (a.map PyData.str) (b.map PyData.str)) = _
        rw [ih b]
        by_cases e1 : x = y <;> by_cases e2 : a = b <;> simp [e1, e2]
  have e : PyData.eqv (entD k) (.tuple (l.map PyData.str)) = decide (k.ent = l) := key k.ent l
  rw [e, decide_eq_false (h k hk)]
  decide
theorem LSt.first {H : Hp} {s : S} {sl tl wl jl bg : Addr} {as : List Addr} (h : LSt H s sl tl wl jl bg as) {ks : List BK} {k : BK} (e : bks s = k :: ks) : ∃ a, (as.map V.ref)[0]? = some (.ref a) ∧ H a = some (.tup (k.ent.map V.str)) := by
  have hl := h.len
  rw [e] at hl
  cases as with
  | nil => cases hl
  | cons a as' => exact ⟨a, rfl, h.ent 0 k a (by rw [e]; rfl) rfl⟩
theorem in_not {x : Str} {l : List Str} (h : x ∈ l) : (if true = true then !inV (.str x) (l.map V.str) else inV (.str x) (l.map V.str)) = false := by
  rw [in_strs, decide_eq_true h]; rfl
section
variable {P : Program} {w : World} {K : PySem.W.Frag} {mg : Str → Option Value} {base : Heap} {f : Addr} {fd : FuncData}
abbrev sLname : Stmt := top 39
abbrev sLbad : Stmt := top 40
theorem scLname : FnScope ["_law_word", "_law_language", "_law_sign"] ["_law_word"] (defScope sLname) := ⟨rfl, rfl, rfl, by decide +kernel, rfl, by decide +kernel, by decide +kernel⟩
theorem scLbad : FnScope ["_law_stack", "_law_told", "_law_parts", "_law_word", "_law_many", "_law_top"] ["_law_stack", "_law_told", "_law_parts"] (defScope sLbad) := ⟨rfl, rfl, rfl, by decide +kernel, rfl, by decide +kernel, by decide +kernel⟩
theorem ok_lname (F : Fun K "_law_is_name" "_law_is_name" sLname f fd) (m_len : mg "len" = none) : FnOk P w K mg base CX0 1 f fd ["_law_word"] spName := by
  refine F.ok scLname (fun vs H Q E h => ?_) (fun cdv A outer s H vs Q E hr h => ?_)
  · obtain ⟨_, rfl, _⟩ := h
    rfl
  obtain ⟨x, rfl, nm, q⟩ := h
  have nd := scLname.nd
  refine ⟨_, (pss_cons (ps_set (i := 1) nd rfl (.inl rfl) pe_str)
    (pss_cons (ps_if (PW.pt (pw_or (pt_not (pt_chain op_lt op_lt pe_int (pe_callB call_len_str (by rfl) m_len (by decide +kernel) (pa_cons (pv 0) pa_nil)) pe_int)) (pw_or1 (pt_cmpR op_in_seq (pv 0) (pe_split (pv 1) pe_str) (by rfl))))) (pss_one (ps_ret pe_bl)) pss_nil)
    (pss_one (ps_ret (pe_cmpR (op_eqE hr.units0) (pe_lc  (own := [("_law_sign", 2)]) (g := gName 2) rfl nd (pi_str (pv 0)) (blkOk_by (own := [("_law_sign", 2)]) (N := ["_law_word", "_law_language", "_law_sign"]) (sc := defScope (top 39)) (by decide +kernel)) (fun _ _ _ _ _ => (pg_name (i := 2) nd rfl (.inl rfl))) (fun _ _ _ _ _ => (pts_one (pt_cmpR op_notIn_sign (pv 2) pe_str (by rfl)))) (fun _ _ _ _ _ => (pv 2))) (pe_lst pa_nil) (nomark _)))))), ?_⟩
  have hsp : Txt.split ("say pause wait open begin fail give repeat guard late mend end each job walk closed dropped kept" : Str) " " = lang := by decide +kernel
  have hpos := nm.pos
  have hle := nm.le
  refine ⟨_, rfl, x, rfl, Nat.le_of_lt (small1000 (n := x.length) (by omega)), 0, (x.length : Int), rfl, rfl, _, rfl, ?_⟩
  refine ifT (decide_eq_true (by omega)) ⟨(x.length : Int), 9, rfl, rfl, _, rfl, ?_⟩
  rw [decide_eq_true (show (x.length : Int) < 9 by omega)]
  refine iteF ⟨_, rfl, _, rfl, ⟨_, rfl⟩, _, " ", rfl, rfl, by decide +kernel, by decide +kernel, fun p np => ?_⟩
  rw [hsp]
  refine ⟨p, _, rfl, .inl (SqL.of upd_same), rfl, flat_strs' _, _, rfl, ifF (by rw [in_strs']; exact decide_eq_false nm.out) ?_⟩
  unfold tNext tRet tOp
  dsimp only [List.map]
  refine lc_strG x (fun _ => false) (fun c => .str ⟨#[c]⟩) (by omega) (fun R hR => ⟨_, rfl, x, rfl, hR⟩) (fun D nD => ?_) (fun c H' Q' hc q' => ?_) (fun c H' Q' _ q' => ⟨_, rfl, q'⟩)
  · rw [show (x.cps.toList.filter fun _ => false) = [] by simp]
    refine ⟨by show 0 ≤ sizeLine; decide, fun p2 np2 => ⟨D, p2, _, rfl, rfl, SqL.of (kn upd_same np2), SqL.of upd_same, q _ (((same_ext np).trans (same_ext nD)).trans (same_ext np2))⟩⟩
  · refine ⟨_, rfl, c, lowers, rfl, rfl, _, rfl, ?_⟩
    rw [decide_eq_true (mem_small (nm.low c hc))]
    exact q'
def spLbad : Sp := fun vs H Q _ => ∃ (s s' : S) (sl tl wl jl bg p : Addr) (as : List Addr) (row : Row), vs = [.ref sl, .ref tl, .ref p] ∧ LSt H s sl tl wl jl bg as ∧ H p = some (lstS row.parts) ∧ Step s row s' ∧ as.length ≤ 300 ∧ ∀ H', Same H H' → Q (.bl false) H'
theorem ok_lbad (F : Fun K "_law_is_bad" "_law_is_bad" sLbad f fd) (c_is_name : C8.Cal P w K mg base 1 "_law_is_name" spName []) (m_len : mg "len" = none) (m_list : mg "list" = none) : FnOk P w K mg base CX0 2 f fd ["_law_stack", "_law_told", "_law_parts"] spLbad := by
  refine F.ok scLbad (fun vs H Q E h => ?_) (fun cdv A outer s H vs Q E hr h => ?_)
  · obtain ⟨_, _, _, _, _, _, _, _, _, _, rfl, _⟩ := h
    rfl
  obtain ⟨s, s', sl, tl, wl, jl, bg, p, as, row, rfl, L, hp, st, hn, q⟩ := h
  have nd := scLbad.nd
  have hu := hu_of hr
  refine ⟨_, (pss_cons (ps_par (i := 3) (j := 4) rfl nd rfl rfl (by decide) rfl rfl (pa_cons (pe_ix ix_list (pv 2) pe_int (fun _ _ => rfl)) (pa_cons (pe_callB call_len_seq (by rfl) m_len (by decide +kernel) (pa_cons (pv 2) pa_nil)) pa_nil)) (by rfl))
    (pss_cons (ps_set (i := 5) nd rfl (.inl rfl) (pe_ifExp (pt_cmpR (op_neE hr.units0) (pv 0) (pe_lst pa_nil) (nomark _)) (pe_ix ix_tup (pe_ix ix_list (pv 0) (pe_op op_sub (pe_callB call_len_seq (by rfl) m_len (by decide +kernel) (pa_cons (pv 0) pa_nil)) pe_int) (fun _ _ => rfl)) pe_int (fun _ _ => rfl)) pe_str))
    (pss_cons (ps_if (pt_cmpR op_in_seq (pv 3) (pe_tup (pa_cons pe_str (pa_cons pe_str pa_nil))) (by rfl)) (pss_one (ps_ret (pe_or (pe_cmpR (op_neE hr.units0) (pv 0) (pe_lst pa_nil) (nomark _)) (pe_or (pe_cmpR op_ne (pv 4) pe_int (nomark _)) (pe_or (pe_not (C8.pe_c c_is_name hr (by omega) rfl (pa_cons (pe_ix ix_list (pv 2) pe_int (fun _ _ => rfl)) pa_nil))) (pe_one (pe_cmpR op_in_seq (pe_ix ix_list (pv 2) pe_int (fun _ _ => rfl)) (pe_dget hu (pv 1) (pv 3) (fun _ _ => rfl)) (by rfl)))))))) pss_nil)
    (pss_cons (ps_if (PW.pt (pw_or (pt_cmpR (op_eqE hr.units0) (pv 0) (pe_lst pa_nil) (nomark _)) (pw_or1 (PW.pt (pw_and (pt_cmpR op_in_seq (pv 3) (pe_tup (pa_cons pe_str (pa_cons pe_str (pa_cons pe_str (pa_cons pe_str (pa_cons pe_str (pa_cons pe_str pa_nil))))))) (by rfl)) (pw_and1 (pt_cmpR op_ne (pv 4) pe_int (nomark _)))))))) (pss_one (ps_ret pe_bl)) pss_nil)
    (pss_cons (ps_if (pt_cmpR op_in_seq (pv 3) (pe_tup (pa_cons pe_str (pa_cons pe_str (pa_cons pe_str pa_nil)))) (by rfl)) (pss_one (ps_ret (pe_cmpR op_eq (pe_cmpR op_eq (pv 5) pe_str (nomark _)) (pe_cmpR op_eq (pv 3) pe_str (nomark _)) (nomark _)))) pss_nil)
    (pss_cons (ps_if (pt_cmpR op_in_seq (pv 3) (pe_tup (pa_cons pe_str (pa_cons pe_str pa_nil))) (by rfl)) (pss_one (ps_ret pe_bl)) pss_nil)
    (pss_cons (ps_if (pt_cmpR op_eq (pv 3) pe_str (nomark _)) (pss_one (ps_ret (pe_or (pe_cmpR op_ne (pe_ix ix_tup (pe_ix ix_list (pv 0) pe_int (fun _ _ => rfl)) pe_int (fun _ _ => rfl)) pe_str (nomark _)) (pe_one (pe_cmpR (op_inD (units65 hr)) (pe_tup (pa_cons pe_str pa_nil)) (pv 0) (by rfl)))))) pss_nil)
    (pss_cons (ps_if (pt_cmpR op_in_seq (pv 3) (pe_tup (pa_cons pe_str (pa_cons pe_str (pa_cons pe_str (pa_cons pe_str (pa_cons pe_str pa_nil)))))) (by rfl)) (pss_one (ps_ret (pe_or (pe_cmpR op_ne (pv 4) pe_int (nomark _)) (pe_one (pe_not (C8.pe_c c_is_name hr (by omega) rfl (pa_cons (pe_ix ix_list (pv 2) pe_int (fun _ _ => rfl)) pa_nil))))))) pss_nil)
    (pss_cons (ps_if (pt_cmpR op_eq (pv 3) pe_str (nomark _)) (pss_one (ps_ret (pe_or (pe_cmpR op_ne (pv 4) pe_int (nomark _)) (pe_one (pe_cmpR op_notIn_seq (pe_ix ix_list (pv 2) pe_int (fun _ _ => rfl)) (pe_callTy (call_list_str' rfl) (by rfl) m_list (by decide +kernel) (pa_cons pe_str pa_nil)) (by rfl)))))) pss_nil)
    (pss_cons (ps_if (PW.pt (pw_or (pt_cmpR op_ne (pv 3) pe_str (nomark _)) (pw_or (pt_cmpR op_notIn_seq (pv 4) (pe_tup (pa_cons pe_int (pa_cons pe_int pa_nil))) (by rfl)) (pw_or (pt_cmpR op_notIn_seq (pe_ix ix_list (pv 2) pe_int (fun _ _ => rfl)) (pe_dget hu (pv 1) pe_str (fun _ _ => rfl)) (by rfl)) (pw_or1 (pt_cmpR op_eq (pe_ix ix_list (pv 2) (pe_op op_sub (pv 4) pe_int) (fun _ _ => rfl)) pe_str (nomark _))))))) (pss_one (ps_ret pe_bl)) pss_nil)
    (pss_cons (ps_if (PW.pt (pw_or (pt_cmpR op_notIn_seq (pe_ix ix_list (pv 2) pe_int (fun _ _ => rfl)) (pe_tup (pa_cons pe_str (pa_cons pe_str (pa_cons pe_str pa_nil)))) (by rfl)) (pw_or1 (PW.pt (pw_and (pt_cmpR op_eq (pv 4) pe_int (nomark _)) (pw_and1 (pt_cmpR op_notIn_seq (pe_ix ix_list (pv 2) pe_int (fun _ _ => rfl)) (pe_callTy (call_list_str' rfl) (by rfl) m_list (by decide +kernel) (pa_cons pe_str pa_nil)) (by rfl)))))))) (pss_one (ps_ret pe_bl)) pss_nil)
    (pss_one (ps_ret (pe_and (pe_cmpR op_eq (pe_ix ix_list (pv 2) pe_int (fun _ _ => rfl)) pe_str (nomark _)) (pe_one (pe_or (pe_cmpR op_ne (pe_ix ix_tup (pe_ix ix_list (pv 0) pe_int (fun _ _ => rfl)) pe_int (fun _ _ => rfl)) pe_str (nomark _)) (pe_one (pe_cmpR (op_inD (units65 hr)) (pe_tup (pa_cons pe_str (pa_cons (pe_ix ix_list (pv 2) pe_int (fun _ _ => rfl)) (pa_cons pe_str pa_nil)))) (pv 0) (by rfl))))))))))))))))))), ?_⟩
  cases st with
  | @defn wk x hc hi nm hx =>
    have ea : as = [] := List.eq_nil_of_length_eq_zero (by rw [L.len, bks_none hc]; rfl)
    subst ea
    refine ⟨_, rfl, p, _, 0, _, rfl, rfl, SqL.of hp, atI_nat (j := 0) rfl, _, rfl, p, _, rfl, .inl (SqL.of hp), _, _, rfl, ?_⟩
    refine ⟨_, rfl, by show 0 ≤ sizeLine; decide, fun p2 np2 => ⟨sl, p2, _, rfl, rfl, SqL.of (kn L.e_sl np2), SqL.of upd_same, _, rfl, ?_⟩⟩
    replace L := L.same (same_ext (o := .lst []) np2)
    replace hp := kn (u := .lst []) hp np2
    have s0 : Same H (upd H p2 (.lst [])) := same_ext np2
    revert L hp s0
    generalize upd H p2 (.lst []) = G1
    intro L hp s0
    refine ifF rfl ?_
    refine ⟨_, rfl, by show 2 ≤ sizeLine; decide, fun tp ntp => ⟨tp, _, rfl, .inr (SqT.of upd_same), rfl, rfl, _, rfl, ?_⟩⟩
    replace L := L.same (same_ext (o := .tup [.str "walk", .str "job"]) ntp)
    replace hp := kn (u := .tup [.str "walk", .str "job"]) hp ntp
    replace s0 := s0.trans (same_ext (o := .tup [.str "walk", .str "job"]) ntp)
    revert L hp s0
    generalize upd G1 tp (.tup [.str "walk", .str "job"]) = G2
    intro L hp s0
    refine ifT (by cases wk <;> decide +kernel) ?_
    refine ⟨_, rfl, by show 0 ≤ sizeLine; decide, fun p3 np3 => ⟨sl, p3, _, rfl, rfl, SqL.of (kn L.e_sl np3), SqL.of upd_same, _, rfl, ifF rfl ?_⟩⟩
    replace L := L.same (same_ext (o := .lst []) np3)
    replace hp := kn (u := .lst []) hp np3
    replace s0 := s0.trans (same_ext (o := .lst []) np3)
    refine ⟨_, rfl, rfl, _, rfl, ifF rfl ?_⟩
    refine ⟨_, rfl, p, _, 1, _, rfl, rfl, SqL.of hp, atI_nat (j := 1) rfl, x, rfl, nm, fun H4 s4 => ⟨_, rfl, _, rfl, ifF rfl ?_⟩⟩
    cases wk with
    | true =>
      refine ⟨_, rfl, p, _, 1, _, rfl, rfl, SqL.of (s4 _ _ hp), atI_nat (j := 1) rfl, _, rfl, _, rfl, tl, .ref wl, rfl, dg (s4 _ _ L.e_tl) rfl, wl, _, rfl, .inl (SqL.of (s4 _ _ L.e_wl)), rfl, flat_strs' _, ?_⟩
      exact q_of (by rw [in_strs']; exact decide_eq_false hx) (q _ (s0.trans s4))
    | false =>
      refine ⟨_, rfl, p, _, 1, _, rfl, rfl, SqL.of (s4 _ _ hp), atI_nat (j := 1) rfl, _, rfl, _, rfl, tl, .ref jl, rfl, dg (s4 _ _ L.e_tl) rfl, jl, _, rfl, .inl (SqL.of (s4 _ _ L.e_jl)), rfl, flat_strs' _, ?_⟩
      exact q_of (by rw [in_strs']; exact decide_eq_false hx) (q _ (s0.trans s4))
  | @fin0 w x hc hi =>
    have ek : bks s = [] ++ [.defn w x] := by rw [bks_some hc, hi]; rfl
    obtain ⟨as', a, rfl, hl, ha⟩ := L.last ek
    refine ⟨_, rfl, p, _, 0, _, rfl, rfl, SqL.of hp, atI_nat (j := 0) rfl, _, rfl, p, _, rfl, .inl (SqL.of hp), _, _, rfl, ?_⟩
    refine ⟨_, rfl, by show 0 ≤ sizeLine; decide, fun p2 np2 => ⟨sl, p2, _, rfl, rfl, SqL.of (kn L.e_sl np2), SqL.of upd_same, _, rfl, ?_⟩⟩
    replace L := L.same (same_ext (o := .lst []) np2)
    replace hp := kn (u := .lst []) hp np2
    have s0 : Same H (upd H p2 (.lst [])) := same_ext np2
    revert L hp s0
    generalize upd H p2 (.lst []) = G1
    intro L hp s0
    refine ifT (by simp) ⟨_, rfl, _, rfl, sl, _, rfl, .inl (SqL.of L.e_sl), _, _, rfl, rfl, sl, _, _, _, rfl, rfl, SqL.of L.e_sl, at_last as' a, a, _, 0, _, rfl, rfl, SqT.of (s0 _ _ ha), ent_at _, ?_⟩
    refine ⟨_, rfl, by show 2 ≤ sizeLine; decide, fun tp ntp => ⟨tp, _, rfl, .inr (SqT.of upd_same), rfl, rfl, _, rfl, ?_⟩⟩
    replace L := L.same (same_ext (o := .tup [.str "walk", .str "job"]) ntp)
    replace hp := kn (u := .tup [.str "walk", .str "job"]) hp ntp
    replace s0 := s0.trans (same_ext (o := .tup [.str "walk", .str "job"]) ntp)
    revert L hp s0
    generalize upd G1 tp (.tup [.str "walk", .str "job"]) = G2
    intro L hp s0
    refine ifF (by decide +kernel) ?_
    refine ⟨_, rfl, by show 0 ≤ sizeLine; decide, fun p3 np3 => ⟨sl, p3, _, rfl, rfl, SqL.of (kn L.e_sl np3), SqL.of upd_same, _, rfl, ifF (by simp) ?_⟩⟩
    replace L := L.same (same_ext (o := .lst []) np3)
    replace hp := kn (u := .lst []) hp np3
    replace s0 := s0.trans (same_ext (o := .lst []) np3)
    revert L hp s0
    generalize upd G2 p3 (.lst []) = G3
    intro L hp s0
    refine ⟨_, rfl, by show 6 ≤ sizeLine; decide, fun tp ntp => ⟨tp, _, rfl, .inr (SqT.of upd_same), rfl, rfl, _, rfl, ?_⟩⟩
    replace L := L.same (same_ext (o := .tup [.str "end", .str "late", .str "mend", .str "pause", .str "guard", .str "give"]) ntp)
    replace hp := kn (u := .tup [.str "end", .str "late", .str "mend", .str "pause", .str "guard", .str "give"]) hp ntp
    replace s0 := s0.trans (same_ext (o := .tup [.str "end", .str "late", .str "mend", .str "pause", .str "guard", .str "give"]) ntp)
    revert L hp s0
    generalize upd G3 tp (.tup [.str "end", .str "late", .str "mend", .str "pause", .str "guard", .str "give"]) = G4
    intro L hp s0
    refine ifT (by decide +kernel) ⟨_, rfl, rfl, _, rfl, ifF rfl ?_⟩
    refine ⟨_, rfl, by show 3 ≤ sizeLine; decide, fun tp ntp => ⟨tp, _, rfl, .inr (SqT.of upd_same), rfl, rfl, _, rfl, ?_⟩⟩
    replace L := L.same (same_ext (o := .tup [.str "end", .str "late", .str "mend"]) ntp)
    replace hp := kn (u := .tup [.str "end", .str "late", .str "mend"]) hp ntp
    replace s0 := s0.trans (same_ext (o := .tup [.str "end", .str "late", .str "mend"]) ntp)
    revert L hp s0
    generalize upd G4 tp (.tup [.str "end", .str "late", .str "mend"]) = G5
    intro L hp s0
    refine ifT (by decide +kernel) ⟨_, rfl, rfl, _, rfl, rfl, rfl, q_of ?_ (q _ s0)⟩
    cases w <;> rfl
  | @fin1 k rest hc hi hk =>
    have ek := bks_inner hc hi
    obtain ⟨as', a, rfl, hl, ha⟩ := L.last ek
    refine ⟨_, rfl, p, _, 0, _, rfl, rfl, SqL.of hp, atI_nat (j := 0) rfl, _, rfl, p, _, rfl, .inl (SqL.of hp), _, _, rfl, ?_⟩
    refine ⟨_, rfl, by show 0 ≤ sizeLine; decide, fun p2 np2 => ⟨sl, p2, _, rfl, rfl, SqL.of (kn L.e_sl np2), SqL.of upd_same, _, rfl, ?_⟩⟩
    replace L := L.same (same_ext (o := .lst []) np2)
    replace hp := kn (u := .lst []) hp np2
    have s0 : Same H (upd H p2 (.lst [])) := same_ext np2
    revert L hp s0
    generalize upd H p2 (.lst []) = G1
    intro L hp s0
    refine ifT (by simp) ⟨_, rfl, _, rfl, sl, _, rfl, .inl (SqL.of L.e_sl), _, _, rfl, rfl, sl, _, _, _, rfl, rfl, SqL.of L.e_sl, at_last as' a, a, _, 0, _, rfl, rfl, SqT.of (s0 _ _ ha), ent_at _, ?_⟩
    refine ⟨_, rfl, by show 2 ≤ sizeLine; decide, fun tp ntp => ⟨tp, _, rfl, .inr (SqT.of upd_same), rfl, rfl, _, rfl, ?_⟩⟩
    replace L := L.same (same_ext (o := .tup [.str "walk", .str "job"]) ntp)
    replace hp := kn (u := .tup [.str "walk", .str "job"]) hp ntp
    replace s0 := s0.trans (same_ext (o := .tup [.str "walk", .str "job"]) ntp)
    revert L hp s0
    generalize upd G1 tp (.tup [.str "walk", .str "job"]) = G2
    intro L hp s0
    refine ifF (by decide +kernel) ?_
    refine ⟨_, rfl, by show 0 ≤ sizeLine; decide, fun p3 np3 => ⟨sl, p3, _, rfl, rfl, SqL.of (kn L.e_sl np3), SqL.of upd_same, _, rfl, ifF (by simp) ?_⟩⟩
    replace L := L.same (same_ext (o := .lst []) np3)
    replace hp := kn (u := .lst []) hp np3
    replace s0 := s0.trans (same_ext (o := .lst []) np3)
    revert L hp s0
    generalize upd G2 p3 (.lst []) = G3
    intro L hp s0
    refine ⟨_, rfl, by show 6 ≤ sizeLine; decide, fun tp ntp => ⟨tp, _, rfl, .inr (SqT.of upd_same), rfl, rfl, _, rfl, ?_⟩⟩
    replace L := L.same (same_ext (o := .tup [.str "end", .str "late", .str "mend", .str "pause", .str "guard", .str "give"]) ntp)
    replace hp := kn (u := .tup [.str "end", .str "late", .str "mend", .str "pause", .str "guard", .str "give"]) hp ntp
    replace s0 := s0.trans (same_ext (o := .tup [.str "end", .str "late", .str "mend", .str "pause", .str "guard", .str "give"]) ntp)
    revert L hp s0
    generalize upd G3 tp (.tup [.str "end", .str "late", .str "mend", .str "pause", .str "guard", .str "give"]) = G4
    intro L hp s0
    refine ifT (by decide +kernel) ⟨_, rfl, rfl, _, rfl, ifF rfl ?_⟩
    refine ⟨_, rfl, by show 3 ≤ sizeLine; decide, fun tp ntp => ⟨tp, _, rfl, .inr (SqT.of upd_same), rfl, rfl, _, rfl, ?_⟩⟩
    replace L := L.same (same_ext (o := .tup [.str "end", .str "late", .str "mend"]) ntp)
    replace hp := kn (u := .tup [.str "end", .str "late", .str "mend"]) hp ntp
    replace s0 := s0.trans (same_ext (o := .tup [.str "end", .str "late", .str "mend"]) ntp)
    revert L hp s0
    generalize upd G4 tp (.tup [.str "end", .str "late", .str "mend"]) = G5
    intro L hp s0
    refine ifT (by decide +kernel) ⟨_, rfl, rfl, _, rfl, rfl, rfl, q_of ?_ (q _ s0)⟩
    cases k <;> first | rfl | exact absurd rfl hk
  | @turn l rest hc hi =>
    have ek := bks_inner hc hi
    obtain ⟨as', a, rfl, hl, ha⟩ := L.last ek
    refine ⟨_, rfl, p, _, 0, _, rfl, rfl, SqL.of hp, atI_nat (j := 0) rfl, _, rfl, p, _, rfl, .inl (SqL.of hp), _, _, rfl, ?_⟩
    refine ⟨_, rfl, by show 0 ≤ sizeLine; decide, fun p2 np2 => ⟨sl, p2, _, rfl, rfl, SqL.of (kn L.e_sl np2), SqL.of upd_same, _, rfl, ?_⟩⟩
    replace L := L.same (same_ext (o := .lst []) np2)
    replace hp := kn (u := .lst []) hp np2
    have s0 : Same H (upd H p2 (.lst [])) := same_ext np2
    revert L hp s0
    generalize upd H p2 (.lst []) = G1
    intro L hp s0
    refine ifT (by simp) ⟨_, rfl, _, rfl, sl, _, rfl, .inl (SqL.of L.e_sl), _, _, rfl, rfl, sl, _, _, _, rfl, rfl, SqL.of L.e_sl, at_last as' a, a, _, 0, _, rfl, rfl, SqT.of (s0 _ _ ha), ent_at _, ?_⟩
    refine ⟨_, rfl, by show 2 ≤ sizeLine; decide, fun tp ntp => ⟨tp, _, rfl, .inr (SqT.of upd_same), rfl, rfl, _, rfl, ?_⟩⟩
    replace L := L.same (same_ext (o := .tup [.str "walk", .str "job"]) ntp)
    replace hp := kn (u := .tup [.str "walk", .str "job"]) hp ntp
    replace s0 := s0.trans (same_ext (o := .tup [.str "walk", .str "job"]) ntp)
    revert L hp s0
    generalize upd G1 tp (.tup [.str "walk", .str "job"]) = G2
    intro L hp s0
    refine ifF (by cases l <;> decide +kernel) ?_
    refine ⟨_, rfl, by show 0 ≤ sizeLine; decide, fun p3 np3 => ⟨sl, p3, _, rfl, rfl, SqL.of (kn L.e_sl np3), SqL.of upd_same, _, rfl, ifF (by simp) ?_⟩⟩
    replace L := L.same (same_ext (o := .lst []) np3)
    replace hp := kn (u := .lst []) hp np3
    replace s0 := s0.trans (same_ext (o := .lst []) np3)
    revert L hp s0
    generalize upd G2 p3 (.lst []) = G3
    intro L hp s0
    refine ⟨_, rfl, by show 6 ≤ sizeLine; decide, fun tp ntp => ⟨tp, _, rfl, .inr (SqT.of upd_same), rfl, rfl, _, rfl, ?_⟩⟩
    replace L := L.same (same_ext (o := .tup [.str "end", .str "late", .str "mend", .str "pause", .str "guard", .str "give"]) ntp)
    replace hp := kn (u := .tup [.str "end", .str "late", .str "mend", .str "pause", .str "guard", .str "give"]) hp ntp
    replace s0 := s0.trans (same_ext (o := .tup [.str "end", .str "late", .str "mend", .str "pause", .str "guard", .str "give"]) ntp)
    revert L hp s0
    generalize upd G3 tp (.tup [.str "end", .str "late", .str "mend", .str "pause", .str "guard", .str "give"]) = G4
    intro L hp s0
    refine ifT (by cases l <;> decide +kernel) ⟨_, rfl, rfl, _, rfl, ifF rfl ?_⟩
    refine ⟨_, rfl, by show 3 ≤ sizeLine; decide, fun tp ntp => ⟨tp, _, rfl, .inr (SqT.of upd_same), rfl, rfl, _, rfl, ?_⟩⟩
    replace L := L.same (same_ext (o := .tup [.str "end", .str "late", .str "mend"]) ntp)
    replace hp := kn (u := .tup [.str "end", .str "late", .str "mend"]) hp ntp
    replace s0 := s0.trans (same_ext (o := .tup [.str "end", .str "late", .str "mend"]) ntp)
    revert L hp s0
    generalize upd G4 tp (.tup [.str "end", .str "late", .str "mend"]) = G5
    intro L hp s0
    refine ifT (by cases l <;> decide +kernel) ⟨_, rfl, rfl, _, rfl, rfl, rfl, q_of ?_ (q _ s0)⟩
    cases l <;> rfl
  | pause hc =>
    obtain ⟨ks, k, ek⟩ := snoc_ex (l := bks s) (fun z => by have q1 := bks_len hc; rw [z] at q1; cases q1)
    obtain ⟨as', a, rfl, hl, ha⟩ := L.last ek
    refine ⟨_, rfl, p, _, 0, _, rfl, rfl, SqL.of hp, atI_nat (j := 0) rfl, _, rfl, p, _, rfl, .inl (SqL.of hp), _, _, rfl, ?_⟩
    refine ⟨_, rfl, by show 0 ≤ sizeLine; decide, fun p2 np2 => ⟨sl, p2, _, rfl, rfl, SqL.of (kn L.e_sl np2), SqL.of upd_same, _, rfl, ?_⟩⟩
    replace L := L.same (same_ext (o := .lst []) np2)
    replace hp := kn (u := .lst []) hp np2
    have s0 : Same H (upd H p2 (.lst [])) := same_ext np2
    revert L hp s0
    generalize upd H p2 (.lst []) = G1
    intro L hp s0
    refine ifT (by simp) ⟨_, rfl, _, rfl, sl, _, rfl, .inl (SqL.of L.e_sl), _, _, rfl, rfl, sl, _, _, _, rfl, rfl, SqL.of L.e_sl, at_last as' a, a, _, 0, _, rfl, rfl, SqT.of (s0 _ _ ha), ent_at _, ?_⟩
    refine ⟨_, rfl, by show 2 ≤ sizeLine; decide, fun tp ntp => ⟨tp, _, rfl, .inr (SqT.of upd_same), rfl, rfl, _, rfl, ?_⟩⟩
    replace L := L.same (same_ext (o := .tup [.str "walk", .str "job"]) ntp)
    replace hp := kn (u := .tup [.str "walk", .str "job"]) hp ntp
    replace s0 := s0.trans (same_ext (o := .tup [.str "walk", .str "job"]) ntp)
    revert L hp s0
    generalize upd G1 tp (.tup [.str "walk", .str "job"]) = G2
    intro L hp s0
    refine ifF (by decide +kernel) ?_
    refine ⟨_, rfl, by show 0 ≤ sizeLine; decide, fun p3 np3 => ⟨sl, p3, _, rfl, rfl, SqL.of (kn L.e_sl np3), SqL.of upd_same, _, rfl, ifF (by simp) ?_⟩⟩
    replace L := L.same (same_ext (o := .lst []) np3)
    replace hp := kn (u := .lst []) hp np3
    replace s0 := s0.trans (same_ext (o := .lst []) np3)
    revert L hp s0
    generalize upd G2 p3 (.lst []) = G3
    intro L hp s0
    refine ⟨_, rfl, by show 6 ≤ sizeLine; decide, fun tp ntp => ⟨tp, _, rfl, .inr (SqT.of upd_same), rfl, rfl, _, rfl, ?_⟩⟩
    replace L := L.same (same_ext (o := .tup [.str "end", .str "late", .str "mend", .str "pause", .str "guard", .str "give"]) ntp)
    replace hp := kn (u := .tup [.str "end", .str "late", .str "mend", .str "pause", .str "guard", .str "give"]) hp ntp
    replace s0 := s0.trans (same_ext (o := .tup [.str "end", .str "late", .str "mend", .str "pause", .str "guard", .str "give"]) ntp)
    revert L hp s0
    generalize upd G3 tp (.tup [.str "end", .str "late", .str "mend", .str "pause", .str "guard", .str "give"]) = G4
    intro L hp s0
    refine ifT (by decide +kernel) ⟨_, rfl, rfl, _, rfl, ifF rfl ?_⟩
    refine ⟨_, rfl, by show 3 ≤ sizeLine; decide, fun tp ntp => ⟨tp, _, rfl, .inr (SqT.of upd_same), rfl, rfl, _, rfl, ?_⟩⟩
    replace L := L.same (same_ext (o := .tup [.str "end", .str "late", .str "mend"]) ntp)
    replace hp := kn (u := .tup [.str "end", .str "late", .str "mend"]) hp ntp
    replace s0 := s0.trans (same_ext (o := .tup [.str "end", .str "late", .str "mend"]) ntp)
    revert L hp s0
    generalize upd G4 tp (.tup [.str "end", .str "late", .str "mend"]) = G5
    intro L hp s0
    refine ifF (by decide +kernel) ?_
    refine ⟨_, rfl, by show 2 ≤ sizeLine; decide, fun tp ntp => ⟨tp, _, rfl, .inr (SqT.of upd_same), rfl, rfl, _, rfl, ?_⟩⟩
    replace L := L.same (same_ext (o := .tup [.str "pause", .str "guard"]) ntp)
    replace hp := kn (u := .tup [.str "pause", .str "guard"]) hp ntp
    replace s0 := s0.trans (same_ext (o := .tup [.str "pause", .str "guard"]) ntp)
    revert L hp s0
    generalize upd G5 tp (.tup [.str "pause", .str "guard"]) = G6
    intro L hp s0
    exact ifT (by decide +kernel) (q _ s0)
  | guard hc =>
    obtain ⟨ks, k, ek⟩ := snoc_ex (l := bks s) (fun z => by have q1 := bks_len hc; rw [z] at q1; cases q1)
    obtain ⟨as', a, rfl, hl, ha⟩ := L.last ek
    refine ⟨_, rfl, p, _, 0, _, rfl, rfl, SqL.of hp, atI_nat (j := 0) rfl, _, rfl, p, _, rfl, .inl (SqL.of hp), _, _, rfl, ?_⟩
    refine ⟨_, rfl, by show 0 ≤ sizeLine; decide, fun p2 np2 => ⟨sl, p2, _, rfl, rfl, SqL.of (kn L.e_sl np2), SqL.of upd_same, _, rfl, ?_⟩⟩
    replace L := L.same (same_ext (o := .lst []) np2)
    replace hp := kn (u := .lst []) hp np2
    have s0 : Same H (upd H p2 (.lst [])) := same_ext np2
    revert L hp s0
    generalize upd H p2 (.lst []) = G1
    intro L hp s0
    refine ifT (by simp) ⟨_, rfl, _, rfl, sl, _, rfl, .inl (SqL.of L.e_sl), _, _, rfl, rfl, sl, _, _, _, rfl, rfl, SqL.of L.e_sl, at_last as' a, a, _, 0, _, rfl, rfl, SqT.of (s0 _ _ ha), ent_at _, ?_⟩
    refine ⟨_, rfl, by show 2 ≤ sizeLine; decide, fun tp ntp => ⟨tp, _, rfl, .inr (SqT.of upd_same), rfl, rfl, _, rfl, ?_⟩⟩
    replace L := L.same (same_ext (o := .tup [.str "walk", .str "job"]) ntp)
    replace hp := kn (u := .tup [.str "walk", .str "job"]) hp ntp
    replace s0 := s0.trans (same_ext (o := .tup [.str "walk", .str "job"]) ntp)
    revert L hp s0
    generalize upd G1 tp (.tup [.str "walk", .str "job"]) = G2
    intro L hp s0
    refine ifF (by decide +kernel) ?_
    refine ⟨_, rfl, by show 0 ≤ sizeLine; decide, fun p3 np3 => ⟨sl, p3, _, rfl, rfl, SqL.of (kn L.e_sl np3), SqL.of upd_same, _, rfl, ifF (by simp) ?_⟩⟩
    replace L := L.same (same_ext (o := .lst []) np3)
    replace hp := kn (u := .lst []) hp np3
    replace s0 := s0.trans (same_ext (o := .lst []) np3)
    revert L hp s0
    generalize upd G2 p3 (.lst []) = G3
    intro L hp s0
    refine ⟨_, rfl, by show 6 ≤ sizeLine; decide, fun tp ntp => ⟨tp, _, rfl, .inr (SqT.of upd_same), rfl, rfl, _, rfl, ?_⟩⟩
    replace L := L.same (same_ext (o := .tup [.str "end", .str "late", .str "mend", .str "pause", .str "guard", .str "give"]) ntp)
    replace hp := kn (u := .tup [.str "end", .str "late", .str "mend", .str "pause", .str "guard", .str "give"]) hp ntp
    replace s0 := s0.trans (same_ext (o := .tup [.str "end", .str "late", .str "mend", .str "pause", .str "guard", .str "give"]) ntp)
    revert L hp s0
    generalize upd G3 tp (.tup [.str "end", .str "late", .str "mend", .str "pause", .str "guard", .str "give"]) = G4
    intro L hp s0
    refine ifT (by decide +kernel) ⟨_, rfl, rfl, _, rfl, ifF rfl ?_⟩
    refine ⟨_, rfl, by show 3 ≤ sizeLine; decide, fun tp ntp => ⟨tp, _, rfl, .inr (SqT.of upd_same), rfl, rfl, _, rfl, ?_⟩⟩
    replace L := L.same (same_ext (o := .tup [.str "end", .str "late", .str "mend"]) ntp)
    replace hp := kn (u := .tup [.str "end", .str "late", .str "mend"]) hp ntp
    replace s0 := s0.trans (same_ext (o := .tup [.str "end", .str "late", .str "mend"]) ntp)
    revert L hp s0
    generalize upd G4 tp (.tup [.str "end", .str "late", .str "mend"]) = G5
    intro L hp s0
    refine ifF (by decide +kernel) ?_
    refine ⟨_, rfl, by show 2 ≤ sizeLine; decide, fun tp ntp => ⟨tp, _, rfl, .inr (SqT.of upd_same), rfl, rfl, _, rfl, ?_⟩⟩
    replace L := L.same (same_ext (o := .tup [.str "pause", .str "guard"]) ntp)
    replace hp := kn (u := .tup [.str "pause", .str "guard"]) hp ntp
    replace s0 := s0.trans (same_ext (o := .tup [.str "pause", .str "guard"]) ntp)
    revert L hp s0
    generalize upd G5 tp (.tup [.str "pause", .str "guard"]) = G6
    intro L hp s0
    exact ifT (by decide +kernel) (q _ s0)
  | @named k x hc nm =>
    obtain ⟨ks, kk, ek⟩ := snoc_ex (l := bks s) (fun z => by have q1 := bks_len hc; rw [z] at q1; cases q1)
    obtain ⟨as', a, rfl, hl, ha⟩ := L.last ek
    refine ⟨_, rfl, p, _, 0, _, rfl, rfl, SqL.of hp, atI_nat (j := 0) rfl, _, rfl, p, _, rfl, .inl (SqL.of hp), _, _, rfl, ?_⟩
    refine ⟨_, rfl, by show 0 ≤ sizeLine; decide, fun p2 np2 => ⟨sl, p2, _, rfl, rfl, SqL.of (kn L.e_sl np2), SqL.of upd_same, _, rfl, ?_⟩⟩
    replace L := L.same (same_ext (o := .lst []) np2)
    replace hp := kn (u := .lst []) hp np2
    have s0 : Same H (upd H p2 (.lst [])) := same_ext np2
    revert L hp s0
    generalize upd H p2 (.lst []) = G1
    intro L hp s0
    refine ifT (by simp) ⟨_, rfl, _, rfl, sl, _, rfl, .inl (SqL.of L.e_sl), _, _, rfl, rfl, sl, _, _, _, rfl, rfl, SqL.of L.e_sl, at_last as' a, a, _, 0, _, rfl, rfl, SqT.of (s0 _ _ ha), ent_at _, ?_⟩
    refine ⟨_, rfl, by show 2 ≤ sizeLine; decide, fun tp ntp => ⟨tp, _, rfl, .inr (SqT.of upd_same), rfl, rfl, _, rfl, ?_⟩⟩
    replace L := L.same (same_ext (o := .tup [.str "walk", .str "job"]) ntp)
    replace hp := kn (u := .tup [.str "walk", .str "job"]) hp ntp
    replace s0 := s0.trans (same_ext (o := .tup [.str "walk", .str "job"]) ntp)
    revert L hp s0
    generalize upd G1 tp (.tup [.str "walk", .str "job"]) = G2
    intro L hp s0
    refine ifF (by cases k <;> decide +kernel) ?_
    refine ⟨_, rfl, by show 0 ≤ sizeLine; decide, fun p3 np3 => ⟨sl, p3, _, rfl, rfl, SqL.of (kn L.e_sl np3), SqL.of upd_same, _, rfl, ifF (by simp) ?_⟩⟩
    replace L := L.same (same_ext (o := .lst []) np3)
    replace hp := kn (u := .lst []) hp np3
    replace s0 := s0.trans (same_ext (o := .lst []) np3)
    revert L hp s0
    generalize upd G2 p3 (.lst []) = G3
    intro L hp s0
    refine ⟨_, rfl, by show 6 ≤ sizeLine; decide, fun tp ntp => ⟨tp, _, rfl, .inr (SqT.of upd_same), rfl, rfl, _, rfl, ?_⟩⟩
    replace L := L.same (same_ext (o := .tup [.str "end", .str "late", .str "mend", .str "pause", .str "guard", .str "give"]) ntp)
    replace hp := kn (u := .tup [.str "end", .str "late", .str "mend", .str "pause", .str "guard", .str "give"]) hp ntp
    replace s0 := s0.trans (same_ext (o := .tup [.str "end", .str "late", .str "mend", .str "pause", .str "guard", .str "give"]) ntp)
    revert L hp s0
    generalize upd G3 tp (.tup [.str "end", .str "late", .str "mend", .str "pause", .str "guard", .str "give"]) = G4
    intro L hp s0
    refine ifF (by cases k <;> decide +kernel) (ifF rfl ?_)
    refine ⟨_, rfl, by show 3 ≤ sizeLine; decide, fun tp ntp => ⟨tp, _, rfl, .inr (SqT.of upd_same), rfl, rfl, _, rfl, ?_⟩⟩
    replace L := L.same (same_ext (o := .tup [.str "end", .str "late", .str "mend"]) ntp)
    replace hp := kn (u := .tup [.str "end", .str "late", .str "mend"]) hp ntp
    replace s0 := s0.trans (same_ext (o := .tup [.str "end", .str "late", .str "mend"]) ntp)
    revert L hp s0
    generalize upd G4 tp (.tup [.str "end", .str "late", .str "mend"]) = G5
    intro L hp s0
    refine ifF (by cases k <;> decide +kernel) ?_
    refine ⟨_, rfl, by show 2 ≤ sizeLine; decide, fun tp ntp => ⟨tp, _, rfl, .inr (SqT.of upd_same), rfl, rfl, _, rfl, ?_⟩⟩
    replace L := L.same (same_ext (o := .tup [.str "pause", .str "guard"]) ntp)
    replace hp := kn (u := .tup [.str "pause", .str "guard"]) hp ntp
    replace s0 := s0.trans (same_ext (o := .tup [.str "pause", .str "guard"]) ntp)
    revert L hp s0
    generalize upd G5 tp (.tup [.str "pause", .str "guard"]) = G6
    intro L hp s0
    refine ifF (by cases k <;> decide +kernel) ⟨_, rfl, rfl, _, rfl, ifF (by cases k <;> rfl) ?_⟩
    refine ⟨_, rfl, by show 5 ≤ sizeLine; decide, fun tp ntp => ⟨tp, _, rfl, .inr (SqT.of upd_same), rfl, rfl, _, rfl, ?_⟩⟩
    replace L := L.same (same_ext (o := .tup [.str "say", .str "wait", .str "open", .str "begin", .str "fail"]) ntp)
    replace hp := kn (u := .tup [.str "say", .str "wait", .str "open", .str "begin", .str "fail"]) hp ntp
    replace s0 := s0.trans (same_ext (o := .tup [.str "say", .str "wait", .str "open", .str "begin", .str "fail"]) ntp)
    revert L hp s0
    generalize upd G6 tp (.tup [.str "say", .str "wait", .str "open", .str "begin", .str "fail"]) = G7
    intro L hp s0
    refine ifT (by cases k <;> decide +kernel) ⟨_, rfl, rfl, _, rfl, ifF rfl ?_⟩
    exact ⟨_, rfl, p, _, 1, _, rfl, rfl, SqL.of hp, atI_nat (j := 1) rfl, x, rfl, nm, fun H4 s4 => ⟨_, rfl, q _ (s0.trans s4)⟩⟩
  | @rep d hc hd =>
    obtain ⟨ks, kk, ek⟩ := snoc_ex (l := bks s) (fun z => by have q1 := bks_len hc; rw [z] at q1; cases q1)
    obtain ⟨as', a, rfl, hl, ha⟩ := L.last ek
    refine ⟨_, rfl, p, _, 0, _, rfl, rfl, SqL.of hp, atI_nat (j := 0) rfl, _, rfl, p, _, rfl, .inl (SqL.of hp), _, _, rfl, ?_⟩
    refine ⟨_, rfl, by show 0 ≤ sizeLine; decide, fun p2 np2 => ⟨sl, p2, _, rfl, rfl, SqL.of (kn L.e_sl np2), SqL.of upd_same, _, rfl, ?_⟩⟩
    replace L := L.same (same_ext (o := .lst []) np2)
    replace hp := kn (u := .lst []) hp np2
    have s0 : Same H (upd H p2 (.lst [])) := same_ext np2
    revert L hp s0
    generalize upd H p2 (.lst []) = G1
    intro L hp s0
    refine ifT (by simp) ⟨_, rfl, _, rfl, sl, _, rfl, .inl (SqL.of L.e_sl), _, _, rfl, rfl, sl, _, _, _, rfl, rfl, SqL.of L.e_sl, at_last as' a, a, _, 0, _, rfl, rfl, SqT.of (s0 _ _ ha), ent_at _, ?_⟩
    refine ⟨_, rfl, by show 2 ≤ sizeLine; decide, fun tp ntp => ⟨tp, _, rfl, .inr (SqT.of upd_same), rfl, rfl, _, rfl, ?_⟩⟩
    replace L := L.same (same_ext (o := .tup [.str "walk", .str "job"]) ntp)
    replace hp := kn (u := .tup [.str "walk", .str "job"]) hp ntp
    replace s0 := s0.trans (same_ext (o := .tup [.str "walk", .str "job"]) ntp)
    revert L hp s0
    generalize upd G1 tp (.tup [.str "walk", .str "job"]) = G2
    intro L hp s0
    refine ifF (by decide +kernel) ?_
    refine ⟨_, rfl, by show 0 ≤ sizeLine; decide, fun p3 np3 => ⟨sl, p3, _, rfl, rfl, SqL.of (kn L.e_sl np3), SqL.of upd_same, _, rfl, ifF (by simp) ?_⟩⟩
    replace L := L.same (same_ext (o := .lst []) np3)
    replace hp := kn (u := .lst []) hp np3
    replace s0 := s0.trans (same_ext (o := .lst []) np3)
    revert L hp s0
    generalize upd G2 p3 (.lst []) = G3
    intro L hp s0
    refine ⟨_, rfl, by show 6 ≤ sizeLine; decide, fun tp ntp => ⟨tp, _, rfl, .inr (SqT.of upd_same), rfl, rfl, _, rfl, ?_⟩⟩
    replace L := L.same (same_ext (o := .tup [.str "end", .str "late", .str "mend", .str "pause", .str "guard", .str "give"]) ntp)
    replace hp := kn (u := .tup [.str "end", .str "late", .str "mend", .str "pause", .str "guard", .str "give"]) hp ntp
    replace s0 := s0.trans (same_ext (o := .tup [.str "end", .str "late", .str "mend", .str "pause", .str "guard", .str "give"]) ntp)
    revert L hp s0
    generalize upd G3 tp (.tup [.str "end", .str "late", .str "mend", .str "pause", .str "guard", .str "give"]) = G4
    intro L hp s0
    refine ifF (by decide +kernel) (ifF rfl ?_)
    refine ⟨_, rfl, by show 3 ≤ sizeLine; decide, fun tp ntp => ⟨tp, _, rfl, .inr (SqT.of upd_same), rfl, rfl, _, rfl, ?_⟩⟩
    replace L := L.same (same_ext (o := .tup [.str "end", .str "late", .str "mend"]) ntp)
    replace hp := kn (u := .tup [.str "end", .str "late", .str "mend"]) hp ntp
    replace s0 := s0.trans (same_ext (o := .tup [.str "end", .str "late", .str "mend"]) ntp)
    revert L hp s0
    generalize upd G4 tp (.tup [.str "end", .str "late", .str "mend"]) = G5
    intro L hp s0
    refine ifF (by decide +kernel) ?_
    refine ⟨_, rfl, by show 2 ≤ sizeLine; decide, fun tp ntp => ⟨tp, _, rfl, .inr (SqT.of upd_same), rfl, rfl, _, rfl, ?_⟩⟩
    replace L := L.same (same_ext (o := .tup [.str "pause", .str "guard"]) ntp)
    replace hp := kn (u := .tup [.str "pause", .str "guard"]) hp ntp
    replace s0 := s0.trans (same_ext (o := .tup [.str "pause", .str "guard"]) ntp)
    revert L hp s0
    generalize upd G5 tp (.tup [.str "pause", .str "guard"]) = G6
    intro L hp s0
    refine ifF (by decide +kernel) ⟨_, rfl, rfl, _, rfl, ifF rfl ?_⟩
    refine ⟨_, rfl, by show 5 ≤ sizeLine; decide, fun tp ntp => ⟨tp, _, rfl, .inr (SqT.of upd_same), rfl, rfl, _, rfl, ?_⟩⟩
    replace L := L.same (same_ext (o := .tup [.str "say", .str "wait", .str "open", .str "begin", .str "fail"]) ntp)
    replace hp := kn (u := .tup [.str "say", .str "wait", .str "open", .str "begin", .str "fail"]) hp ntp
    replace s0 := s0.trans (same_ext (o := .tup [.str "say", .str "wait", .str "open", .str "begin", .str "fail"]) ntp)
    revert L hp s0
    generalize upd G6 tp (.tup [.str "say", .str "wait", .str "open", .str "begin", .str "fail"]) = G7
    intro L hp s0
    refine ifF (by decide +kernel) ⟨_, rfl, rfl, _, rfl, ifT rfl ⟨_, rfl, rfl, _, rfl, ifF rfl ?_⟩⟩
    refine ⟨_, rfl, p, _, 1, _, rfl, rfl, SqL.of hp, atI_nat (j := 1) rfl, "123456789", rfl, by show 9 ≤ sizeLine; decide, fun lp nlp => ⟨lp, _, rfl, .inl (SqL.of upd_same), rfl, flat_strs' _, q_of ?_ (q _ (s0.trans (same_ext nlp)))⟩⟩
    rw [sgn_digs]
    exact not_digs hd
  | @give x hcur hlate =>
    have hc : s.cur ≠ none := by rw [hcur]; exact fun z => by cases z
    obtain ⟨ks, kk, ek⟩ := snoc_ex (l := bks s) (fun z => by have q1 := bks_len hc; rw [z] at q1; cases q1)
    obtain ⟨as', a, rfl, hl, ha⟩ := L.last ek
    refine ⟨_, rfl, p, _, 0, _, rfl, rfl, SqL.of hp, atI_nat (j := 0) rfl, _, rfl, p, _, rfl, .inl (SqL.of hp), _, _, rfl, ?_⟩
    refine ⟨_, rfl, by show 0 ≤ sizeLine; decide, fun p2 np2 => ⟨sl, p2, _, rfl, rfl, SqL.of (kn L.e_sl np2), SqL.of upd_same, _, rfl, ?_⟩⟩
    replace L := L.same (same_ext (o := .lst []) np2)
    replace hp := kn (u := .lst []) hp np2
    have s0 : Same H (upd H p2 (.lst [])) := same_ext np2
    revert L hp s0
    generalize upd H p2 (.lst []) = G1
    intro L hp s0
    refine ifT (by simp) ⟨_, rfl, _, rfl, sl, _, rfl, .inl (SqL.of L.e_sl), _, _, rfl, rfl, sl, _, _, _, rfl, rfl, SqL.of L.e_sl, at_last as' a, a, _, 0, _, rfl, rfl, SqT.of (s0 _ _ ha), ent_at _, ?_⟩
    refine ⟨_, rfl, by show 2 ≤ sizeLine; decide, fun tp ntp => ⟨tp, _, rfl, .inr (SqT.of upd_same), rfl, rfl, _, rfl, ?_⟩⟩
    replace L := L.same (same_ext (o := .tup [.str "walk", .str "job"]) ntp)
    replace hp := kn (u := .tup [.str "walk", .str "job"]) hp ntp
    replace s0 := s0.trans (same_ext (o := .tup [.str "walk", .str "job"]) ntp)
    revert L hp s0
    generalize upd G1 tp (.tup [.str "walk", .str "job"]) = G2
    intro L hp s0
    refine ifF (by decide +kernel) ?_
    refine ⟨_, rfl, by show 0 ≤ sizeLine; decide, fun p3 np3 => ⟨sl, p3, _, rfl, rfl, SqL.of (kn L.e_sl np3), SqL.of upd_same, _, rfl, ifF (by simp) ?_⟩⟩
    replace L := L.same (same_ext (o := .lst []) np3)
    replace hp := kn (u := .lst []) hp np3
    replace s0 := s0.trans (same_ext (o := .lst []) np3)
    revert L hp s0
    generalize upd G2 p3 (.lst []) = G3
    intro L hp s0
    refine ⟨_, rfl, by show 6 ≤ sizeLine; decide, fun tp ntp => ⟨tp, _, rfl, .inr (SqT.of upd_same), rfl, rfl, _, rfl, ?_⟩⟩
    replace L := L.same (same_ext (o := .tup [.str "end", .str "late", .str "mend", .str "pause", .str "guard", .str "give"]) ntp)
    replace hp := kn (u := .tup [.str "end", .str "late", .str "mend", .str "pause", .str "guard", .str "give"]) hp ntp
    replace s0 := s0.trans (same_ext (o := .tup [.str "end", .str "late", .str "mend", .str "pause", .str "guard", .str "give"]) ntp)
    revert L hp s0
    generalize upd G3 tp (.tup [.str "end", .str "late", .str "mend", .str "pause", .str "guard", .str "give"]) = G4
    intro L hp s0
    refine ifT (by decide +kernel) ⟨_, rfl, rfl, _, rfl, ifF rfl ?_⟩
    refine ⟨_, rfl, by show 3 ≤ sizeLine; decide, fun tp ntp => ⟨tp, _, rfl, .inr (SqT.of upd_same), rfl, rfl, _, rfl, ?_⟩⟩
    replace L := L.same (same_ext (o := .tup [.str "end", .str "late", .str "mend"]) ntp)
    replace hp := kn (u := .tup [.str "end", .str "late", .str "mend"]) hp ntp
    replace s0 := s0.trans (same_ext (o := .tup [.str "end", .str "late", .str "mend"]) ntp)
    revert L hp s0
    generalize upd G4 tp (.tup [.str "end", .str "late", .str "mend"]) = G5
    intro L hp s0
    refine ifF (by decide +kernel) ?_
    refine ⟨_, rfl, by show 2 ≤ sizeLine; decide, fun tp ntp => ⟨tp, _, rfl, .inr (SqT.of upd_same), rfl, rfl, _, rfl, ?_⟩⟩
    replace L := L.same (same_ext (o := .tup [.str "pause", .str "guard"]) ntp)
    replace hp := kn (u := .tup [.str "pause", .str "guard"]) hp ntp
    replace s0 := s0.trans (same_ext (o := .tup [.str "pause", .str "guard"]) ntp)
    revert L hp s0
    generalize upd G5 tp (.tup [.str "pause", .str "guard"]) = G6
    intro L hp s0
    obtain ⟨a0, h0, e0⟩ := L.first (bks_some hcur)
    refine ifF (by decide +kernel) ⟨_, rfl, rfl, _, rfl, ifT rfl ?_⟩
    refine ⟨_, rfl, sl, _, 0, _, rfl, rfl, SqL.of L.e_sl, atI_nat (j := 0) h0, a0, _, 0, _, rfl, rfl, SqT.of e0, atI_nat (j := 0) rfl, rfl, _, rfl, ifF rfl ?_⟩
    refine ⟨by show 1 ≤ sizeLine; decide, fun p5 np5 => ⟨_, rfl, .tuple ((["late"] : List Str).map PyData.str), (bks s).map entD, .tup (SqT.of upd_same) (dpS ["late"]), (L.same (same_ext np5)).dp, shapedT (by decide +kernel), L.shaped, q_of (not_ent fun k hk => ?_) (q _ (s0.trans (same_ext np5)))⟩⟩
    rcases bks_mem hk with ⟨w1, x1, rfl⟩ | ⟨b1, hb1, rfl⟩
    · exact fun z => by cases (List.cons.inj z).2
    · cases b1 with
      | late => exact absurd hb1 hlate
      | guard => exact fun z => absurd (show ("guard" : Str) = "late" from (List.cons.inj z).1) (by decide)
      | mend => exact fun z => absurd (show ("mend" : Str) = "late" from (List.cons.inj z).1) (by decide)
      | _ => exact fun z => by cases (List.cons.inj z).2
  | @each wk how t hc hnm hw ht hk =>
    cases t with
    | none =>
      obtain ⟨ks, kk, ek⟩ := snoc_ex (l := bks s) (fun z => by have q1 := bks_len hc; rw [z] at q1; cases q1)
      obtain ⟨as', a, rfl, hl, ha⟩ := L.last ek
      refine ⟨_, rfl, p, _, 0, _, rfl, rfl, SqL.of hp, atI_nat (j := 0) rfl, _, rfl, p, _, rfl, .inl (SqL.of hp), _, _, rfl, ?_⟩
      refine ⟨_, rfl, by show 0 ≤ sizeLine; decide, fun p2 np2 => ⟨sl, p2, _, rfl, rfl, SqL.of (kn L.e_sl np2), SqL.of upd_same, _, rfl, ?_⟩⟩
      replace L := L.same (same_ext (o := .lst []) np2)
      replace hp := kn (u := .lst []) hp np2
      have s0 : Same H (upd H p2 (.lst [])) := same_ext np2
      revert L hp s0
      generalize upd H p2 (.lst []) = G1
      intro L hp s0
      refine ifT (by simp) ⟨_, rfl, _, rfl, sl, _, rfl, .inl (SqL.of L.e_sl), _, _, rfl, rfl, sl, _, _, _, rfl, rfl, SqL.of L.e_sl, at_last as' a, a, _, 0, _, rfl, rfl, SqT.of (s0 _ _ ha), ent_at _, ?_⟩
      refine ⟨_, rfl, by show 2 ≤ sizeLine; decide, fun tp ntp => ⟨tp, _, rfl, .inr (SqT.of upd_same), rfl, rfl, _, rfl, ?_⟩⟩
      replace L := L.same (same_ext (o := .tup [.str "walk", .str "job"]) ntp)
      replace hp := kn (u := .tup [.str "walk", .str "job"]) hp ntp
      replace s0 := s0.trans (same_ext (o := .tup [.str "walk", .str "job"]) ntp)
      revert L hp s0
      generalize upd G1 tp (.tup [.str "walk", .str "job"]) = G2
      intro L hp s0
      refine ifF (by decide +kernel) ?_
      refine ⟨_, rfl, by show 0 ≤ sizeLine; decide, fun p3 np3 => ⟨sl, p3, _, rfl, rfl, SqL.of (kn L.e_sl np3), SqL.of upd_same, _, rfl, ifF (by simp) ?_⟩⟩
      replace L := L.same (same_ext (o := .lst []) np3)
      replace hp := kn (u := .lst []) hp np3
      replace s0 := s0.trans (same_ext (o := .lst []) np3)
      revert L hp s0
      generalize upd G2 p3 (.lst []) = G3
      intro L hp s0
      refine ⟨_, rfl, by show 6 ≤ sizeLine; decide, fun tp ntp => ⟨tp, _, rfl, .inr (SqT.of upd_same), rfl, rfl, _, rfl, ?_⟩⟩
      replace L := L.same (same_ext (o := .tup [.str "end", .str "late", .str "mend", .str "pause", .str "guard", .str "give"]) ntp)
      replace hp := kn (u := .tup [.str "end", .str "late", .str "mend", .str "pause", .str "guard", .str "give"]) hp ntp
      replace s0 := s0.trans (same_ext (o := .tup [.str "end", .str "late", .str "mend", .str "pause", .str "guard", .str "give"]) ntp)
      revert L hp s0
      generalize upd G3 tp (.tup [.str "end", .str "late", .str "mend", .str "pause", .str "guard", .str "give"]) = G4
      intro L hp s0
      refine ifF (by decide +kernel) (ifF rfl ?_)
      refine ⟨_, rfl, by show 3 ≤ sizeLine; decide, fun tp ntp => ⟨tp, _, rfl, .inr (SqT.of upd_same), rfl, rfl, _, rfl, ?_⟩⟩
      replace L := L.same (same_ext (o := .tup [.str "end", .str "late", .str "mend"]) ntp)
      replace hp := kn (u := .tup [.str "end", .str "late", .str "mend"]) hp ntp
      replace s0 := s0.trans (same_ext (o := .tup [.str "end", .str "late", .str "mend"]) ntp)
      revert L hp s0
      generalize upd G4 tp (.tup [.str "end", .str "late", .str "mend"]) = G5
      intro L hp s0
      refine ifF (by decide +kernel) ?_
      refine ⟨_, rfl, by show 2 ≤ sizeLine; decide, fun tp ntp => ⟨tp, _, rfl, .inr (SqT.of upd_same), rfl, rfl, _, rfl, ?_⟩⟩
      replace L := L.same (same_ext (o := .tup [.str "pause", .str "guard"]) ntp)
      replace hp := kn (u := .tup [.str "pause", .str "guard"]) hp ntp
      replace s0 := s0.trans (same_ext (o := .tup [.str "pause", .str "guard"]) ntp)
      revert L hp s0
      generalize upd G5 tp (.tup [.str "pause", .str "guard"]) = G6
      intro L hp s0
      refine ifF (by decide +kernel) ⟨_, rfl, rfl, _, rfl, ifF rfl ?_⟩
      refine ⟨_, rfl, by show 5 ≤ sizeLine; decide, fun tp ntp => ⟨tp, _, rfl, .inr (SqT.of upd_same), rfl, rfl, _, rfl, ?_⟩⟩
      replace L := L.same (same_ext (o := .tup [.str "say", .str "wait", .str "open", .str "begin", .str "fail"]) ntp)
      replace hp := kn (u := .tup [.str "say", .str "wait", .str "open", .str "begin", .str "fail"]) hp ntp
      replace s0 := s0.trans (same_ext (o := .tup [.str "say", .str "wait", .str "open", .str "begin", .str "fail"]) ntp)
      revert L hp s0
      generalize upd G6 tp (.tup [.str "say", .str "wait", .str "open", .str "begin", .str "fail"]) = G7
      intro L hp s0
      refine ifF (by decide +kernel) ⟨_, rfl, rfl, _, rfl, ifF rfl ⟨_, rfl, rfl, _, rfl, ifF rfl ?_⟩⟩
      refine ⟨_, rfl, by show 2 ≤ sizeLine; decide, fun tp ntp => ⟨tp, _, rfl, .inr (SqT.of upd_same), rfl, rfl, _, rfl, ?_⟩⟩
      replace L := L.same (same_ext (o := .tup [.int 3, .int 4]) ntp)
      replace hp := kn (u := .tup [.int 3, .int 4]) hp ntp
      replace s0 := s0.trans (same_ext (o := .tup [.int 3, .int 4]) ntp)
      revert L hp s0
      generalize upd G7 tp (.tup [.int 3, .int 4]) = G8
      intro L hp s0
      refine ifF rfl ?_
      refine ⟨_, rfl, p, _, 1, _, rfl, rfl, SqL.of hp, atI_nat (j := 1) rfl, _, rfl, tl, .ref wl, rfl, dg L.e_tl rfl, wl, _, rfl, .inl (SqL.of L.e_wl), rfl, flat_strs' _, _, rfl, ifF (in_not hw) ?_⟩
      refine ⟨_, rfl, _, rfl, _, _, rfl, rfl, p, _, _, _, rfl, rfl, SqL.of hp, (show atI _ ((2 : Nat) : Int) = _ from atI_nat (j := 2) rfl), rfl, _, rfl, ifF (by cases how <;> decide +kernel) ?_⟩
      refine ⟨_, rfl, p, _, 2, _, rfl, rfl, SqL.of hp, atI_nat (j := 2) rfl, by show 3 ≤ sizeLine; decide, fun tp ntp => ⟨tp, _, rfl, .inr (SqT.of upd_same), rfl, rfl, _, rfl, ifF (by cases how <;> decide +kernel) ?_⟩⟩
      replace L := L.same (same_ext (o := .tup [.str "closed", .str "dropped", .str "kept"]) ntp)
      replace hp := kn (u := .tup [.str "closed", .str "dropped", .str "kept"]) hp ntp
      replace s0 := s0.trans (same_ext (o := .tup [.str "closed", .str "dropped", .str "kept"]) ntp)
      revert L hp s0
      generalize upd G8 tp (.tup [.str "closed", .str "dropped", .str "kept"]) = G9
      intro L hp s0
      refine ⟨_, rfl, rfl, _, rfl, ifF rfl (ifF rfl ?_)⟩
      refine ⟨_, rfl, p, _, 2, _, rfl, rfl, SqL.of hp, atI_nat (j := 2) rfl, rfl, _, rfl, ?_⟩
      by_cases hkp : how = .kept
      · subst hkp
        obtain ⟨⟨x, hcur⟩, hno⟩ := hk rfl
        obtain ⟨a0, h0, e0⟩ := L.first (bks_some hcur)
        refine ifT rfl ⟨_, rfl, sl, _, 0, _, rfl, rfl, SqL.of L.e_sl, atI_nat (j := 0) h0, a0, _, 0, _, rfl, rfl, SqT.of e0, atI_nat (j := 0) rfl, rfl, _, rfl, ifF rfl ?_⟩
        refine ⟨_, rfl, p, _, 1, _, rfl, rfl, SqL.of hp, atI_nat (j := 1) rfl, by show 3 ≤ sizeLine; decide, fun p5 np5 => ⟨_, rfl, .tuple ((["each", wk, "kept"] : List Str).map PyData.str), (bks s).map entD, .tup (SqT.of upd_same) (dpS ["each", wk, "kept"]), (L.same (same_ext np5)).dp, shapedT (fun t ht => ?_), L.shaped, q_of (not_ent fun k hk => ?_) (q _ (s0.trans (same_ext np5)))⟩⟩
        · simp only [List.mem_cons, List.not_mem_nil, or_false] at ht
          rcases ht with rfl | rfl | rfl
          · decide +kernel
          · exact strOk_nm hnm
          · decide +kernel
        · rcases bks_mem hk with ⟨w1, x1, rfl⟩ | ⟨b1, hb1, rfl⟩
          · exact fun z => by cases (List.cons.inj (List.cons.inj z).2).2
          · cases b1 with
            | each w1 h1 =>
              intro z
              have z1 := (List.cons.inj z).2
              have z2 : w1 = wk := (List.cons.inj z1).1
              have z3 : h1.word = "kept" := (List.cons.inj (List.cons.inj z1).2).1
              have z4 : h1 = .kept := by cases h1 <;> first | rfl | exact absurd z3 (by decide)
              subst z2 z4
              exact hno hb1
            | rep d => exact fun z => by cases (List.cons.inj (List.cons.inj z).2).2
            | _ => exact fun z => by cases (List.cons.inj z).2
      · exact ifF (by cases how <;> first | rfl | exact absurd rfl hkp) (q _ s0)
    | some d =>
      have hd := ht d rfl
      have hde : ¬ V.str d = V.str "" := fun z => by have q1 := (dig_ok d hd).1; rw [V.str.inj z] at q1; exact absurd q1 (by decide)
      obtain ⟨ks, kk, ek⟩ := snoc_ex (l := bks s) (fun z => by have q1 := bks_len hc; rw [z] at q1; cases q1)
      obtain ⟨as', a, rfl, hl, ha⟩ := L.last ek
      refine ⟨_, rfl, p, _, 0, _, rfl, rfl, SqL.of hp, atI_nat (j := 0) rfl, _, rfl, p, _, rfl, .inl (SqL.of hp), _, _, rfl, ?_⟩
      refine ⟨_, rfl, by show 0 ≤ sizeLine; decide, fun p2 np2 => ⟨sl, p2, _, rfl, rfl, SqL.of (kn L.e_sl np2), SqL.of upd_same, _, rfl, ?_⟩⟩
      replace L := L.same (same_ext (o := .lst []) np2)
      replace hp := kn (u := .lst []) hp np2
      have s0 : Same H (upd H p2 (.lst [])) := same_ext np2
      revert L hp s0
      generalize upd H p2 (.lst []) = G1
      intro L hp s0
      refine ifT (by simp) ⟨_, rfl, _, rfl, sl, _, rfl, .inl (SqL.of L.e_sl), _, _, rfl, rfl, sl, _, _, _, rfl, rfl, SqL.of L.e_sl, at_last as' a, a, _, 0, _, rfl, rfl, SqT.of (s0 _ _ ha), ent_at _, ?_⟩
      refine ⟨_, rfl, by show 2 ≤ sizeLine; decide, fun tp ntp => ⟨tp, _, rfl, .inr (SqT.of upd_same), rfl, rfl, _, rfl, ?_⟩⟩
      replace L := L.same (same_ext (o := .tup [.str "walk", .str "job"]) ntp)
      replace hp := kn (u := .tup [.str "walk", .str "job"]) hp ntp
      replace s0 := s0.trans (same_ext (o := .tup [.str "walk", .str "job"]) ntp)
      revert L hp s0
      generalize upd G1 tp (.tup [.str "walk", .str "job"]) = G2
      intro L hp s0
      refine ifF (by decide +kernel) ?_
      refine ⟨_, rfl, by show 0 ≤ sizeLine; decide, fun p3 np3 => ⟨sl, p3, _, rfl, rfl, SqL.of (kn L.e_sl np3), SqL.of upd_same, _, rfl, ifF (by simp) ?_⟩⟩
      replace L := L.same (same_ext (o := .lst []) np3)
      replace hp := kn (u := .lst []) hp np3
      replace s0 := s0.trans (same_ext (o := .lst []) np3)
      revert L hp s0
      generalize upd G2 p3 (.lst []) = G3
      intro L hp s0
      refine ⟨_, rfl, by show 6 ≤ sizeLine; decide, fun tp ntp => ⟨tp, _, rfl, .inr (SqT.of upd_same), rfl, rfl, _, rfl, ?_⟩⟩
      replace L := L.same (same_ext (o := .tup [.str "end", .str "late", .str "mend", .str "pause", .str "guard", .str "give"]) ntp)
      replace hp := kn (u := .tup [.str "end", .str "late", .str "mend", .str "pause", .str "guard", .str "give"]) hp ntp
      replace s0 := s0.trans (same_ext (o := .tup [.str "end", .str "late", .str "mend", .str "pause", .str "guard", .str "give"]) ntp)
      revert L hp s0
      generalize upd G3 tp (.tup [.str "end", .str "late", .str "mend", .str "pause", .str "guard", .str "give"]) = G4
      intro L hp s0
      refine ifF (by decide +kernel) (ifF rfl ?_)
      refine ⟨_, rfl, by show 3 ≤ sizeLine; decide, fun tp ntp => ⟨tp, _, rfl, .inr (SqT.of upd_same), rfl, rfl, _, rfl, ?_⟩⟩
      replace L := L.same (same_ext (o := .tup [.str "end", .str "late", .str "mend"]) ntp)
      replace hp := kn (u := .tup [.str "end", .str "late", .str "mend"]) hp ntp
      replace s0 := s0.trans (same_ext (o := .tup [.str "end", .str "late", .str "mend"]) ntp)
      revert L hp s0
      generalize upd G4 tp (.tup [.str "end", .str "late", .str "mend"]) = G5
      intro L hp s0
      refine ifF (by decide +kernel) ?_
      refine ⟨_, rfl, by show 2 ≤ sizeLine; decide, fun tp ntp => ⟨tp, _, rfl, .inr (SqT.of upd_same), rfl, rfl, _, rfl, ?_⟩⟩
      replace L := L.same (same_ext (o := .tup [.str "pause", .str "guard"]) ntp)
      replace hp := kn (u := .tup [.str "pause", .str "guard"]) hp ntp
      replace s0 := s0.trans (same_ext (o := .tup [.str "pause", .str "guard"]) ntp)
      revert L hp s0
      generalize upd G5 tp (.tup [.str "pause", .str "guard"]) = G6
      intro L hp s0
      refine ifF (by decide +kernel) ⟨_, rfl, rfl, _, rfl, ifF rfl ?_⟩
      refine ⟨_, rfl, by show 5 ≤ sizeLine; decide, fun tp ntp => ⟨tp, _, rfl, .inr (SqT.of upd_same), rfl, rfl, _, rfl, ?_⟩⟩
      replace L := L.same (same_ext (o := .tup [.str "say", .str "wait", .str "open", .str "begin", .str "fail"]) ntp)
      replace hp := kn (u := .tup [.str "say", .str "wait", .str "open", .str "begin", .str "fail"]) hp ntp
      replace s0 := s0.trans (same_ext (o := .tup [.str "say", .str "wait", .str "open", .str "begin", .str "fail"]) ntp)
      revert L hp s0
      generalize upd G6 tp (.tup [.str "say", .str "wait", .str "open", .str "begin", .str "fail"]) = G7
      intro L hp s0
      refine ifF (by decide +kernel) ⟨_, rfl, rfl, _, rfl, ifF rfl ⟨_, rfl, rfl, _, rfl, ifF rfl ?_⟩⟩
      refine ⟨_, rfl, by show 2 ≤ sizeLine; decide, fun tp ntp => ⟨tp, _, rfl, .inr (SqT.of upd_same), rfl, rfl, _, rfl, ?_⟩⟩
      replace L := L.same (same_ext (o := .tup [.int 3, .int 4]) ntp)
      replace hp := kn (u := .tup [.int 3, .int 4]) hp ntp
      replace s0 := s0.trans (same_ext (o := .tup [.int 3, .int 4]) ntp)
      revert L hp s0
      generalize upd G7 tp (.tup [.int 3, .int 4]) = G8
      intro L hp s0
      refine ifF rfl ?_
      refine ⟨_, rfl, p, _, 1, _, rfl, rfl, SqL.of hp, atI_nat (j := 1) rfl, _, rfl, tl, .ref wl, rfl, dg L.e_tl rfl, wl, _, rfl, .inl (SqL.of L.e_wl), rfl, flat_strs' _, _, rfl, ifF (in_not hw) ?_⟩
      refine ⟨_, rfl, _, rfl, _, _, rfl, rfl, p, _, _, _, rfl, rfl, SqL.of hp, (show atI _ ((3 : Nat) : Int) = _ from atI_nat (j := 3) rfl), rfl, _, rfl, ifF (decide_eq_false hde) ?_⟩
      refine ⟨_, rfl, p, _, 2, _, rfl, rfl, SqL.of hp, atI_nat (j := 2) rfl, by show 3 ≤ sizeLine; decide, fun tp ntp => ⟨tp, _, rfl, .inr (SqT.of upd_same), rfl, rfl, _, rfl, ifF (by cases how <;> decide +kernel) ?_⟩⟩
      replace L := L.same (same_ext (o := .tup [.str "closed", .str "dropped", .str "kept"]) ntp)
      replace hp := kn (u := .tup [.str "closed", .str "dropped", .str "kept"]) hp ntp
      replace s0 := s0.trans (same_ext (o := .tup [.str "closed", .str "dropped", .str "kept"]) ntp)
      revert L hp s0
      generalize upd G8 tp (.tup [.str "closed", .str "dropped", .str "kept"]) = G9
      intro L hp s0
      refine ⟨_, rfl, rfl, _, rfl, ifT rfl ⟨_, rfl, p, _, 3, _, rfl, rfl, SqL.of hp, atI_nat (j := 3) rfl, "123456789", rfl, by show 9 ≤ sizeLine; decide, fun lp nlp => ⟨lp, _, rfl, .inl (SqL.of upd_same), rfl, flat_strs' _, _, rfl, ifF (by rw [sgn_digs]; exact not_digs hd) ?_⟩⟩⟩
      replace L := L.same (same_ext (o := .lst ((sgn "123456789").map V.str)) nlp)
      replace hp := kn (u := .lst ((sgn "123456789").map V.str)) hp nlp
      replace s0 := s0.trans (same_ext (o := .lst ((sgn "123456789").map V.str)) nlp)
      refine ⟨_, rfl, p, _, 2, _, rfl, rfl, SqL.of hp, atI_nat (j := 2) rfl, rfl, _, rfl, ?_⟩
      by_cases hkp : how = .kept
      · subst hkp
        obtain ⟨⟨x, hcur⟩, hno⟩ := hk rfl
        obtain ⟨a0, h0, e0⟩ := L.first (bks_some hcur)
        refine ifT rfl ⟨_, rfl, sl, _, 0, _, rfl, rfl, SqL.of L.e_sl, atI_nat (j := 0) h0, a0, _, 0, _, rfl, rfl, SqT.of e0, atI_nat (j := 0) rfl, rfl, _, rfl, ifF rfl ?_⟩
        refine ⟨_, rfl, p, _, 1, _, rfl, rfl, SqL.of hp, atI_nat (j := 1) rfl, by show 3 ≤ sizeLine; decide, fun p5 np5 => ⟨_, rfl, .tuple ((["each", wk, "kept"] : List Str).map PyData.str), (bks s).map entD, .tup (SqT.of upd_same) (dpS ["each", wk, "kept"]), (L.same (same_ext np5)).dp, shapedT (fun t ht => ?_), L.shaped, q_of (not_ent fun k hk => ?_) (q _ (s0.trans (same_ext np5)))⟩⟩
        · simp only [List.mem_cons, List.not_mem_nil, or_false] at ht
          rcases ht with rfl | rfl | rfl
          · decide +kernel
          · exact strOk_nm hnm
          · decide +kernel
        · rcases bks_mem hk with ⟨w1, x1, rfl⟩ | ⟨b1, hb1, rfl⟩
          · exact fun z => by cases (List.cons.inj (List.cons.inj z).2).2
          · cases b1 with
            | each w1 h1 =>
              intro z
              have z1 := (List.cons.inj z).2
              have z2 : w1 = wk := (List.cons.inj z1).1
              have z3 : h1.word = "kept" := (List.cons.inj (List.cons.inj z1).2).1
              have z4 : h1 = .kept := by cases h1 <;> first | rfl | exact absurd z3 (by decide)
              subst z2 z4
              exact hno hb1
            | rep d => exact fun z => by cases (List.cons.inj (List.cons.inj z).2).2
            | _ => exact fun z => by cases (List.cons.inj z).2
      · exact ifF (by cases how <;> first | rfl | exact absurd rfl hkp) (q _ s0)
end
end K8
set_option Elab.async false
set_option linter.all false
set_option maxRecDepth 100000
set_option maxHeartbeats 4000000
/-! The law's own reader: _law_read_due. -/
namespace K8
open PySem PyProof.Rows L2
theorem pg_tupK {X : Cx} {K : PySem.W.Frag} {n : Nat} {es : List Expr} {k : Nat} {t : TGs} {pos : Pos} (hK : X.K = K) (hc : X.calm = true) (h : PGs X es t) (hn : (assignEach es X.env).length = n := by rfl) (hst : (assignEach es X.env).findIdx? (·.1) = none := by rfl) : PG X (.Tuple es k pos) (gTup K n t) := by
  subst hK
  exact pg_tup hc h hn hst
structure LR (H0 H : Hp) (s : S) (sl tl wl jl bg : Addr) (as : List Addr) : Prop where
  L : LSt H s sl tl wl jl bg as
  sm : Same H0 H
  f1 : H0 sl = none
  f2 : H0 wl = none
  f3 : H0 jl = none
  f4 : H0 bg = none
  n1 : sl ≠ wl
  n2 : sl ≠ jl
  n3 : sl ≠ bg
  n4 : wl ≠ jl
  n5 : wl ≠ bg
  n6 : jl ≠ bg
section
variable {H0 H H' : Hp} {s s' : S} {sl tl wl jl bg a : Addr} {as : List Addr} {k : BK}
theorem LR.same (h : LR H0 H s sl tl wl jl bg as) (q : Same H H') : LR H0 H' s sl tl wl jl bg as := { h with L := h.L.same q, sm := h.sm.trans q }
theorem LR.like (h : LR H0 H s sl tl wl jl bg as) (e : bks s' = bks s) (ew : s'.walks = s.walks) (ej : s'.jobs = s.jobs) (eb : s'.begun = s.begun) : LR H0 H s' sl tl wl jl bg as :=
  { h with L := { e_sl := h.L.e_sl, len := by rw [e]; exact h.L.len, ent := by rw [e]; exact h.L.ent, e_tl := h.L.e_tl, e_wl := by rw [ew]; exact h.L.e_wl, e_jl := by rw [ej]; exact h.L.e_jl, e_bg := by rw [eb]; exact h.L.e_bg, ok := by rw [e]; exact h.L.ok } }
theorem LR.push (h : LR H0 H s sl tl wl jl bg as) (ea : H a = some (.tup (k.ent.map V.str))) (hk : ∀ t ∈ k.ent, PyData.strOk t = true) (e : bks s' = bks s ++ [k]) (ew : s'.walks = s.walks) (ej : s'.jobs = s.jobs) (eb : s'.begun = s.begun) : LR H0 (upd H sl (.lst ((as ++ [a]).map V.ref))) s' sl tl wl jl bg (as ++ [a]) := by
  have tn : ∀ {b : Addr} {l : List V}, H b = some (.tup l) → b ≠ sl := fun eb z => by rw [z, h.L.e_sl] at eb; cases eb
  refine { h with sm := same_put h.sm h.f1, L := ⟨upd_same, ?_, fun j k' b q1 q2 => ?_, ku h.L.e_tl (nDL h.L.e_tl h.L.e_sl), ?_, ?_, ?_, fun k' hk' t ht => ?_⟩ }
  · rw [e, List.length_append, List.length_append, h.L.len]; rfl
  · rw [e] at q1
    rcases snoc_at q1 with ⟨l1, q1⟩ | ⟨l1, rfl⟩ <;> rcases snoc_at q2 with ⟨l2, q2⟩ | ⟨l2, rfl⟩
    · exact ku (h.L.ent j k' b q1 q2) (tn (h.L.ent j k' b q1 q2))
    · exact absurd l1 (by rw [← h.L.len]; omega)
    · exact absurd l2 (by rw [h.L.len]; omega)
    · exact ku ea (tn ea)
  · rw [ew]; exact ku h.L.e_wl h.n1.symm
  · rw [ej]; exact ku h.L.e_jl h.n2.symm
  · rw [eb]; exact ku h.L.e_bg h.n3.symm
  · rw [e] at hk'
    rcases List.mem_append.mp hk' with z | z
    · exact h.L.ok k' z t ht
    · rw [List.mem_singleton.mp z] at ht; exact hk t ht
theorem LR.pop (h : LR H0 H s sl tl wl jl bg (as ++ [a])) (e : bks s = bks s' ++ [k]) (ew : s'.walks = s.walks) (ej : s'.jobs = s.jobs) (eb : s'.begun = s.begun) : LR H0 (upd H sl (.lst (as.map V.ref))) s' sl tl wl jl bg as := by
  have tn : ∀ {b : Addr} {l : List V}, H b = some (.tup l) → b ≠ sl := fun eb z => by rw [z, h.L.e_sl] at eb; cases eb
  refine { h with sm := same_put h.sm h.f1, L := ⟨upd_same, ?_, fun j k' b q1 q2 => ?_, ku h.L.e_tl (nDL h.L.e_tl h.L.e_sl), ?_, ?_, ?_, fun k' hk' t ht => ?_⟩ }
  · have q := h.L.len
    rw [e, List.length_append, List.length_append] at q
    exact Nat.succ.inj q
  · have z := h.L.ent j k' b (by rw [e, List.getElem?_append_left (List.getElem?_eq_some_iff.mp q1).1]; exact q1) (by rw [List.getElem?_append_left (List.getElem?_eq_some_iff.mp q2).1]; exact q2)
    exact ku z (tn z)
  · rw [ew]; exact ku h.L.e_wl h.n1.symm
  · rw [ej]; exact ku h.L.e_jl h.n2.symm
  · rw [eb]; exact ku h.L.e_bg h.n3.symm
  · exact h.L.ok k' (by rw [e]; exact List.mem_append_left _ hk') t ht
theorem LR.beg (h : LR H0 H s sl tl wl jl bg as) (x : Str) (e : bks s' = bks s) (ew : s'.walks = s.walks) (ej : s'.jobs = s.jobs) (eb : s'.begun = s.begun ++ [x]) : LR H0 (upd H bg (.lst (s.begun.map V.str ++ [.str x]))) s' sl tl wl jl bg as :=
  have tn : ∀ {b : Addr} {l : List V}, H b = some (.tup l) → b ≠ bg := fun eb z => by rw [z, h.L.e_bg] at eb; cases eb
  { h with sm := same_put h.sm h.f4, L := { e_sl := ku h.L.e_sl h.n3, len := by rw [e]; exact h.L.len, ent := (fun j k' b q1 q2 => by
      rw [e] at q1
      exact ku (h.L.ent j k' b q1 q2) (tn (h.L.ent j k' b q1 q2))), e_tl := ku h.L.e_tl (nDL h.L.e_tl h.L.e_bg), e_wl := by rw [ew]; exact ku h.L.e_wl h.n5, e_jl := by rw [ej]; exact ku h.L.e_jl h.n6, e_bg := by rw [eb, upd_same]; show _ = some (HO.lst (List.map V.str (s.begun ++ [x]))); rw [List.map_append]; rfl, ok := by rw [e]; exact h.L.ok } }
theorem LR.tellW (h : LR H0 H s sl tl wl jl bg as) (x : Str) (e : bks s' = bks s) (ew : s'.walks = s.walks ++ [x]) (ej : s'.jobs = s.jobs) (eb : s'.begun = s.begun) : LR H0 (upd H wl (.lst (s.walks.map V.str ++ [.str x]))) s' sl tl wl jl bg as :=
  have tn : ∀ {b : Addr} {l : List V}, H b = some (.tup l) → b ≠ wl := fun eb z => by rw [z, h.L.e_wl] at eb; cases eb
  { h with sm := same_put h.sm h.f2, L := { e_sl := ku h.L.e_sl h.n1, len := by rw [e]; exact h.L.len, ent := (fun j k' b q1 q2 => by
      rw [e] at q1
      exact ku (h.L.ent j k' b q1 q2) (tn (h.L.ent j k' b q1 q2))), e_tl := ku h.L.e_tl (nDL h.L.e_tl h.L.e_wl), e_wl := by rw [ew, upd_same]; show _ = some (HO.lst (List.map V.str (s.walks ++ [x]))); rw [List.map_append]; rfl, e_jl := by rw [ej]; exact ku h.L.e_jl h.n4.symm, e_bg := by rw [eb]; exact ku h.L.e_bg h.n5.symm, ok := by rw [e]; exact h.L.ok } }
theorem LR.tellJ (h : LR H0 H s sl tl wl jl bg as) (x : Str) (e : bks s' = bks s) (ew : s'.walks = s.walks) (ej : s'.jobs = s.jobs ++ [x]) (eb : s'.begun = s.begun) : LR H0 (upd H jl (.lst (s.jobs.map V.str ++ [.str x]))) s' sl tl wl jl bg as :=
  have tn : ∀ {b : Addr} {l : List V}, H b = some (.tup l) → b ≠ jl := fun eb z => by rw [z, h.L.e_jl] at eb; cases eb
  { h with sm := same_put h.sm h.f3, L := { e_sl := ku h.L.e_sl h.n2, len := by rw [e]; exact h.L.len, ent := (fun j k' b q1 q2 => by
      rw [e] at q1
      exact ku (h.L.ent j k' b q1 q2) (tn (h.L.ent j k' b q1 q2))), e_tl := ku h.L.e_tl (nDL h.L.e_tl h.L.e_jl), e_wl := by rw [ew]; exact ku h.L.e_wl h.n4, e_jl := by rw [ej, upd_same]; show _ = some (HO.lst (List.map V.str (s.jobs ++ [x]))); rw [List.map_append]; rfl, e_bg := by rw [eb]; exact ku h.L.e_bg h.n6.symm, ok := by rw [e]; exact h.L.ok } }
end
theorem upd_id {H : Hp} {a : Addr} {o : HO} (h : H a = some o) : upd H a o = H := by
  funext b
  by_cases z : b = a
  · rw [z, upd_same, h]
  · rw [upd_ne z]
theorem in_yes {x : Str} {l : List Str} (h : x ∉ l) : (if true = true then !inV (.str x) (l.map V.str) else inV (.str x) (l.map V.str)) = true := by
  rw [in_strs, decide_eq_false h]; rfl
theorem np_false {as : List Addr} {r : Row} (e : some (HO.lst (as.map V.ref)) = some (lstS r.parts)) : False := by
  injection e with e
  injection e with e
  cases h : r.parts with
  | nil => exact parts_ne r h
  | cons a b =>
    rw [h] at e
    cases as with
    | nil => cases e
    | cons c d => cases (List.cons.inj e).1
theorem ok_guard : ∀ t ∈ (BK.inn .guard).ent, PyData.strOk t = true := by decide +kernel
theorem ok_rep {d : Str} (h : d ∈ digs) : ∀ t ∈ (BK.inn (.rep d)).ent, PyData.strOk t = true := fun t ht => by
  have z : ∀ d ∈ digs, PyData.strOk d = true := by decide +kernel
  simp only [BK.ent, List.mem_cons, List.not_mem_nil, or_false] at ht
  rcases ht with rfl | rfl
  · decide +kernel
  · exact z _ h
theorem ok_each {x : Str} (how : How) (h : Nm x) : ∀ t ∈ (BK.inn (.each x how)).ent, PyData.strOk t = true := fun t ht => by
  simp only [BK.ent, List.mem_cons, List.not_mem_nil, or_false] at ht
  rcases ht with rfl | rfl | rfl
  · decide +kernel
  · exact strOk_nm h
  · exact strOk_how how
theorem ok_defn (w : Bool) {x : Str} (h : Nm x) : ∀ t ∈ (BK.defn w x).ent, PyData.strOk t = true := fun t ht => by
  simp only [BK.ent, List.mem_cons, List.not_mem_nil, or_false] at ht
  rcases ht with rfl | rfl
  · cases w <;> decide +kernel
  · exact strOk_nm h
theorem bks_def {s : S} (w : Bool) (x : Str) (hc : s.cur = none) (hi : s.inner = []) : bks { s with cur := some (w, x) } = bks s ++ [.defn w x] := by
  rw [bks_none hc, bks_some (s := { s with cur := some (w, x) }) rfl]
  show _ :: (s.inner.reverse.map BK.inn) = _
  rw [hi]
  rfl
section
variable {P : Program} {w : World} {K : PySem.W.Frag} {mg : Str → Option Value} {base : Heap} {f : Addr} {fd : FuncData}
abbrev sLdue : Stmt := top 41
theorem scLdue : FnScope ["_law_text", "_law_stack", "_law_told", "_law_begun", "_law_deepest", "_law_rows_here", "_law_at", "_law_row_here", "_law_parts", "_law_gone", "_law_name", "_law_sizes", "_law_word", "_law_is_so"] ["_law_text"] (defScope sLdue) := ⟨rfl, rfl, rfl, by decide +kernel, rfl, by decide +kernel, by decide +kernel⟩
/-- what is due -/
def spLdue : Sp := fun vs H Q _ => ∃ (rs : List Row) (s' : S), vs = [.str (rowsText rs)] ∧ rs ≠ [] ∧ rs.length ≤ 100 ∧ Run {} rs s' ∧
  (s'.cur ≠ none → ∀ p H', Same H H' → H' p = some (.tup [.str "row", .int rs.length]) → Q (.ref p) H') ∧
  (s'.cur = none → ∀ pre x post, ("main" : Str) :: s'.begun = pre ++ x :: post → (∀ y ∈ pre, y ∈ s'.jobs) → x ∉ s'.jobs → ∀ p H', Same H H' → H' p = some (.tup [.str "unknown", .str x]) → Q (.ref p) H') ∧
  (s'.cur = none → (∀ x ∈ ("main" : Str) :: s'.begun, x ∈ s'.jobs) → s'.jobs.length ≤ 6 ∧ s'.walks.length ≤ 6 ∧ s'.deepest ≤ 6 ∧ ∀ p H', Same H H' → H' p = some (.tup [.str "many", .str "none"]) → Q (.ref p) H')
theorem ok_ldue (F : Fun K "_law_read_due" "_law_read_due" sLdue f fd) (c_is_bad : C8.Cal P w K mg base 2 "_law_is_bad" spLbad []) (m_len : mg "len" = none) (m_enumerate : mg "enumerate" = none) (m_tuple : mg "tuple" = none) (m_max : mg "max" = none) (m_int : mg "int" = none) : FnOk P w K mg base CX0 3 f fd ["_law_text"] spLdue := by
  refine F.ok scLdue (fun vs H Q E h => ?_) (fun cdv A outer s H vs Q E hr h => ?_)
  · obtain ⟨_, _, rfl, _⟩ := h
    rfl
  obtain ⟨rs, s', rfl, hne, hl, run, q1, q2, q3⟩ := h
  have nd := scLdue.nd
  have hu := hu_of hr
  refine ⟨_, (pss_cons (ps_asg (pe_tup (pa_cons (pe_lst pa_nil) (pa_cons (pe_disp (pps_cons pe_str (pe_lst pa_nil) (pps_cons pe_str (pe_lst pa_nil) pps_nil)) (by rfl) (by rfl) (fun z => by cases z) (by decide)) (pa_cons (pe_lst pa_nil) (pa_cons pe_int (pa_cons (pe_split (pv 0) pe_str) pa_nil)))))) (pg_tup rfl (pgs_cons (pg_name (i := 1) nd rfl (.inl rfl)) (pgs_cons (pg_name (i := 2) nd rfl (.inl rfl)) (pgs_cons (pg_name (i := 3) nd rfl (.inl rfl)) (pgs_cons (pg_name (i := 4) nd rfl (.inl rfl)) (pgs_cons (pg_name (i := 5) nd rfl (.inl rfl)) pgs_nil)))))))
    (pss_cons (ps_for PassesOwn.never rfl (pi_enum (by rfl) m_enumerate (pa_cons (pv 5) pa_nil)) (pg_tup rfl (pgs_cons (pg_name (i := 6) nd rfl (.inl rfl)) (pgs_cons (pg_name (i := 7) nd rfl (.inl rfl)) pgs_nil)))
    (pss_cons (ps_set (i := 8) nd rfl (.inl rfl) (pe_split (pv 7) pe_str))
    (pss_cons (ps_if (pt_val (C8.pe_c c_is_bad hr (by omega) rfl (pa_cons (pv 1) (pa_cons (pv 2) (pa_cons (pv 8) pa_nil))))) (pss_one (ps_ret (pe_tup (pa_cons pe_str (pa_cons (pv 6) pa_nil))))) pss_nil)
    (pss_cons (ps_if (pt_cmpR op_eq (pe_ix ix_list (pv 8) pe_int (fun _ _ => rfl)) pe_str (nomark _)) (pss_one (ps_expr (pe_bm PySem.F.plainAttrs_list PySem.F.slot_list_append PySem.F.type_list_append mt_append (pv 3) (pa_cons (pe_ix ix_list (pv 8) pe_int (fun _ _ => rfl)) pa_nil)))) pss_nil)
    (pss_cons (ps_if (pt_cmpR op_in_seq (pe_ix ix_list (pv 8) pe_int (fun _ _ => rfl)) (pe_tup (pa_cons pe_str (pa_cons pe_str (pa_cons pe_str (pa_cons pe_str (pa_cons pe_str pa_nil)))))) (by rfl)) (pss_cons (ps_expr (pe_bm PySem.F.plainAttrs_list PySem.F.slot_list_append PySem.F.type_list_append mt_append (pv 1) (pa_cons (pe_callTy call_tuple_of (by rfl) m_tuple (by decide +kernel) (pa_cons (pe_slice sl_list (pv 8) po_none (po_some pe_int)) pa_nil)) pa_nil)))
    (pss_one (ps_set (i := 4) nd rfl (.inl rfl) (pe_callB (call_max2 rfl) (by rfl) m_max (by decide +kernel) (pa_cons (pv 4) (pa_cons (pe_op op_sub (pe_callB call_len_seq (by rfl) m_len (by decide +kernel) (pa_cons (pv 1) pa_nil)) pe_int) pa_nil)))))) pss_nil)
    (pss_one (ps_if (pt_cmpR op_in_seq (pe_ix ix_list (pv 8) pe_int (fun _ _ => rfl)) (pe_tup (pa_cons pe_str (pa_cons pe_str (pa_cons pe_str pa_nil)))) (by rfl)) (pss_cons (ps_set (i := 9) nd rfl (.inl rfl) (pe_bm0 PySem.F.plainAttrs_list PySem.F.slot_list_pop PySem.F.type_list_pop mt_pop (pv 1)))
    (pss_cons (ps_expr (pe_bm PySem.F.plainAttrs_list PySem.F.slot_list_extend PySem.F.type_list_extend mt_extend (pv 1) (pa_cons (pe_op op_rep (pe_lst (pa_cons (pe_tup (pa_cons (pe_ix ix_list (pv 8) pe_int (fun _ _ => rfl)) pa_nil)) pa_nil)) (pe_callTy call_int1 (by rfl) m_int (by decide +kernel) (pa_cons (pe_cmpR op_ne (pe_ix ix_list (pv 8) pe_int (fun _ _ => rfl)) pe_str (nomark _)) pa_nil))) pa_nil)))
    (pss_one (ps_if (pt_cmpR (op_eqE hr.units0) (pv 1) (pe_lst pa_nil) (nomark _)) (pss_one (ps_expr (pe_bm PySem.F.plainAttrs_list PySem.F.slot_list_append PySem.F.type_list_append mt_append (pe_dget hu (pv 2) (pe_ix ix_tup (pv 9) pe_int (fun _ _ => rfl)) (fun _ _ => rfl)) (pa_cons (pe_ix ix_tup (pv 9) pe_int (fun _ _ => rfl)) pa_nil)))) pss_nil)))) pss_nil)))))))
    (pss_cons (ps_if (pt_cmpR (op_neE hr.units0) (pv 1) (pe_lst pa_nil) (nomark _)) (pss_one (ps_ret (pe_tup (pa_cons pe_str (pa_cons (pe_callB call_len_seq (by rfl) m_len (by decide +kernel) (pa_cons (pv 5) pa_nil)) pa_nil))))) pss_nil)
    (pss_cons (ps_for PassesOwn.never rfl (pi_list (pe_op op_cat (pe_lst (pa_cons pe_str pa_nil)) (pv 3))) (pg_name (i := 10) nd rfl (.inl rfl))
    (pss_one (ps_if (pt_cmpR op_notIn_seq (pv 10) (pe_dget hu (pv 2) pe_str (fun _ _ => rfl)) (by rfl)) (pss_one (ps_ret (pe_tup (pa_cons pe_str (pa_cons (pv 10) pa_nil))))) pss_nil)))
    (pss_cons (ps_set (i := 11) nd rfl (.inl rfl) (pe_lst (pa_cons (pe_tup (pa_cons pe_str (pa_cons (pe_cmpR op_gt (pe_callB call_len_seq (by rfl) m_len (by decide +kernel) (pa_cons (pv 5) pa_nil)) pe_int (nomark _)) pa_nil))) (pa_cons (pe_tup (pa_cons pe_str (pa_cons (pe_cmpR op_gt (pe_callB call_len_seq (by rfl) m_len (by decide +kernel) (pa_cons (pe_dget hu (pv 2) pe_str (fun _ _ => rfl)) pa_nil)) pe_int (nomark _)) pa_nil))) (pa_cons (pe_tup (pa_cons pe_str (pa_cons (pe_cmpR op_gt (pe_callB call_len_seq (by rfl) m_len (by decide +kernel) (pa_cons (pe_dget hu (pv 2) pe_str (fun _ _ => rfl)) pa_nil)) pe_int (nomark _)) pa_nil))) pa_nil)))))
    (pss_cons (ps_expr (pe_bm PySem.F.plainAttrs_list PySem.F.slot_list_append PySem.F.type_list_append mt_append (pv 11) (pa_cons (pe_tup (pa_cons pe_str (pa_cons (pe_cmpR op_gt (pv 4) pe_int (nomark _)) pa_nil))) pa_nil)))
    (pss_one (ps_ret (pe_ix ix_list (pe_lc  (own := [("_law_word", 12), ("_law_is_so", 13)]) (g := gTup K 2 (gCons (gName 12) (gCons (gName 13) gNil))) rfl nd (pi_list (pe_op op_cat (pv 11) (pe_lst (pa_cons (pe_tup (pa_cons pe_str (pa_cons pe_bl pa_nil))) pa_nil)))) (blkOk_by (own := [("_law_word", 12), ("_law_is_so", 13)]) (N := ["_law_text", "_law_stack", "_law_told", "_law_begun", "_law_deepest", "_law_rows_here", "_law_at", "_law_row_here", "_law_parts", "_law_gone", "_law_name", "_law_sizes", "_law_word", "_law_is_so"]) (sc := defScope (top 41)) (by decide +kernel)) (fun _ _ _ _ _ => (K8.pg_tupK (K := K) (n := 2) rfl rfl (pgs_cons (pg_name (i := 12) nd rfl (.inl rfl)) (pgs_cons (pg_name (i := 13) nd rfl (.inl rfl)) pgs_nil)))) (fun _ _ _ _ _ => (pts_one (pt_val (pv 13)))) (fun _ _ _ _ _ => (pe_tup (pa_cons pe_str (pa_cons (pv 12) pa_nil))))) pe_int (fun _ _ => rfl)))))))))), ?_⟩
  have hok := run.ok
  have hs : Txt.split (rowsText rs) "\n" = rs.map Row.text := split_rows hne hok
  have hlen := rows_len hok
  refine ⟨by show 0 ≤ sizeLine; decide, fun sl nsl => fun tl ntl => ⟨by show 0 ≤ sizeLine; decide, fun wl nwl => ⟨by show 0 ≤ sizeLine; decide, fun jl njl => ⟨kn (kn upd_same nwl) njl, [(.inr "walk", .ref wl), (.inr "job", .ref jl)], rfl, by show 2 ≤ 15; decide, by show 0 ≤ sizeLine; decide, fun bg nbg => ⟨_, rfl, ⟨_, rfl⟩, rowsText rs, "\n", rfl, rfl, by decide +kernel, ?_, fun rl nrl => ⟨by show 5 ≤ sizeLine; decide, fun tp ntp => ⟨tp, _, rfl, SqT.of upd_same, rfl, _, _, rfl, _, _, rfl, _, _, rfl, _, _, rfl, _, _, rfl, rfl, ?_⟩⟩⟩⟩⟩⟩⟩
  · rw [sizeLine_eq]
    have : (rowsText rs).length ≤ rs.length * 37 := hlen
    omega
  rw [hs] at ntp ⊢
  have b1 := fr nbg
  have b2 := fr b1.1
  have b3 := fr b2.1
  have b4 := fr b3.1
  have b5 := fr b4.1
  have r0 := fr nrl
  have r1 := fr r0.1
  have r2 := fr r1.1
  have r3 := fr r2.1
  have r4 := fr r3.1
  have r5 := fr r4.1
  have w1 := fr nwl
  have w2 := fr w1.1
  have j1 := fr njl
  have j2 := fr j1.1
  have j3 := fr j2.1
  have nslt : sl ≠ tl := ne_of_none upd_same ntl
  have nH : Same H (upd (upd (upd (upd (upd (upd (upd (upd H sl (.lst [])) tl (.dK [])) wl (.lst [])) jl (.lst [])) tl (.dK (mergeK [] [(.inr "walk", .ref wl), (.inr "job", .ref jl)]))) bg (.lst [])) rl (.lst ((rs.map Row.text).map V.str))) tp (.tup [.ref sl, .ref tl, .ref bg, .int 0, .ref rl])) := same_new (same_put (same_put (same_put (same_put (same_put (same_put (same_put (Same.refl H) nsl) (fr ntl).1) w2.1) j3.1) (fr ntl).1) b5.1) r5.1) ntp
  have erl : (upd (upd (upd (upd (upd (upd (upd (upd H sl (.lst [])) tl (.dK [])) wl (.lst [])) jl (.lst [])) tl (.dK (mergeK [] [(.inr "walk", .ref wl), (.inr "job", .ref jl)]))) bg (.lst [])) rl (.lst ((rs.map Row.text).map V.str))) tp (.tup [.ref sl, .ref tl, .ref bg, .int 0, .ref rl])) rl = some (.lst ((rs.map Row.text).map V.str)) := kn upd_same ntp
  have R : LR (upd H rl (.lst ((rs.map Row.text).map V.str))) (upd (upd (upd (upd (upd (upd (upd (upd H sl (.lst [])) tl (.dK [])) wl (.lst [])) jl (.lst [])) tl (.dK (mergeK [] [(.inr "walk", .ref wl), (.inr "job", .ref jl)]))) bg (.lst [])) rl (.lst ((rs.map Row.text).map V.str))) tp (.tup [.ref sl, .ref tl, .ref bg, .int 0, .ref rl])) {} sl tl wl jl bg [] := {
    L := { e_sl := kn (kn (kn (ku (kn (kn (kn upd_same ntl) nwl) njl) nslt) nbg) nrl) ntp, len := rfl, ent := fun j k a h => (nomatch h), e_tl := kn (kn (kn upd_same nbg) nrl) ntp, e_wl := kn (kn (kn (ku (kn upd_same njl) w1.2) nbg) nrl) ntp, e_jl := kn (kn (kn (ku upd_same j2.2) nbg) nrl) ntp, e_bg := kn (kn upd_same nrl) ntp, ok := fun k h => (nomatch h) }
    sm := fun c o hc => by
      by_cases z : c = rl
      · rw [z, upd_same] at hc
        rw [z, erl]
        exact hc
      · rw [upd_ne z] at hc
        exact nH _ _ hc
    f1 := by rw [upd_ne r5.2.symm]; exact nsl
    f2 := by rw [upd_ne r3.2.symm]; exact w2.1
    f3 := by rw [upd_ne r2.2.symm]; exact j3.1
    f4 := by rw [upd_ne r0.2.symm]; exact b5.1
    n1 := w2.2.symm
    n2 := j3.2.symm
    n3 := b5.2.symm
    n4 := j1.2.symm
    n5 := b3.2.symm
    n6 := b2.2.symm }
  have wk0 : Same H (upd H rl (.lst ((rs.map Row.text).map V.str))) := same_ext r5.1
  have el : (upd H rl (.lst ((rs.map Row.text).map V.str))) rl = some (.lst ((rs.map Row.text).map V.str)) := upd_same
  clear erl nH ntp nrl nbg njl nwl ntl nsl r0 r1 r2 r3 r4 r5 b1 b2 b3 b4 b5 w1 w2 j1 j2 j3 nslt
  revert R wk0 el
  generalize (upd (upd (upd (upd (upd (upd (upd (upd H sl (.lst [])) tl (.dK [])) wl (.lst [])) jl (.lst [])) tl (.dK (mergeK [] [(.inr "walk", .ref wl), (.inr "job", .ref jl)]))) bg (.lst [])) rl (.lst ((rs.map Row.text).map V.str))) tp (.tup [.ref sl, .ref tl, .ref bg, .int 0, .ref rl])) = G0
  generalize upd H rl (.lst ((rs.map Row.text).map V.str)) = HL
  intro R wk0 el
  refine ⟨_, rfl, rl, _, rfl, SqL.of (R.sm _ _ el), ?_⟩
  refine for_it (walk_enum (K := K) (a := rl) (xs := ((rs.map Row.text).map V.str))) (fun i σ H' => ∃ (t6 t7 t8 t9 t10 t11 t12 t13 : Option V) (s1 : S) (as : List Addr), σ = [some (.str (rowsText rs)), some (.ref sl), some (.ref tl), some (.ref bg), some (.int s1.deepest), some (.ref rl), t6, t7, t8, t9, t10, t11, t12, t13] ∧ LR HL H' s1 sl tl wl jl bg as ∧ Run s1 (rs.drop i) s' ∧ Good s1 ∧ as.length ≤ i ∧ s1.begun.length ≤ i ∧ s1.walks.length ≤ i ∧ s1.jobs.length ≤ i) ⟨_, _, _, _, _, _, _, _, {}, [], rfl, R, run, good0, Nat.le_refl _, Nat.le_refl _, Nat.le_refl _, Nat.le_refl _⟩ (fun i σ H' _ pv => ?_) (fun i x σ H3 H4 hi pv y => ?_) (fun σ H' pv => ?_)
  · obtain ⟨_, _, _, _, _, _, _, _, _, _, _, R1, _⟩ := pv
    exact SqL.of (R1.sm _ _ el)
  · obtain ⟨t6, t7, t8, t9, t10, t11, t12, t13, s1, as, rfl, R, rn, g1, las, lbe, lwa, ljo⟩ := pv
    obtain ⟨T, xx, yy, rfl, nT, rfl, e1, e2⟩ := y
    have hi' : i < rs.length := by rw [List.length_map, List.length_map] at hi; exact hi
    have ey : yy = .str rs[i].text := by
      have e2 : ((rs.map Row.text).map V.str)[i]? = some yy := e2
      rw [List.getElem?_map, List.getElem?_map, List.getElem?_eq_getElem hi'] at e2
      exact (Option.some.inj e2).symm
    have ex : xx = .int (i : Nat) := (Option.some.inj e1).symm
    subst ex ey
    have hrow : rs.drop i = rs[i] :: rs.drop (i + 1) := List.drop_eq_getElem_cons hi'
    have hro : rs[i].Ok := hok _ (List.getElem_mem hi')
    rw [hrow] at rn
    revert rn hro
    generalize rs[i] = row
    intro rn hro
    cases rn with
    | @cons _ s2 _ _ _ st rn =>
      have g2 := st.good g1
      refine ⟨T, _, rfl, SqT.of upd_same, rfl, _, _, rfl, _, _, rfl, rfl, ?_⟩
      refine ⟨_, rfl, ⟨_, rfl⟩, row.text, " ", rfl, rfl, by decide +kernel, ?_, fun p np => ?_⟩
      · have := text_len hro
        rw [sizeLine_eq]
        omega
      rw [split_text hro] at *
      have npb : bg ≠ p := ne_of_none ((R.same (same_ext (o := .tup [.int (i : Nat), .str row.text]) nT)).L.e_bg) np
      replace R := (R.same (same_ext (o := .tup [.int (i : Nat), .str row.text]) nT)).same (same_ext (o := .lst (row.parts.map V.str)) np)
      have ep : (upd (upd H3 T (.tup [.int (i : Nat), .str row.text])) p (.lst (row.parts.map V.str))) p = some (lstS row.parts) := upd_same
      clear np nT
      revert R ep
      generalize (upd (upd H3 T (.tup [.int (i : Nat), .str row.text])) p (.lst (row.parts.map V.str))) = G3
      intro R ep
      refine ⟨_, rfl, _, rfl, _, rfl, s1, s2, sl, tl, wl, jl, bg, p, as, row, rfl, R.L, ep, st, by omega, fun G4 s4 => ⟨_, rfl, iteF ?_⟩⟩
      replace R := R.same s4
      replace ep := s4 _ _ ep
      clear s4
      cases st with
      | pause hc =>
        refine ⟨_, rfl, p, _, 0, _, rfl, rfl, SqL.of ep, atI_nat (j := 0) rfl, rfl, _, rfl, (ifF rfl ?_)⟩
        refine ⟨_, rfl, p, _, 0, _, rfl, rfl, SqL.of ep, atI_nat (j := 0) rfl, by show 5 ≤ sizeLine; decide, fun tq ntq => ⟨tq, _, rfl, .inr (SqT.of upd_same), rfl, rfl, _, rfl, (ifF (by decide +kernel) ?_)⟩⟩
        replace R := R.same (same_ext (o := .tup [.str "walk", .str "job", .str "repeat", .str "guard", .str "each"]) ntq)
        replace ep := kn (u := .tup [.str "walk", .str "job", .str "repeat", .str "guard", .str "each"]) ep ntq
        revert R ep
        generalize upd G4 tq (.tup [.str "walk", .str "job", .str "repeat", .str "guard", .str "each"]) = G5
        intro R ep
        refine ⟨_, rfl, p, _, 0, _, rfl, rfl, SqL.of ep, atI_nat (j := 0) rfl, by show 3 ≤ sizeLine; decide, fun tq ntq => ⟨tq, _, rfl, .inr (SqT.of upd_same), rfl, rfl, _, rfl, (ifF (by decide +kernel) ?_)⟩⟩
        replace R := R.same (same_ext (o := .tup [.str "late", .str "mend", .str "end"]) ntq)
        replace ep := kn (u := .tup [.str "late", .str "mend", .str "end"]) ep ntq
        revert R ep
        generalize upd G5 tq (.tup [.str "late", .str "mend", .str "end"]) = G6
        intro R ep
        exact ⟨_, _, _, _, _, _, _, _, s1, as, rfl, R, rn, g2, (Nat.le_succ_of_le las), (Nat.le_succ_of_le lbe), (Nat.le_succ_of_le lwa), (Nat.le_succ_of_le ljo)⟩
      | give hc hlt =>
        refine ⟨_, rfl, p, _, 0, _, rfl, rfl, SqL.of ep, atI_nat (j := 0) rfl, rfl, _, rfl, (ifF rfl ?_)⟩
        refine ⟨_, rfl, p, _, 0, _, rfl, rfl, SqL.of ep, atI_nat (j := 0) rfl, by show 5 ≤ sizeLine; decide, fun tq ntq => ⟨tq, _, rfl, .inr (SqT.of upd_same), rfl, rfl, _, rfl, (ifF (by decide +kernel) ?_)⟩⟩
        replace R := R.same (same_ext (o := .tup [.str "walk", .str "job", .str "repeat", .str "guard", .str "each"]) ntq)
        replace ep := kn (u := .tup [.str "walk", .str "job", .str "repeat", .str "guard", .str "each"]) ep ntq
        revert R ep
        generalize upd G4 tq (.tup [.str "walk", .str "job", .str "repeat", .str "guard", .str "each"]) = G5
        intro R ep
        refine ⟨_, rfl, p, _, 0, _, rfl, rfl, SqL.of ep, atI_nat (j := 0) rfl, by show 3 ≤ sizeLine; decide, fun tq ntq => ⟨tq, _, rfl, .inr (SqT.of upd_same), rfl, rfl, _, rfl, (ifF (by decide +kernel) ?_)⟩⟩
        replace R := R.same (same_ext (o := .tup [.str "late", .str "mend", .str "end"]) ntq)
        replace ep := kn (u := .tup [.str "late", .str "mend", .str "end"]) ep ntq
        revert R ep
        generalize upd G5 tq (.tup [.str "late", .str "mend", .str "end"]) = G6
        intro R ep
        exact ⟨_, _, _, _, _, _, _, _, s1, as, rfl, R, rn, g2, (Nat.le_succ_of_le las), (Nat.le_succ_of_le lbe), (Nat.le_succ_of_le lwa), (Nat.le_succ_of_le ljo)⟩
      | @named k x hc nm =>
        cases k with
        | say =>
          refine ⟨_, rfl, p, _, 0, _, rfl, rfl, SqL.of ep, atI_nat (j := 0) rfl, rfl, _, rfl, (ifF rfl ?_)⟩
          refine ⟨_, rfl, p, _, 0, _, rfl, rfl, SqL.of ep, atI_nat (j := 0) rfl, by show 5 ≤ sizeLine; decide, fun tq ntq => ⟨tq, _, rfl, .inr (SqT.of upd_same), rfl, rfl, _, rfl, (ifF (by decide +kernel) ?_)⟩⟩
          replace R := R.same (same_ext (o := .tup [.str "walk", .str "job", .str "repeat", .str "guard", .str "each"]) ntq)
          replace ep := kn (u := .tup [.str "walk", .str "job", .str "repeat", .str "guard", .str "each"]) ep ntq
          revert R ep
          generalize upd G4 tq (.tup [.str "walk", .str "job", .str "repeat", .str "guard", .str "each"]) = G5
          intro R ep
          refine ⟨_, rfl, p, _, 0, _, rfl, rfl, SqL.of ep, atI_nat (j := 0) rfl, by show 3 ≤ sizeLine; decide, fun tq ntq => ⟨tq, _, rfl, .inr (SqT.of upd_same), rfl, rfl, _, rfl, (ifF (by decide +kernel) ?_)⟩⟩
          replace R := R.same (same_ext (o := .tup [.str "late", .str "mend", .str "end"]) ntq)
          replace ep := kn (u := .tup [.str "late", .str "mend", .str "end"]) ep ntq
          revert R ep
          generalize upd G5 tq (.tup [.str "late", .str "mend", .str "end"]) = G6
          intro R ep
          exact ⟨_, _, _, _, _, _, _, _, s1, as, rfl, R, rn, g2, (Nat.le_succ_of_le las), (Nat.le_succ_of_le lbe), (Nat.le_succ_of_le lwa), (Nat.le_succ_of_le ljo)⟩
        | fail =>
          refine ⟨_, rfl, p, _, 0, _, rfl, rfl, SqL.of ep, atI_nat (j := 0) rfl, rfl, _, rfl, (ifF rfl ?_)⟩
          refine ⟨_, rfl, p, _, 0, _, rfl, rfl, SqL.of ep, atI_nat (j := 0) rfl, by show 5 ≤ sizeLine; decide, fun tq ntq => ⟨tq, _, rfl, .inr (SqT.of upd_same), rfl, rfl, _, rfl, (ifF (by decide +kernel) ?_)⟩⟩
          replace R := R.same (same_ext (o := .tup [.str "walk", .str "job", .str "repeat", .str "guard", .str "each"]) ntq)
          replace ep := kn (u := .tup [.str "walk", .str "job", .str "repeat", .str "guard", .str "each"]) ep ntq
          revert R ep
          generalize upd G4 tq (.tup [.str "walk", .str "job", .str "repeat", .str "guard", .str "each"]) = G5
          intro R ep
          refine ⟨_, rfl, p, _, 0, _, rfl, rfl, SqL.of ep, atI_nat (j := 0) rfl, by show 3 ≤ sizeLine; decide, fun tq ntq => ⟨tq, _, rfl, .inr (SqT.of upd_same), rfl, rfl, _, rfl, (ifF (by decide +kernel) ?_)⟩⟩
          replace R := R.same (same_ext (o := .tup [.str "late", .str "mend", .str "end"]) ntq)
          replace ep := kn (u := .tup [.str "late", .str "mend", .str "end"]) ep ntq
          revert R ep
          generalize upd G5 tq (.tup [.str "late", .str "mend", .str "end"]) = G6
          intro R ep
          exact ⟨_, _, _, _, _, _, _, _, s1, as, rfl, R, rn, g2, (Nat.le_succ_of_le las), (Nat.le_succ_of_le lbe), (Nat.le_succ_of_le lwa), (Nat.le_succ_of_le ljo)⟩
        | wait =>
          refine ⟨_, rfl, p, _, 0, _, rfl, rfl, SqL.of ep, atI_nat (j := 0) rfl, rfl, _, rfl, (ifF rfl ?_)⟩
          refine ⟨_, rfl, p, _, 0, _, rfl, rfl, SqL.of ep, atI_nat (j := 0) rfl, by show 5 ≤ sizeLine; decide, fun tq ntq => ⟨tq, _, rfl, .inr (SqT.of upd_same), rfl, rfl, _, rfl, (ifF (by decide +kernel) ?_)⟩⟩
          replace R := R.same (same_ext (o := .tup [.str "walk", .str "job", .str "repeat", .str "guard", .str "each"]) ntq)
          replace ep := kn (u := .tup [.str "walk", .str "job", .str "repeat", .str "guard", .str "each"]) ep ntq
          revert R ep
          generalize upd G4 tq (.tup [.str "walk", .str "job", .str "repeat", .str "guard", .str "each"]) = G5
          intro R ep
          refine ⟨_, rfl, p, _, 0, _, rfl, rfl, SqL.of ep, atI_nat (j := 0) rfl, by show 3 ≤ sizeLine; decide, fun tq ntq => ⟨tq, _, rfl, .inr (SqT.of upd_same), rfl, rfl, _, rfl, (ifF (by decide +kernel) ?_)⟩⟩
          replace R := R.same (same_ext (o := .tup [.str "late", .str "mend", .str "end"]) ntq)
          replace ep := kn (u := .tup [.str "late", .str "mend", .str "end"]) ep ntq
          revert R ep
          generalize upd G5 tq (.tup [.str "late", .str "mend", .str "end"]) = G6
          intro R ep
          replace R := R.like (s' := s1.note .wait x) rfl rfl rfl rfl
          exact ⟨_, _, _, _, _, _, _, _, (s1.note .wait x), as, rfl, R, rn, g2, (Nat.le_succ_of_le las), (Nat.le_succ_of_le lbe), (Nat.le_succ_of_le lwa), (Nat.le_succ_of_le ljo)⟩
        | opn =>
          refine ⟨_, rfl, p, _, 0, _, rfl, rfl, SqL.of ep, atI_nat (j := 0) rfl, rfl, _, rfl, (ifF rfl ?_)⟩
          refine ⟨_, rfl, p, _, 0, _, rfl, rfl, SqL.of ep, atI_nat (j := 0) rfl, by show 5 ≤ sizeLine; decide, fun tq ntq => ⟨tq, _, rfl, .inr (SqT.of upd_same), rfl, rfl, _, rfl, (ifF (by decide +kernel) ?_)⟩⟩
          replace R := R.same (same_ext (o := .tup [.str "walk", .str "job", .str "repeat", .str "guard", .str "each"]) ntq)
          replace ep := kn (u := .tup [.str "walk", .str "job", .str "repeat", .str "guard", .str "each"]) ep ntq
          revert R ep
          generalize upd G4 tq (.tup [.str "walk", .str "job", .str "repeat", .str "guard", .str "each"]) = G5
          intro R ep
          refine ⟨_, rfl, p, _, 0, _, rfl, rfl, SqL.of ep, atI_nat (j := 0) rfl, by show 3 ≤ sizeLine; decide, fun tq ntq => ⟨tq, _, rfl, .inr (SqT.of upd_same), rfl, rfl, _, rfl, (ifF (by decide +kernel) ?_)⟩⟩
          replace R := R.same (same_ext (o := .tup [.str "late", .str "mend", .str "end"]) ntq)
          replace ep := kn (u := .tup [.str "late", .str "mend", .str "end"]) ep ntq
          revert R ep
          generalize upd G5 tq (.tup [.str "late", .str "mend", .str "end"]) = G6
          intro R ep
          replace R := R.like (s' := s1.note .opn x) rfl rfl rfl rfl
          exact ⟨_, _, _, _, _, _, _, _, (s1.note .opn x), as, rfl, R, rn, g2, (Nat.le_succ_of_le las), (Nat.le_succ_of_le lbe), (Nat.le_succ_of_le lwa), (Nat.le_succ_of_le ljo)⟩
        | begin =>
          have hbl : (s1.begun.map V.str).length < sizeLine := small1000 (by rw [List.length_map]; omega)
          refine ⟨_, rfl, p, _, 0, _, rfl, rfl, SqL.of ep, atI_nat (j := 0) rfl, rfl, _, rfl, (ifT rfl ?_)⟩
          refine ⟨_, rfl, .inl ⟨rfl, _, SqL.of R.L.e_bg⟩, _, rfl, p, _, 1, _, rfl, rfl, SqL.of ep, atI_nat (j := 1) rfl, bg, _, _, rfl, rfl, R.L.e_bg, hbl, ?_⟩
          replace R := R.beg (s' := s1.note .begin x) x rfl rfl rfl rfl
          replace ep := ku (u := .lst (s1.begun.map V.str ++ [.str x])) ep npb.symm
          revert R ep
          generalize upd G4 bg (.lst (s1.begun.map V.str ++ [.str x])) = G4'
          intro R ep
          refine ⟨_, rfl, p, _, 0, _, rfl, rfl, SqL.of ep, atI_nat (j := 0) rfl, by show 5 ≤ sizeLine; decide, fun tq ntq => ⟨tq, _, rfl, .inr (SqT.of upd_same), rfl, rfl, _, rfl, (ifF (by decide +kernel) ?_)⟩⟩
          replace R := R.same (same_ext (o := .tup [.str "walk", .str "job", .str "repeat", .str "guard", .str "each"]) ntq)
          replace ep := kn (u := .tup [.str "walk", .str "job", .str "repeat", .str "guard", .str "each"]) ep ntq
          revert R ep
          generalize upd G4' tq (.tup [.str "walk", .str "job", .str "repeat", .str "guard", .str "each"]) = G5
          intro R ep
          refine ⟨_, rfl, p, _, 0, _, rfl, rfl, SqL.of ep, atI_nat (j := 0) rfl, by show 3 ≤ sizeLine; decide, fun tq ntq => ⟨tq, _, rfl, .inr (SqT.of upd_same), rfl, rfl, _, rfl, (ifF (by decide +kernel) ?_)⟩⟩
          replace R := R.same (same_ext (o := .tup [.str "late", .str "mend", .str "end"]) ntq)
          replace ep := kn (u := .tup [.str "late", .str "mend", .str "end"]) ep ntq
          revert R ep
          generalize upd G5 tq (.tup [.str "late", .str "mend", .str "end"]) = G6
          intro R ep
          exact ⟨_, _, _, _, _, _, _, _, (s1.note .begin x), as, rfl, R, rn, g2, (Nat.le_succ_of_le las), (by show (s1.begun ++ [x]).length ≤ _; rw [List.length_append]; exact Nat.succ_le_succ lbe), (Nat.le_succ_of_le lwa), (Nat.le_succ_of_le ljo)⟩
      | @defn wk x hc hi nm hx =>
        refine ⟨_, rfl, p, _, 0, _, rfl, rfl, SqL.of ep, atI_nat (j := 0) rfl, rfl, _, rfl, (ifF (by cases wk <;> rfl) ?_)⟩
        refine ⟨_, rfl, p, _, 0, _, rfl, rfl, SqL.of ep, atI_nat (j := 0) rfl, by show 5 ≤ sizeLine; decide, fun tq ntq => ⟨tq, _, rfl, .inr (SqT.of upd_same), rfl, rfl, _, rfl, (ifT (by cases wk <;> decide +kernel) ?_)⟩⟩
        replace R := R.same (same_ext (o := .tup [.str "walk", .str "job", .str "repeat", .str "guard", .str "each"]) ntq)
        replace ep := kn (u := .tup [.str "walk", .str "job", .str "repeat", .str "guard", .str "each"]) ep ntq
        revert R ep
        generalize upd G4 tq (.tup [.str "walk", .str "job", .str "repeat", .str "guard", .str "each"]) = G5
        intro R ep
        have hsl : (as.map V.ref).length < sizeLine := small1000 (by rw [List.length_map]; omega)
        have e0 : as.length = 0 := by rw [R.L.len]; exact (by rw [bks_none hc]; rfl)
        refine ⟨_, rfl, .inl ⟨rfl, _, SqL.of R.L.e_sl⟩, _, rfl, 3, rfl, p, _, rfl, SqL.of ep, fun cp ncp => ⟨cp, _, rfl, .inl ⟨SqL.of upd_same, fun a na => ⟨sl, _, .ref a, rfl, rfl, kn (kn R.L.e_sl ncp) na, hsl, ?_⟩⟩⟩⟩
        have nep : p ≠ sl := fun z => by rw [z, R.L.e_sl] at ep; exact np_false ep
        have R1 := (R.same (same_ext (o := .lst (cutV ((Row.parts (.defn wk x)).map V.str) none (some 3))) ncp)).same (same_ext (o := .tup (cutV ((Row.parts (.defn wk x)).map V.str) none (some 3))) na)
        have R2 := R1.push (a := a) (k := (.defn wk x)) (s' := { s1 with cur := some (wk, x) }) (by rw [upd_same, show (some (3 : Int)) = some ((3 : Nat) : Int) from rfl, cut_to]; rfl) (ok_defn wk nm) (bks_def wk x hc hi) rfl rfl rfl
        have ep2 := ku (u := .lst ((as ++ [a]).map V.ref)) (kn (u := .tup (cutV ((Row.parts (.defn wk x)).map V.str) none (some 3))) (kn (u := .lst (cutV ((Row.parts (.defn wk x)).map V.str) none (some 3))) ep ncp) na) nep
        rw [show as.map V.ref ++ [V.ref a] = (as ++ [a]).map V.ref by simp]
        clear R R1 ep
        revert R2 ep2
        generalize upd (upd (upd G5 cp (.lst (cutV ((Row.parts (.defn wk x)).map V.str) none (some 3)))) a (.tup (cutV ((Row.parts (.defn wk x)).map V.str) none (some 3)))) sl (.lst ((as ++ [a]).map V.ref)) = G6
        intro R ep
        refine ⟨_, rfl, _, rfl, sl, _, rfl, .inl (SqL.of R.L.e_sl), _, _, rfl, rfl, _, _, rfl, ?_⟩
        have ed : (if (((as ++ [a]).map V.ref).length : Int) - 1 > (s1.deepest : Int) then (((as ++ [a]).map V.ref).length : Int) - 1 else (s1.deepest : Int)) = ((s1.deepest : Nat) : Int) := by
          rw [List.length_map, List.length_append, List.length_singleton, e0]
          split <;> omega
        rw [ed]
        refine ⟨_, rfl, p, _, 0, _, rfl, rfl, SqL.of ep, atI_nat (j := 0) rfl, by show 3 ≤ sizeLine; decide, fun tq ntq => ⟨tq, _, rfl, .inr (SqT.of upd_same), rfl, rfl, _, rfl, (ifF (by cases wk <;> decide +kernel) ?_)⟩⟩
        replace R := R.same (same_ext (o := .tup [.str "late", .str "mend", .str "end"]) ntq)
        replace ep := kn (u := .tup [.str "late", .str "mend", .str "end"]) ep ntq
        revert R ep
        generalize upd G6 tq (.tup [.str "late", .str "mend", .str "end"]) = G7
        intro R ep
        exact ⟨_, _, _, _, _, _, _, _, { s1 with cur := some (wk, x) }, (as ++ [a]), rfl, R, rn, g2, (by rw [List.length_append]; exact Nat.succ_le_succ las), (Nat.le_succ_of_le lbe), (Nat.le_succ_of_le lwa), (Nat.le_succ_of_le ljo)⟩
      | @rep d hc hd =>
        refine ⟨_, rfl, p, _, 0, _, rfl, rfl, SqL.of ep, atI_nat (j := 0) rfl, rfl, _, rfl, (ifF rfl ?_)⟩
        refine ⟨_, rfl, p, _, 0, _, rfl, rfl, SqL.of ep, atI_nat (j := 0) rfl, by show 5 ≤ sizeLine; decide, fun tq ntq => ⟨tq, _, rfl, .inr (SqT.of upd_same), rfl, rfl, _, rfl, (ifT (by decide +kernel) ?_)⟩⟩
        replace R := R.same (same_ext (o := .tup [.str "walk", .str "job", .str "repeat", .str "guard", .str "each"]) ntq)
        replace ep := kn (u := .tup [.str "walk", .str "job", .str "repeat", .str "guard", .str "each"]) ep ntq
        revert R ep
        generalize upd G4 tq (.tup [.str "walk", .str "job", .str "repeat", .str "guard", .str "each"]) = G5
        intro R ep
        have hsl : (as.map V.ref).length < sizeLine := small1000 (by rw [List.length_map]; omega)
        have e0 : as.length = (s1.inner.length + 1) := by rw [R.L.len]; exact (bks_len hc)
        refine ⟨_, rfl, .inl ⟨rfl, _, SqL.of R.L.e_sl⟩, _, rfl, 3, rfl, p, _, rfl, SqL.of ep, fun cp ncp => ⟨cp, _, rfl, .inl ⟨SqL.of upd_same, fun a na => ⟨sl, _, .ref a, rfl, rfl, kn (kn R.L.e_sl ncp) na, hsl, ?_⟩⟩⟩⟩
        have nep : p ≠ sl := fun z => by rw [z, R.L.e_sl] at ep; exact np_false ep
        have R1 := (R.same (same_ext (o := .lst (cutV ((Row.parts (.rep d)).map V.str) none (some 3))) ncp)).same (same_ext (o := .tup (cutV ((Row.parts (.rep d)).map V.str) none (some 3))) na)
        have R2 := R1.push (a := a) (k := (.inn (.rep d))) (s' := (s1.push (.rep d))) (by rw [upd_same, show (some (3 : Int)) = some ((3 : Nat) : Int) from rfl, cut_to]; rfl) (ok_rep hd) (bks_push s1 (.rep d) hc) rfl rfl rfl
        have ep2 := ku (u := .lst ((as ++ [a]).map V.ref)) (kn (u := .tup (cutV ((Row.parts (.rep d)).map V.str) none (some 3))) (kn (u := .lst (cutV ((Row.parts (.rep d)).map V.str) none (some 3))) ep ncp) na) nep
        rw [show as.map V.ref ++ [V.ref a] = (as ++ [a]).map V.ref by simp]
        clear R R1 ep
        revert R2 ep2
        generalize upd (upd (upd G5 cp (.lst (cutV ((Row.parts (.rep d)).map V.str) none (some 3)))) a (.tup (cutV ((Row.parts (.rep d)).map V.str) none (some 3)))) sl (.lst ((as ++ [a]).map V.ref)) = G6
        intro R ep
        refine ⟨_, rfl, _, rfl, sl, _, rfl, .inl (SqL.of R.L.e_sl), _, _, rfl, rfl, _, _, rfl, ?_⟩
        have ed : (if (((as ++ [a]).map V.ref).length : Int) - 1 > (s1.deepest : Int) then (((as ++ [a]).map V.ref).length : Int) - 1 else (s1.deepest : Int)) = (((max s1.deepest (s1.inner.length + 1)) : Nat) : Int) := by
          rw [List.length_map, List.length_append, List.length_singleton, e0]
          split <;> omega
        rw [ed]
        refine ⟨_, rfl, p, _, 0, _, rfl, rfl, SqL.of ep, atI_nat (j := 0) rfl, by show 3 ≤ sizeLine; decide, fun tq ntq => ⟨tq, _, rfl, .inr (SqT.of upd_same), rfl, rfl, _, rfl, (ifF (by decide +kernel) ?_)⟩⟩
        replace R := R.same (same_ext (o := .tup [.str "late", .str "mend", .str "end"]) ntq)
        replace ep := kn (u := .tup [.str "late", .str "mend", .str "end"]) ep ntq
        revert R ep
        generalize upd G6 tq (.tup [.str "late", .str "mend", .str "end"]) = G7
        intro R ep
        exact ⟨_, _, _, _, _, _, _, _, (s1.push (.rep d)), (as ++ [a]), rfl, R, rn, g2, (by rw [List.length_append]; exact Nat.succ_le_succ las), (Nat.le_succ_of_le lbe), (Nat.le_succ_of_le lwa), (Nat.le_succ_of_le ljo)⟩
      | guard hc =>
        refine ⟨_, rfl, p, _, 0, _, rfl, rfl, SqL.of ep, atI_nat (j := 0) rfl, rfl, _, rfl, (ifF rfl ?_)⟩
        refine ⟨_, rfl, p, _, 0, _, rfl, rfl, SqL.of ep, atI_nat (j := 0) rfl, by show 5 ≤ sizeLine; decide, fun tq ntq => ⟨tq, _, rfl, .inr (SqT.of upd_same), rfl, rfl, _, rfl, (ifT (by decide +kernel) ?_)⟩⟩
        replace R := R.same (same_ext (o := .tup [.str "walk", .str "job", .str "repeat", .str "guard", .str "each"]) ntq)
        replace ep := kn (u := .tup [.str "walk", .str "job", .str "repeat", .str "guard", .str "each"]) ep ntq
        revert R ep
        generalize upd G4 tq (.tup [.str "walk", .str "job", .str "repeat", .str "guard", .str "each"]) = G5
        intro R ep
        have hsl : (as.map V.ref).length < sizeLine := small1000 (by rw [List.length_map]; omega)
        have e0 : as.length = (s1.inner.length + 1) := by rw [R.L.len]; exact (bks_len hc)
        refine ⟨_, rfl, .inl ⟨rfl, _, SqL.of R.L.e_sl⟩, _, rfl, 3, rfl, p, _, rfl, SqL.of ep, fun cp ncp => ⟨cp, _, rfl, .inl ⟨SqL.of upd_same, fun a na => ⟨sl, _, .ref a, rfl, rfl, kn (kn R.L.e_sl ncp) na, hsl, ?_⟩⟩⟩⟩
        have nep : p ≠ sl := fun z => by rw [z, R.L.e_sl] at ep; exact np_false ep
        have R1 := (R.same (same_ext (o := .lst (cutV ((Row.parts .guard).map V.str) none (some 3))) ncp)).same (same_ext (o := .tup (cutV ((Row.parts .guard).map V.str) none (some 3))) na)
        have R2 := R1.push (a := a) (k := (.inn (.guard))) (s' := (s1.push (.guard))) (by rw [upd_same, show (some (3 : Int)) = some ((3 : Nat) : Int) from rfl, cut_to]; rfl) ok_guard (bks_push s1 (.guard) hc) rfl rfl rfl
        have ep2 := ku (u := .lst ((as ++ [a]).map V.ref)) (kn (u := .tup (cutV ((Row.parts .guard).map V.str) none (some 3))) (kn (u := .lst (cutV ((Row.parts .guard).map V.str) none (some 3))) ep ncp) na) nep
        rw [show as.map V.ref ++ [V.ref a] = (as ++ [a]).map V.ref by simp]
        clear R R1 ep
        revert R2 ep2
        generalize upd (upd (upd G5 cp (.lst (cutV ((Row.parts .guard).map V.str) none (some 3)))) a (.tup (cutV ((Row.parts .guard).map V.str) none (some 3)))) sl (.lst ((as ++ [a]).map V.ref)) = G6
        intro R ep
        refine ⟨_, rfl, _, rfl, sl, _, rfl, .inl (SqL.of R.L.e_sl), _, _, rfl, rfl, _, _, rfl, ?_⟩
        have ed : (if (((as ++ [a]).map V.ref).length : Int) - 1 > (s1.deepest : Int) then (((as ++ [a]).map V.ref).length : Int) - 1 else (s1.deepest : Int)) = (((max s1.deepest (s1.inner.length + 1)) : Nat) : Int) := by
          rw [List.length_map, List.length_append, List.length_singleton, e0]
          split <;> omega
        rw [ed]
        refine ⟨_, rfl, p, _, 0, _, rfl, rfl, SqL.of ep, atI_nat (j := 0) rfl, by show 3 ≤ sizeLine; decide, fun tq ntq => ⟨tq, _, rfl, .inr (SqT.of upd_same), rfl, rfl, _, rfl, (ifF (by decide +kernel) ?_)⟩⟩
        replace R := R.same (same_ext (o := .tup [.str "late", .str "mend", .str "end"]) ntq)
        replace ep := kn (u := .tup [.str "late", .str "mend", .str "end"]) ep ntq
        revert R ep
        generalize upd G6 tq (.tup [.str "late", .str "mend", .str "end"]) = G7
        intro R ep
        exact ⟨_, _, _, _, _, _, _, _, (s1.push (.guard)), (as ++ [a]), rfl, R, rn, g2, (by rw [List.length_append]; exact Nat.succ_le_succ las), (Nat.le_succ_of_le lbe), (Nat.le_succ_of_le lwa), (Nat.le_succ_of_le ljo)⟩
      | @each wk how t hc hnm hw ht hk =>
        cases t with
        | none =>
          refine ⟨_, rfl, p, _, 0, _, rfl, rfl, SqL.of ep, atI_nat (j := 0) rfl, rfl, _, rfl, (ifF rfl ?_)⟩
          refine ⟨_, rfl, p, _, 0, _, rfl, rfl, SqL.of ep, atI_nat (j := 0) rfl, by show 5 ≤ sizeLine; decide, fun tq ntq => ⟨tq, _, rfl, .inr (SqT.of upd_same), rfl, rfl, _, rfl, (ifT (by decide +kernel) ?_)⟩⟩
          replace R := R.same (same_ext (o := .tup [.str "walk", .str "job", .str "repeat", .str "guard", .str "each"]) ntq)
          replace ep := kn (u := .tup [.str "walk", .str "job", .str "repeat", .str "guard", .str "each"]) ep ntq
          revert R ep
          generalize upd G4 tq (.tup [.str "walk", .str "job", .str "repeat", .str "guard", .str "each"]) = G5
          intro R ep
          have hsl : (as.map V.ref).length < sizeLine := small1000 (by rw [List.length_map]; omega)
          have e0 : as.length = (s1.inner.length + 1) := by rw [R.L.len]; exact (bks_len hc)
          refine ⟨_, rfl, .inl ⟨rfl, _, SqL.of R.L.e_sl⟩, _, rfl, 3, rfl, p, _, rfl, SqL.of ep, fun cp ncp => ⟨cp, _, rfl, .inl ⟨SqL.of upd_same, fun a na => ⟨sl, _, .ref a, rfl, rfl, kn (kn R.L.e_sl ncp) na, hsl, ?_⟩⟩⟩⟩
          have nep : p ≠ sl := fun z => by rw [z, R.L.e_sl] at ep; exact np_false ep
          have R1 := (R.same (same_ext (o := .lst (cutV ((Row.parts (.each wk how none)).map V.str) none (some 3))) ncp)).same (same_ext (o := .tup (cutV ((Row.parts (.each wk how none)).map V.str) none (some 3))) na)
          have R2 := R1.push (a := a) (k := (.inn (.each wk how))) (s' := (s1.push (.each wk how))) (by rw [upd_same, show (some (3 : Int)) = some ((3 : Nat) : Int) from rfl, cut_to]; rfl) (ok_each how hnm) (bks_push s1 (.each wk how) hc) rfl rfl rfl
          have ep2 := ku (u := .lst ((as ++ [a]).map V.ref)) (kn (u := .tup (cutV ((Row.parts (.each wk how none)).map V.str) none (some 3))) (kn (u := .lst (cutV ((Row.parts (.each wk how none)).map V.str) none (some 3))) ep ncp) na) nep
          rw [show as.map V.ref ++ [V.ref a] = (as ++ [a]).map V.ref by simp]
          clear R R1 ep
          revert R2 ep2
          generalize upd (upd (upd G5 cp (.lst (cutV ((Row.parts (.each wk how none)).map V.str) none (some 3)))) a (.tup (cutV ((Row.parts (.each wk how none)).map V.str) none (some 3)))) sl (.lst ((as ++ [a]).map V.ref)) = G6
          intro R ep
          refine ⟨_, rfl, _, rfl, sl, _, rfl, .inl (SqL.of R.L.e_sl), _, _, rfl, rfl, _, _, rfl, ?_⟩
          have ed : (if (((as ++ [a]).map V.ref).length : Int) - 1 > (s1.deepest : Int) then (((as ++ [a]).map V.ref).length : Int) - 1 else (s1.deepest : Int)) = (((max s1.deepest (s1.inner.length + 1)) : Nat) : Int) := by
            rw [List.length_map, List.length_append, List.length_singleton, e0]
            split <;> omega
          rw [ed]
          refine ⟨_, rfl, p, _, 0, _, rfl, rfl, SqL.of ep, atI_nat (j := 0) rfl, by show 3 ≤ sizeLine; decide, fun tq ntq => ⟨tq, _, rfl, .inr (SqT.of upd_same), rfl, rfl, _, rfl, (ifF (by decide +kernel) ?_)⟩⟩
          replace R := R.same (same_ext (o := .tup [.str "late", .str "mend", .str "end"]) ntq)
          replace ep := kn (u := .tup [.str "late", .str "mend", .str "end"]) ep ntq
          revert R ep
          generalize upd G6 tq (.tup [.str "late", .str "mend", .str "end"]) = G7
          intro R ep
          exact ⟨_, _, _, _, _, _, _, _, (s1.push (.each wk how)), (as ++ [a]), rfl, R, rn, g2, (by rw [List.length_append]; exact Nat.succ_le_succ las), (Nat.le_succ_of_le lbe), (Nat.le_succ_of_le lwa), (Nat.le_succ_of_le ljo)⟩
        | some d =>
          refine ⟨_, rfl, p, _, 0, _, rfl, rfl, SqL.of ep, atI_nat (j := 0) rfl, rfl, _, rfl, (ifF rfl ?_)⟩
          refine ⟨_, rfl, p, _, 0, _, rfl, rfl, SqL.of ep, atI_nat (j := 0) rfl, by show 5 ≤ sizeLine; decide, fun tq ntq => ⟨tq, _, rfl, .inr (SqT.of upd_same), rfl, rfl, _, rfl, (ifT (by decide +kernel) ?_)⟩⟩
          replace R := R.same (same_ext (o := .tup [.str "walk", .str "job", .str "repeat", .str "guard", .str "each"]) ntq)
          replace ep := kn (u := .tup [.str "walk", .str "job", .str "repeat", .str "guard", .str "each"]) ep ntq
          revert R ep
          generalize upd G4 tq (.tup [.str "walk", .str "job", .str "repeat", .str "guard", .str "each"]) = G5
          intro R ep
          have hsl : (as.map V.ref).length < sizeLine := small1000 (by rw [List.length_map]; omega)
          have e0 : as.length = (s1.inner.length + 1) := by rw [R.L.len]; exact (bks_len hc)
          refine ⟨_, rfl, .inl ⟨rfl, _, SqL.of R.L.e_sl⟩, _, rfl, 3, rfl, p, _, rfl, SqL.of ep, fun cp ncp => ⟨cp, _, rfl, .inl ⟨SqL.of upd_same, fun a na => ⟨sl, _, .ref a, rfl, rfl, kn (kn R.L.e_sl ncp) na, hsl, ?_⟩⟩⟩⟩
          have nep : p ≠ sl := fun z => by rw [z, R.L.e_sl] at ep; exact np_false ep
          have R1 := (R.same (same_ext (o := .lst (cutV ((Row.parts (.each wk how (some d))).map V.str) none (some 3))) ncp)).same (same_ext (o := .tup (cutV ((Row.parts (.each wk how (some d))).map V.str) none (some 3))) na)
          have R2 := R1.push (a := a) (k := (.inn (.each wk how))) (s' := (s1.push (.each wk how))) (by rw [upd_same, show (some (3 : Int)) = some ((3 : Nat) : Int) from rfl, cut_to]; rfl) (ok_each how hnm) (bks_push s1 (.each wk how) hc) rfl rfl rfl
          have ep2 := ku (u := .lst ((as ++ [a]).map V.ref)) (kn (u := .tup (cutV ((Row.parts (.each wk how (some d))).map V.str) none (some 3))) (kn (u := .lst (cutV ((Row.parts (.each wk how (some d))).map V.str) none (some 3))) ep ncp) na) nep
          rw [show as.map V.ref ++ [V.ref a] = (as ++ [a]).map V.ref by simp]
          clear R R1 ep
          revert R2 ep2
          generalize upd (upd (upd G5 cp (.lst (cutV ((Row.parts (.each wk how (some d))).map V.str) none (some 3)))) a (.tup (cutV ((Row.parts (.each wk how (some d))).map V.str) none (some 3)))) sl (.lst ((as ++ [a]).map V.ref)) = G6
          intro R ep
          refine ⟨_, rfl, _, rfl, sl, _, rfl, .inl (SqL.of R.L.e_sl), _, _, rfl, rfl, _, _, rfl, ?_⟩
          have ed : (if (((as ++ [a]).map V.ref).length : Int) - 1 > (s1.deepest : Int) then (((as ++ [a]).map V.ref).length : Int) - 1 else (s1.deepest : Int)) = (((max s1.deepest (s1.inner.length + 1)) : Nat) : Int) := by
            rw [List.length_map, List.length_append, List.length_singleton, e0]
            split <;> omega
          rw [ed]
          refine ⟨_, rfl, p, _, 0, _, rfl, rfl, SqL.of ep, atI_nat (j := 0) rfl, by show 3 ≤ sizeLine; decide, fun tq ntq => ⟨tq, _, rfl, .inr (SqT.of upd_same), rfl, rfl, _, rfl, (ifF (by decide +kernel) ?_)⟩⟩
          replace R := R.same (same_ext (o := .tup [.str "late", .str "mend", .str "end"]) ntq)
          replace ep := kn (u := .tup [.str "late", .str "mend", .str "end"]) ep ntq
          revert R ep
          generalize upd G6 tq (.tup [.str "late", .str "mend", .str "end"]) = G7
          intro R ep
          exact ⟨_, _, _, _, _, _, _, _, (s1.push (.each wk how)), (as ++ [a]), rfl, R, rn, g2, (by rw [List.length_append]; exact Nat.succ_le_succ las), (Nat.le_succ_of_le lbe), (Nat.le_succ_of_le lwa), (Nat.le_succ_of_le ljo)⟩
      | @turn l rest hc hi =>
        have ek := bks_inner hc hi
        refine ⟨_, rfl, p, _, 0, _, rfl, rfl, SqL.of ep, atI_nat (j := 0) rfl, rfl, _, rfl, (ifF (by cases l <;> rfl) ?_)⟩
        refine ⟨_, rfl, p, _, 0, _, rfl, rfl, SqL.of ep, atI_nat (j := 0) rfl, by show 5 ≤ sizeLine; decide, fun tq ntq => ⟨tq, _, rfl, .inr (SqT.of upd_same), rfl, rfl, _, rfl, (ifF (by cases l <;> decide +kernel) ?_)⟩⟩
        replace R := R.same (same_ext (o := .tup [.str "walk", .str "job", .str "repeat", .str "guard", .str "each"]) ntq)
        replace ep := kn (u := .tup [.str "walk", .str "job", .str "repeat", .str "guard", .str "each"]) ep ntq
        revert R ep
        generalize upd G4 tq (.tup [.str "walk", .str "job", .str "repeat", .str "guard", .str "each"]) = G5
        intro R ep
        refine ⟨_, rfl, p, _, 0, _, rfl, rfl, SqL.of ep, atI_nat (j := 0) rfl, by show 3 ≤ sizeLine; decide, fun tq ntq => ⟨tq, _, rfl, .inr (SqT.of upd_same), rfl, rfl, _, rfl, (ifT (by cases l <;> decide +kernel) ?_)⟩⟩
        replace R := R.same (same_ext (o := .tup [.str "late", .str "mend", .str "end"]) ntq)
        replace ep := kn (u := .tup [.str "late", .str "mend", .str "end"]) ep ntq
        revert R ep
        generalize upd G5 tq (.tup [.str "late", .str "mend", .str "end"]) = G6
        intro R ep
        obtain ⟨as', a0, rfl, hl0, ha0⟩ := R.L.last ek
        refine ⟨_, rfl, .inl ⟨rfl, _, SqL.of R.L.e_sl⟩, sl, _, .ref a0, rfl, rfl, R.L.e_sl, by simp, ?_⟩
        rw [show ((as' ++ [a0]).map V.ref).dropLast = as'.map V.ref by simp]
        have nep : p ≠ sl := fun z => by rw [z, R.L.e_sl] at ep; exact np_false ep
        have na0 : a0 ≠ sl := fun z => by rw [z, R.L.e_sl] at ha0; cases ha0
        have R1 := R.pop (s' := { s1 with inner := rest }) ek rfl rfl rfl
        replace ep := ku (u := .lst (as'.map V.ref)) ep nep
        replace ha0 := ku (u := .lst (as'.map V.ref)) ha0 na0
        clear R
        revert R1 ep ha0
        generalize upd G6 sl (.lst (as'.map V.ref)) = G7
        intro R ep ha0
        refine ⟨_, rfl, .inl ⟨rfl, _, SqL.of R.L.e_sl⟩, _, rfl, p, _, 0, _, rfl, rfl, SqL.of ep, atI_nat (j := 0) rfl, by show 1 ≤ sizeLine; decide, fun a na => ⟨by show 1 ≤ sizeLine; decide, fun l1 nl1 => ⟨_, rfl, p, _, 0, _, rfl, rfl, SqL.of (kn (kn ep na) nl1), atI_nat (j := 0) rfl, rfl, .inr ⟨_, rfl, l1, _, _, rfl, rfl, upd_same, ?_, ?_, ?_, fun l2 nl2 => ⟨sl, l2, _, _, rfl, rfl, kn (kn (kn R.L.e_sl na) nl1) nl2, upd_same, ?_, ?_⟩⟩⟩⟩⟩
        · (cases l <;> decide +kernel)
        · (cases l <;> decide +kernel)
        · show 1 * _ ≤ _; (cases l <;> decide +kernel)
        · rw [List.length_map, sizeLine_eq]; simp only [List.length_append, List.length_cons, List.length_nil] at las; (cases l <;> (show as'.length + 1 ≤ _; omega))
        have hrep : (List.replicate (Int.toNat (if (!decide (V.str (tword l) = V.str "end")) = true then 1 else 0)) [V.ref a]).flatten = [V.ref a] := by cases l <;> rfl
        rw [hrep, show as'.map V.ref ++ [V.ref a] = (as' ++ [a]).map V.ref by simp]
        have R1 := ((R.same (same_ext (o := .tup [.str (tword l)]) na)).same (same_ext (o := .lst [.ref a]) nl1)).same (same_ext (o := .lst [.ref a]) nl2)
        have R2 := R1.push (a := a) (k := .inn (if l then .late else .mend)) (s' := { s1 with inner := (if l then .late else .mend) :: rest }) (kn (kn (by cases l <;> exact upd_same) nl1) nl2) (by cases l <;> decide +kernel) (bks_inner (s := { s1 with inner := (if l then .late else .mend) :: rest }) hc rfl) rfl rfl rfl
        clear R R1
        refine ⟨_, rfl, by show 0 ≤ sizeLine; decide, fun p3 np3 => ⟨sl, p3, _, rfl, rfl, SqL.of (kn R2.L.e_sl np3), SqL.of upd_same, _, rfl, ifF (by simp) ?_⟩⟩
        have R := R2.same (same_ext (o := .lst []) np3)
        exact ⟨_, _, _, _, _, _, _, _, { s1 with inner := (if l then .late else .mend) :: rest }, as' ++ [a], rfl, R, rn, g2, by simp only [List.length_append, List.length_cons, List.length_nil] at *; omega, Nat.le_succ_of_le lbe, Nat.le_succ_of_le lwa, Nat.le_succ_of_le ljo⟩
      | @fin1 k rest hc hi hk =>
        have ek := bks_inner hc hi
        refine ⟨_, rfl, p, _, 0, _, rfl, rfl, SqL.of ep, atI_nat (j := 0) rfl, rfl, _, rfl, (ifF rfl ?_)⟩
        refine ⟨_, rfl, p, _, 0, _, rfl, rfl, SqL.of ep, atI_nat (j := 0) rfl, by show 5 ≤ sizeLine; decide, fun tq ntq => ⟨tq, _, rfl, .inr (SqT.of upd_same), rfl, rfl, _, rfl, (ifF (by decide +kernel) ?_)⟩⟩
        replace R := R.same (same_ext (o := .tup [.str "walk", .str "job", .str "repeat", .str "guard", .str "each"]) ntq)
        replace ep := kn (u := .tup [.str "walk", .str "job", .str "repeat", .str "guard", .str "each"]) ep ntq
        revert R ep
        generalize upd G4 tq (.tup [.str "walk", .str "job", .str "repeat", .str "guard", .str "each"]) = G5
        intro R ep
        refine ⟨_, rfl, p, _, 0, _, rfl, rfl, SqL.of ep, atI_nat (j := 0) rfl, by show 3 ≤ sizeLine; decide, fun tq ntq => ⟨tq, _, rfl, .inr (SqT.of upd_same), rfl, rfl, _, rfl, (ifT (by decide +kernel) ?_)⟩⟩
        replace R := R.same (same_ext (o := .tup [.str "late", .str "mend", .str "end"]) ntq)
        replace ep := kn (u := .tup [.str "late", .str "mend", .str "end"]) ep ntq
        revert R ep
        generalize upd G5 tq (.tup [.str "late", .str "mend", .str "end"]) = G6
        intro R ep
        obtain ⟨as', a0, rfl, hl0, ha0⟩ := R.L.last ek
        refine ⟨_, rfl, .inl ⟨rfl, _, SqL.of R.L.e_sl⟩, sl, _, .ref a0, rfl, rfl, R.L.e_sl, by simp, ?_⟩
        rw [show ((as' ++ [a0]).map V.ref).dropLast = as'.map V.ref by simp]
        have nep : p ≠ sl := fun z => by rw [z, R.L.e_sl] at ep; exact np_false ep
        have na0 : a0 ≠ sl := fun z => by rw [z, R.L.e_sl] at ha0; cases ha0
        have R1 := R.pop (s' := { s1 with inner := rest }) ek rfl rfl rfl
        replace ep := ku (u := .lst (as'.map V.ref)) ep nep
        replace ha0 := ku (u := .lst (as'.map V.ref)) ha0 na0
        clear R
        revert R1 ep ha0
        generalize upd G6 sl (.lst (as'.map V.ref)) = G7
        intro R ep ha0
        refine ⟨_, rfl, .inl ⟨rfl, _, SqL.of R.L.e_sl⟩, _, rfl, p, _, 0, _, rfl, rfl, SqL.of ep, atI_nat (j := 0) rfl, by show 1 ≤ sizeLine; decide, fun a na => ⟨by show 1 ≤ sizeLine; decide, fun l1 nl1 => ⟨_, rfl, p, _, 0, _, rfl, rfl, SqL.of (kn (kn ep na) nl1), atI_nat (j := 0) rfl, rfl, .inr ⟨_, rfl, l1, _, _, rfl, rfl, upd_same, ?_, ?_, ?_, fun l2 nl2 => ⟨sl, l2, _, _, rfl, rfl, kn (kn (kn R.L.e_sl na) nl1) nl2, upd_same, ?_, ?_⟩⟩⟩⟩⟩
        · (decide +kernel)
        · (decide +kernel)
        · show 1 * _ ≤ _; (decide +kernel)
        · rw [List.length_map, sizeLine_eq]; simp only [List.length_append, List.length_cons, List.length_nil] at las; (show as'.length + 0 ≤ _; omega)
        have hrep : (List.replicate (Int.toNat (if (!decide (V.str "end" = V.str "end")) = true then 1 else 0)) [V.ref a]).flatten = [] := rfl
        rw [hrep, List.append_nil, upd_id (kn (kn (kn R.L.e_sl na) nl1) nl2)]
        replace R := ((R.same (same_ext (o := .tup [.str "end"]) na)).same (same_ext (o := .lst [.ref a]) nl1)).same (same_ext (o := .lst []) nl2)
        have nb : as' ≠ [] := fun z => by
          have q1 := bks_len (s := { s1 with inner := rest }) hc
          rw [z] at hl0
          rw [← hl0] at q1
          cases q1
        refine ⟨_, rfl, by show 0 ≤ sizeLine; decide, fun p3 np3 => ⟨sl, p3, _, rfl, rfl, SqL.of (kn R.L.e_sl np3), SqL.of upd_same, _, rfl, ifF (by cases as' with | nil => exact absurd rfl nb | cons _ _ => rfl) ?_⟩⟩
        replace R := R.same (same_ext (o := .lst []) np3)
        exact ⟨_, _, _, _, _, _, _, _, { s1 with inner := rest }, as', rfl, R, rn, g2, by simp only [List.length_append, List.length_cons, List.length_nil] at *; omega, Nat.le_succ_of_le lbe, Nat.le_succ_of_le lwa, Nat.le_succ_of_le ljo⟩
      | @fin0 wk x hc hi =>
        have ek : bks s1 = [] ++ [.defn wk x] := by rw [bks_some hc, hi]; rfl
        refine ⟨_, rfl, p, _, 0, _, rfl, rfl, SqL.of ep, atI_nat (j := 0) rfl, rfl, _, rfl, (ifF rfl ?_)⟩
        refine ⟨_, rfl, p, _, 0, _, rfl, rfl, SqL.of ep, atI_nat (j := 0) rfl, by show 5 ≤ sizeLine; decide, fun tq ntq => ⟨tq, _, rfl, .inr (SqT.of upd_same), rfl, rfl, _, rfl, (ifF (by decide +kernel) ?_)⟩⟩
        replace R := R.same (same_ext (o := .tup [.str "walk", .str "job", .str "repeat", .str "guard", .str "each"]) ntq)
        replace ep := kn (u := .tup [.str "walk", .str "job", .str "repeat", .str "guard", .str "each"]) ep ntq
        revert R ep
        generalize upd G4 tq (.tup [.str "walk", .str "job", .str "repeat", .str "guard", .str "each"]) = G5
        intro R ep
        refine ⟨_, rfl, p, _, 0, _, rfl, rfl, SqL.of ep, atI_nat (j := 0) rfl, by show 3 ≤ sizeLine; decide, fun tq ntq => ⟨tq, _, rfl, .inr (SqT.of upd_same), rfl, rfl, _, rfl, (ifT (by decide +kernel) ?_)⟩⟩
        replace R := R.same (same_ext (o := .tup [.str "late", .str "mend", .str "end"]) ntq)
        replace ep := kn (u := .tup [.str "late", .str "mend", .str "end"]) ep ntq
        revert R ep
        generalize upd G5 tq (.tup [.str "late", .str "mend", .str "end"]) = G6
        intro R ep
        obtain ⟨as', a0, rfl, hl0, ha0⟩ := R.L.last ek
        refine ⟨_, rfl, .inl ⟨rfl, _, SqL.of R.L.e_sl⟩, sl, _, .ref a0, rfl, rfl, R.L.e_sl, by simp, ?_⟩
        rw [show ((as' ++ [a0]).map V.ref).dropLast = as'.map V.ref by simp]
        have nep : p ≠ sl := fun z => by rw [z, R.L.e_sl] at ep; exact np_false ep
        have na0 : a0 ≠ sl := fun z => by rw [z, R.L.e_sl] at ha0; cases ha0
        have R1 := R.pop (s' := { s1 with cur := none }) ek rfl rfl rfl
        replace ep := ku (u := .lst (as'.map V.ref)) ep nep
        replace ha0 := ku (u := .lst (as'.map V.ref)) ha0 na0
        clear R
        revert R1 ep ha0
        generalize upd G6 sl (.lst (as'.map V.ref)) = G7
        intro R ep ha0
        refine ⟨_, rfl, .inl ⟨rfl, _, SqL.of R.L.e_sl⟩, _, rfl, p, _, 0, _, rfl, rfl, SqL.of ep, atI_nat (j := 0) rfl, by show 1 ≤ sizeLine; decide, fun a na => ⟨by show 1 ≤ sizeLine; decide, fun l1 nl1 => ⟨_, rfl, p, _, 0, _, rfl, rfl, SqL.of (kn (kn ep na) nl1), atI_nat (j := 0) rfl, rfl, .inr ⟨_, rfl, l1, _, _, rfl, rfl, upd_same, ?_, ?_, ?_, fun l2 nl2 => ⟨sl, l2, _, _, rfl, rfl, kn (kn (kn R.L.e_sl na) nl1) nl2, upd_same, ?_, ?_⟩⟩⟩⟩⟩
        · (decide +kernel)
        · (decide +kernel)
        · show 1 * _ ≤ _; (decide +kernel)
        · rw [List.length_map, sizeLine_eq]; simp only [List.length_append, List.length_cons, List.length_nil] at las; (show as'.length + 0 ≤ _; omega)
        have hrep : (List.replicate (Int.toNat (if (!decide (V.str "end" = V.str "end")) = true then 1 else 0)) [V.ref a]).flatten = [] := rfl
        rw [hrep, List.append_nil, upd_id (kn (kn (kn R.L.e_sl na) nl1) nl2)]
        replace R := ((R.same (same_ext (o := .tup [.str "end"]) na)).same (same_ext (o := .lst [.ref a]) nl1)).same (same_ext (o := .lst []) nl2)
        replace ha0 := kn (u := .lst []) (kn (u := .lst [.ref a]) (kn (u := .tup [.str "end"]) ha0 na) nl1) nl2
        obtain rfl : as' = [] := List.eq_nil_of_length_eq_zero hl0
        refine ⟨_, rfl, by show 0 ≤ sizeLine; decide, fun p3 np3 => ⟨sl, p3, _, rfl, rfl, SqL.of (kn R.L.e_sl np3), SqL.of upd_same, _, rfl, ifT rfl ?_⟩⟩
        replace R := R.same (same_ext (o := .lst []) np3)
        replace ha0 := kn (u := .lst []) ha0 np3
        have hwl : (s1.walks.map V.str).length < sizeLine := small1000 (by rw [List.length_map]; omega)
        have hjl : (s1.jobs.map V.str).length < sizeLine := small1000 (by rw [List.length_map]; omega)
        cases wk with
        | true =>
          refine ⟨_, rfl, _, rfl, a0, _, 0, _, rfl, rfl, SqT.of ha0, atI_nat (j := 0) rfl, tl, .ref wl, rfl, dg R.L.e_tl rfl, .inl ⟨rfl, _, SqL.of R.L.e_wl⟩, _, rfl, a0, _, 1, _, rfl, rfl, SqT.of ha0, atI_nat (j := 1) rfl, wl, _, _, rfl, rfl, R.L.e_wl, hwl, ?_⟩
          have R2 := R.tellW (s' := { s1.tell true x with cur := none }) x rfl rfl rfl rfl
          exact ⟨_, _, _, _, _, _, _, _, { s1.tell true x with cur := none }, [], rfl, R2, rn, g2, Nat.zero_le _, Nat.le_succ_of_le lbe, by show (s1.walks ++ [x]).length ≤ _; rw [List.length_append]; exact Nat.succ_le_succ lwa, Nat.le_succ_of_le ljo⟩
        | false =>
          refine ⟨_, rfl, _, rfl, a0, _, 0, _, rfl, rfl, SqT.of ha0, atI_nat (j := 0) rfl, tl, .ref jl, rfl, dg R.L.e_tl rfl, .inl ⟨rfl, _, SqL.of R.L.e_jl⟩, _, rfl, a0, _, 1, _, rfl, rfl, SqT.of ha0, atI_nat (j := 1) rfl, jl, _, _, rfl, rfl, R.L.e_jl, hjl, ?_⟩
          have R2 := R.tellJ (s' := { s1.tell false x with cur := none }) x rfl rfl rfl rfl
          exact ⟨_, _, _, _, _, _, _, _, { s1.tell false x with cur := none }, [], rfl, R2, rn, g2, Nat.zero_le _, Nat.le_succ_of_le lbe, Nat.le_succ_of_le lwa, by show (s1.jobs ++ [x]).length ≤ _; rw [List.length_append]; exact Nat.succ_le_succ ljo⟩
  · obtain ⟨t6, t7, t8, t9, t10, t11, t12, t13, s1, as, rfl, R, rn, g1, las, lbe, lwa, ljo⟩ := pv
    rw [List.length_map, List.length_map] at las lbe lwa ljo rn
    rw [List.drop_length] at rn
    cases rn with
    | nil =>
      refine ⟨_, rfl, by show 0 ≤ sizeLine; decide, fun p3 np3 => ⟨sl, p3, _, rfl, rfl, SqL.of (kn R.L.e_sl np3), SqL.of upd_same, _, rfl, ?_⟩⟩
      replace R := R.same (same_ext (o := .lst []) np3)
      by_cases hc : s'.cur = none
      · have ea : as = [] := List.eq_nil_of_length_eq_zero (by rw [R.L.len, bks_none hc]; rfl)
        subst ea
        refine iteF ?_
        clear np3
        revert R
        generalize upd _ p3 (.lst []) = G1
        intro R
        refine ⟨by show 1 ≤ sizeLine; decide, fun l1 nl1 => ⟨_, rfl, l1, bg, _, _, rfl, rfl, upd_same, kn R.L.e_bg nl1, by rw [List.length_map, sizeLine_eq]; show 1 + _ ≤ _; omega, fun l2 nl2 => ⟨l2, rfl, ⟨_, SqL.of upd_same⟩, ?_⟩⟩⟩
        replace R := (R.same (same_ext (o := .lst [.str "main"]) nl1)).same (same_ext (o := .lst ([.str "main"] ++ s'.begun.map V.str)) nl2)
        have et : (upd (upd G1 l1 (.lst [.str "main"])) l2 (.lst ([.str "main"] ++ s'.begun.map V.str))) l2 = some (.lst ((("main" : Str) :: s'.begun).map V.str)) := upd_same
        clear nl1 nl2
        revert R et
        generalize (upd (upd G1 l1 (.lst [.str "main"])) l2 (.lst ([.str "main"] ++ s'.begun.map V.str))) = G2
        intro R et
        refine for_it (walk_list (K := K) (a := l2) (xs := (("main" : Str) :: s'.begun).map V.str)) (fun i σ H' => (∃ t10, σ = [some (.str (rowsText rs)), some (.ref sl), some (.ref tl), some (.ref bg), some (.int s'.deepest), some (.ref rl), t6, t7, t8, t9, t10, t11, t12, t13]) ∧ Same G2 H' ∧ ∀ y ∈ ((("main" : Str) :: s'.begun).take i), y ∈ s'.jobs) ⟨⟨_, rfl⟩, Same.refl _, fun y hy => by cases hy⟩ (fun i σ H' _ pv => SqL.of (pv.2.1 _ _ et)) (fun i x σ H2 H3 hi pv y => ?_) (fun σ H' pv => ?_)
        · obtain ⟨⟨t, rfl⟩, s2, all⟩ := pv
          obtain ⟨rfl, hx⟩ := y
          rw [List.length_map] at hi
          rw [List.getElem?_map, List.getElem?_eq_getElem hi] at hx
          have ex : x = .str (("main" : Str) :: s'.begun)[i] := (Option.some.inj hx).symm
          subst ex
          have tk : (("main" : Str) :: s'.begun).take (i + 1) = (("main" : Str) :: s'.begun).take i ++ [(("main" : Str) :: s'.begun)[i]] := (List.take_append_getElem hi).symm
          have spl : ("main" : Str) :: s'.begun = (("main" : Str) :: s'.begun).take i ++ (("main" : Str) :: s'.begun)[i] :: (("main" : Str) :: s'.begun).drop (i + 1) := by rw [← List.drop_eq_getElem_cons hi, List.take_append_drop]
          have q2' := q2 hc _ _ _ spl all
          revert tk q2'
          generalize (("main" : Str) :: s'.begun)[i] = x
          intro tk q2'
          have R1 := R.same s2
          refine ⟨_, rfl, _, rfl, tl, .ref jl, rfl, dg R1.L.e_tl rfl, jl, _, rfl, .inl (SqL.of R1.L.e_jl), rfl, flat_strs' _, _, rfl, ?_⟩
          by_cases hm : x ∈ s'.jobs
          · refine ifF (in_not hm) ⟨⟨_, rfl⟩, s2, fun y hy => ?_⟩
            rw [tk] at hy
            rcases List.mem_append.mp hy with hy | hy
            · exact all y hy
            · rw [List.mem_singleton.mp hy]; exact hm
          · refine ifT (in_yes hm) ⟨_, rfl, by show 2 ≤ sizeLine; decide, fun tp ntp => ?_⟩
            exact q2' hm tp _ ((wk0.trans R1.sm).trans (same_ext ntp)) upd_same
        · obtain ⟨⟨t, rfl⟩, s2, all⟩ := pv
          rw [List.length_map, List.take_length] at all
          obtain ⟨z1, z2, z3, q⟩ := q3 hc all
          have R1 := R.same s2
          have erl := R1.sm _ _ el
          refine ⟨_, rfl, rl, _, rfl, .inl (SqL.of erl), _, _, rfl, rfl, by show 2 ≤ sizeLine; decide, fun t1 n1' => ⟨_, rfl, tl, .ref jl, rfl, dg (kn R1.L.e_tl n1') rfl, jl, _, rfl, .inl (SqL.of (kn R1.L.e_jl n1')), _, _, rfl, rfl, by show 2 ≤ sizeLine; decide, fun t2 n2' => ⟨_, rfl, tl, .ref wl, rfl, dg (kn (kn R1.L.e_tl n1') n2') rfl, wl, _, rfl, .inl (SqL.of (kn (kn R1.L.e_wl n1') n2')), _, _, rfl, rfl, by show 2 ≤ sizeLine; decide, fun t3 n3' => ⟨by show 3 ≤ sizeLine; decide, fun zl nzl => ?_⟩⟩⟩⟩
          refine ⟨_, rfl, .inl ⟨rfl, _, SqL.of upd_same⟩, _, rfl, _, _, rfl, rfl, by show 2 ≤ sizeLine; decide, fun t4 n4' => ⟨zl, _, _, rfl, rfl, kn upd_same n4', by show 3 < sizeLine; decide, ?_⟩⟩
          have d1 : decide ((100 : Int) < ((((rs.map Row.text).map V.str).length : Nat) : Int)) = false := decide_eq_false (by rw [List.length_map, List.length_map]; omega)
          have d2 : decide ((6 : Int) < (((s'.jobs.map V.str).length : Nat) : Int)) = false := decide_eq_false (by rw [List.length_map]; omega)
          have d3 : decide ((6 : Int) < (((s'.walks.map V.str).length : Nat) : Int)) = false := decide_eq_false (by rw [List.length_map]; omega)
          have d4 : decide ((6 : Int) < ((s'.deepest : Nat) : Int)) = false := decide_eq_false (by omega)
          have z1' : t1 ≠ zl := ne_of_none (kn (kn upd_same n2') n3') nzl
          have z2' : t2 ≠ zl := ne_of_none (kn upd_same n3') nzl
          have z3' : t3 ≠ zl := ne_of_none upd_same nzl
          have z4' : t4 ≠ zl := (fr n4').2
          have e1 : (upd (upd (upd (upd (upd (upd H' t1 (.tup [.str "rows", .bl (decide ((100 : Int) < ((((rs.map Row.text).map V.str).length : Nat) : Int)))])) t2 (.tup [.str "jobs", .bl (decide ((6 : Int) < (((s'.jobs.map V.str).length : Nat) : Int)))])) t3 (.tup [.str "walks", .bl (decide ((6 : Int) < (((s'.walks.map V.str).length : Nat) : Int)))])) zl (.lst [.ref t1, .ref t2, .ref t3])) t4 (.tup [.str "deep", .bl (decide ((6 : Int) < ((s'.deepest : Nat) : Int)))])) zl (.lst ([.ref t1, .ref t2, .ref t3] ++ [.ref t4]))) t1 = some (.tup [.str "rows", .bl false]) := by rw [← d1]; exact ku (kn (kn (kn (kn upd_same n2') n3') nzl) n4') z1'
          have e2 : (upd (upd (upd (upd (upd (upd H' t1 (.tup [.str "rows", .bl (decide ((100 : Int) < ((((rs.map Row.text).map V.str).length : Nat) : Int)))])) t2 (.tup [.str "jobs", .bl (decide ((6 : Int) < (((s'.jobs.map V.str).length : Nat) : Int)))])) t3 (.tup [.str "walks", .bl (decide ((6 : Int) < (((s'.walks.map V.str).length : Nat) : Int)))])) zl (.lst [.ref t1, .ref t2, .ref t3])) t4 (.tup [.str "deep", .bl (decide ((6 : Int) < ((s'.deepest : Nat) : Int)))])) zl (.lst ([.ref t1, .ref t2, .ref t3] ++ [.ref t4]))) t2 = some (.tup [.str "jobs", .bl false]) := by rw [← d2]; exact ku (kn (kn (kn upd_same n3') nzl) n4') z2'
          have e3 : (upd (upd (upd (upd (upd (upd H' t1 (.tup [.str "rows", .bl (decide ((100 : Int) < ((((rs.map Row.text).map V.str).length : Nat) : Int)))])) t2 (.tup [.str "jobs", .bl (decide ((6 : Int) < (((s'.jobs.map V.str).length : Nat) : Int)))])) t3 (.tup [.str "walks", .bl (decide ((6 : Int) < (((s'.walks.map V.str).length : Nat) : Int)))])) zl (.lst [.ref t1, .ref t2, .ref t3])) t4 (.tup [.str "deep", .bl (decide ((6 : Int) < ((s'.deepest : Nat) : Int)))])) zl (.lst ([.ref t1, .ref t2, .ref t3] ++ [.ref t4]))) t3 = some (.tup [.str "walks", .bl false]) := by rw [← d3]; exact ku (kn (kn upd_same nzl) n4') z3'
          have e4 : (upd (upd (upd (upd (upd (upd H' t1 (.tup [.str "rows", .bl (decide ((100 : Int) < ((((rs.map Row.text).map V.str).length : Nat) : Int)))])) t2 (.tup [.str "jobs", .bl (decide ((6 : Int) < (((s'.jobs.map V.str).length : Nat) : Int)))])) t3 (.tup [.str "walks", .bl (decide ((6 : Int) < (((s'.walks.map V.str).length : Nat) : Int)))])) zl (.lst [.ref t1, .ref t2, .ref t3])) t4 (.tup [.str "deep", .bl (decide ((6 : Int) < ((s'.deepest : Nat) : Int)))])) zl (.lst ([.ref t1, .ref t2, .ref t3] ++ [.ref t4]))) t4 = some (.tup [.str "deep", .bl false]) := by rw [← d4]; exact ku upd_same z4'
          have ez : (upd (upd (upd (upd (upd (upd H' t1 (.tup [.str "rows", .bl (decide ((100 : Int) < ((((rs.map Row.text).map V.str).length : Nat) : Int)))])) t2 (.tup [.str "jobs", .bl (decide ((6 : Int) < (((s'.jobs.map V.str).length : Nat) : Int)))])) t3 (.tup [.str "walks", .bl (decide ((6 : Int) < (((s'.walks.map V.str).length : Nat) : Int)))])) zl (.lst [.ref t1, .ref t2, .ref t3])) t4 (.tup [.str "deep", .bl (decide ((6 : Int) < ((s'.deepest : Nat) : Int)))])) zl (.lst ([.ref t1, .ref t2, .ref t3] ++ [.ref t4]))) zl = some (.lst [.ref t1, .ref t2, .ref t3, .ref t4]) := upd_same
          have sH : Same H (upd (upd (upd (upd (upd (upd H' t1 (.tup [.str "rows", .bl (decide ((100 : Int) < ((((rs.map Row.text).map V.str).length : Nat) : Int)))])) t2 (.tup [.str "jobs", .bl (decide ((6 : Int) < (((s'.jobs.map V.str).length : Nat) : Int)))])) t3 (.tup [.str "walks", .bl (decide ((6 : Int) < (((s'.walks.map V.str).length : Nat) : Int)))])) zl (.lst [.ref t1, .ref t2, .ref t3])) t4 (.tup [.str "deep", .bl (decide ((6 : Int) < ((s'.deepest : Nat) : Int)))])) zl (.lst ([.ref t1, .ref t2, .ref t3] ++ [.ref t4]))) := by
            have s3 := (((wk0.trans R1.sm).trans (same_ext (o := .tup [.str "rows", .bl (decide ((100 : Int) < ((((rs.map Row.text).map V.str).length : Nat) : Int)))]) n1')).trans (same_ext (o := .tup [.str "jobs", .bl (decide ((6 : Int) < (((s'.jobs.map V.str).length : Nat) : Int)))]) n2')).trans (same_ext (o := .tup [.str "walks", .bl (decide ((6 : Int) < (((s'.walks.map V.str).length : Nat) : Int)))]) n3')
            exact same_put ((s3.trans (same_ext nzl)).trans (same_ext n4')) (none_of s3 nzl)
          clear d1 d2 d3 d4 z1' z2' z3' z4' n4' nzl n3' n2' n1'
          revert e1 e2 e3 e4 ez sH
          generalize (upd (upd (upd (upd (upd (upd H' t1 (.tup [.str "rows", .bl (decide ((100 : Int) < ((((rs.map Row.text).map V.str).length : Nat) : Int)))])) t2 (.tup [.str "jobs", .bl (decide ((6 : Int) < (((s'.jobs.map V.str).length : Nat) : Int)))])) t3 (.tup [.str "walks", .bl (decide ((6 : Int) < (((s'.walks.map V.str).length : Nat) : Int)))])) zl (.lst [.ref t1, .ref t2, .ref t3])) t4 (.tup [.str "deep", .bl (decide ((6 : Int) < ((s'.deepest : Nat) : Int)))])) zl (.lst ([.ref t1, .ref t2, .ref t3] ++ [.ref t4]))) = G3
          intro e1 e2 e3 e4 ez sH
          refine ⟨_, rfl, by show 2 ≤ sizeLine; decide, fun tn ntn => ⟨by show 1 ≤ sizeLine; decide, fun l4 nl4 => ⟨zl, l4, _, _, rfl, rfl, kn (kn ez ntn) nl4, upd_same, by show 5 ≤ sizeLine; decide, fun l5 nl5 => ⟨l5, rfl, ⟨_, SqL.of upd_same⟩, fun D nD => ?_⟩⟩⟩⟩
          have sG : Same G3 (upd (upd (upd G3 tn (.tup [.str "none", .bl true])) l4 (.lst [.ref tn])) l5 (.lst ([.ref t1, .ref t2, .ref t3, .ref t4] ++ [.ref tn]))) := ((same_ext ntn).trans (same_ext nl4)).trans (same_ext nl5)
          have en : (upd (upd (upd G3 tn (.tup [.str "none", .bl true])) l4 (.lst [.ref tn])) l5 (.lst ([.ref t1, .ref t2, .ref t3, .ref t4] ++ [.ref tn]))) tn = some (.tup [.str "none", .bl true]) := kn (kn upd_same nl4) nl5
          have e5 : (upd (upd (upd G3 tn (.tup [.str "none", .bl true])) l4 (.lst [.ref tn])) l5 (.lst ([.ref t1, .ref t2, .ref t3, .ref t4] ++ [.ref tn]))) l5 = some (.lst [.ref t1, .ref t2, .ref t3, .ref t4, .ref tn]) := upd_same
          revert sG en e5 nD
          generalize (upd (upd (upd G3 tn (.tup [.str "none", .bl true])) l4 (.lst [.ref tn])) l5 (.lst ([.ref t1, .ref t2, .ref t3, .ref t4] ++ [.ref tn]))) = G4
          intro nD sG en e5
          refine lc_it (walk_list (K := K) (a := l5) (xs := [.ref t1, .ref t2, .ref t3, .ref t4, .ref tn])) (fun k H5 => Same G4 H5 ∧ (k ≤ 4 → H5 D = some (.lst [])) ∧ (k = 5 → ∃ t, H5 D = some (.lst [.ref t]) ∧ H5 t = some (.tup [.str "many", .str "none"]))) ⟨same_ext nD, fun _ => upd_same, fun z => by cases z⟩ (fun k H5 _ pv => SqL.of (pv.1 _ _ e5)) (fun k x H5 H6 hk pv y => ?_) (fun H5 pv => ?_)
          · obtain ⟨rfl, hx⟩ := y
            match k, hk, hx with
            | 0, _, hx =>
              obtain rfl : V.ref t1 = x := Option.some.inj hx
              exact ⟨t1, _, rfl, SqT.of (pv.1 _ _ (sG _ _ e1)), rfl, _, _, rfl, _, _, rfl, rfl, rfl, _, rfl, _, rfl, iteF ⟨pv.1, fun _ => pv.2.1 (by decide), fun z => by cases z⟩⟩
            | 1, _, hx =>
              obtain rfl : V.ref t2 = x := Option.some.inj hx
              exact ⟨t2, _, rfl, SqT.of (pv.1 _ _ (sG _ _ e2)), rfl, _, _, rfl, _, _, rfl, rfl, rfl, _, rfl, _, rfl, iteF ⟨pv.1, fun _ => pv.2.1 (by decide), fun z => by cases z⟩⟩
            | 2, _, hx =>
              obtain rfl : V.ref t3 = x := Option.some.inj hx
              exact ⟨t3, _, rfl, SqT.of (pv.1 _ _ (sG _ _ e3)), rfl, _, _, rfl, _, _, rfl, rfl, rfl, _, rfl, _, rfl, iteF ⟨pv.1, fun _ => pv.2.1 (by decide), fun z => by cases z⟩⟩
            | 3, _, hx =>
              obtain rfl : V.ref t4 = x := Option.some.inj hx
              exact ⟨t4, _, rfl, SqT.of (pv.1 _ _ (sG _ _ e4)), rfl, _, _, rfl, _, _, rfl, rfl, rfl, _, rfl, _, rfl, iteF ⟨pv.1, fun _ => pv.2.1 (by decide), fun z => by cases z⟩⟩
            | 4, _, hx =>
              obtain rfl : V.ref tn = x := Option.some.inj hx
              refine ⟨tn, _, rfl, SqT.of (pv.1 _ _ en), rfl, _, _, rfl, _, _, rfl, rfl, rfl, _, rfl, _, rfl, iteT ⟨_, rfl, by show 2 ≤ sizeLine; decide, fun tm ntm => ⟨[], kn (pv.2.1 (by decide)) ntm, by show 0 < sizeLine; decide, same_put (pv.1.trans (same_ext ntm)) nD, fun z => by omega, fun _ => ⟨tm, upd_same, ku upd_same (ne_of_none (pv.2.1 (by decide)) ntm).symm⟩⟩⟩⟩
          · obtain ⟨t', eD, et'⟩ := pv.2.2 rfl
            exact ⟨D, _, 0, _, rfl, rfl, SqL.of eD, atI_nat (j := 0) rfl, q t' H5 ((sH.trans sG).trans pv.1) et'⟩
      · have nb : (true != (as.map V.ref).isEmpty) = true := by
          have z := bks_len hc
          rw [← R.L.len] at z
          cases as with
          | nil => cases z
          | cons _ _ => rfl
        rw [nb]
        refine iteT ⟨_, rfl, rl, _, rfl, .inl (SqL.of (R.sm _ _ el)), by show 2 ≤ sizeLine; decide, fun tp ntp => q1 hc tp _ ((wk0.trans R.sm).trans (same_ext ntp)) ?_⟩
        rw [upd_same, List.length_map, List.length_map]
end
end K8
set_option Elab.async false
set_option linter.all false
set_option maxRecDepth 100000
set_option maxHeartbeats 4000000
/-! The law's _law_due_heard; what both readers tell. -/
namespace K8
open PySem PyProof.Rows L2
/-- what a text's reading tells -/
inductive Out (rs : List Row) (s : S) : List V → Prop where
  | row : s.cur ≠ none → Out rs s [.str "row", .int rs.length]
  | unk (pre post : List Str) (x : Str) : s.cur = none → ("main" : Str) :: s.begun = pre ++ x :: post → (∀ y ∈ pre, y ∈ s.jobs) → x ∉ s.jobs → Out rs s [.str "unknown", .str x]
  | read : s.cur = none → (∀ x ∈ ("main" : Str) :: s.begun, x ∈ s.jobs) → Out rs s [.str "read", .str (rowsText rs)]
theorem first_eq {P : Str → Prop} : ∀ {l pre pre' post post' : List Str} {x y : Str}, l = pre ++ x :: post → l = pre' ++ y :: post' → (∀ z ∈ pre, P z) → (∀ z ∈ pre', P z) → ¬ P x → ¬ P y → x = y
  | l, [], [], _, _, _, _, e1, e2, _, _, _, _ => by rw [e1] at e2; exact (List.cons.inj e2).1
  | l, [], b :: pre', _, _, _, _, e1, e2, _, h2, h3, _ => by
    rw [e1] at e2
    exact absurd (h2 b List.mem_cons_self) (by rw [← (List.cons.inj e2).1]; exact h3)
  | l, a :: pre, [], _, _, _, _, e1, e2, h1, _, _, h4 => by
    rw [e1] at e2
    exact absurd (h1 a List.mem_cons_self) (by rw [(List.cons.inj e2).1]; exact h4)
  | l, a :: pre, b :: pre', _, _, _, _, e1, e2, h1, h2, h3, h4 => by
    rw [e1] at e2
    have q := (List.cons.inj e2).2
    exact first_eq rfl q (fun z hz => h1 z (List.mem_cons_of_mem _ hz)) (fun z hz => h2 z (List.mem_cons_of_mem _ hz)) h3 h4
theorem Out.uniq {rs : List Row} {s : S} {o o' : List V} (h : Out rs s o) (h' : Out rs s o') : o = o' := by
  cases h with
  | row hc => cases h' with
    | row _ => rfl
    | unk _ _ _ h _ _ _ => exact absurd h hc
    | read h _ => exact absurd h hc
  | unk pre post x hc e1 h1 h2 => cases h' with
    | row h => exact absurd hc h
    | unk pre' post' y _ e2 h3 h4 => rw [first_eq (P := fun z => z ∈ s.jobs) e1 e2 h1 h3 h2 h4]
    | read _ h => exact absurd (h x (by rw [e1]; simp)) h2
  | read hc h => cases h' with
    | row h => exact absurd hc h
    | unk pre post x _ e1 h1 h2 => exact absurd (h x (by rw [e1]; simp)) h2
    | read _ _ => rfl
/-- the sizes are kept -/
def Sz (s : S) : Prop := s.cur = none → (∀ x ∈ ("main" : Str) :: s.begun, x ∈ s.jobs) → s.jobs.length ≤ 6 ∧ s.walks.length ≤ 6 ∧ s.deepest ≤ 6 ∧ s.gates.length < 64
theorem begun_ok {rs : List Row} {s : S} (h : Run {} rs s) : ∀ x ∈ ("main" : Str) :: s.begun, PyData.strOk x = true := fun x hx => by
  rcases List.mem_cons.mp hx with rfl | hx
  · decide +kernel
  · rw [h.begun] at hx
    have hx : x ∈ (rs.map Row.begs).flatten := by simpa using hx
    obtain ⟨l, hl, hxl⟩ := List.mem_flatten.mp hx
    obtain ⟨r, hr, rfl⟩ := List.mem_map.mp hl
    have ok := h.ok r hr
    cases r with
    | named k n =>
      cases k with
      | begin =>
        have e : x = n := List.mem_singleton.mp hxl
        subst e
        exact strOk_nm ok
      | _ => cases hxl
    | _ => cases hxl
theorem row_lay (n : Nat) : PyData.canLay0 (.tuple [.str "row", .int n]) = true := by
  have e : PyData.strOk ("row" : Str) = true := by decide +kernel
  simp only [PyData.canLay0, PyData.canLayAll0, e, Bool.and_self]
section
variable {P : Program} {w : World} {K : PySem.W.Frag} {mg : Str → Option Value} {base : Heap} {f : Addr} {fd : FuncData}
abbrev sLdh : Stmt := top 43
theorem scLdh : FnScope ["_law_text", "_law_due"] ["_law_text"] (defScope sLdh) := ⟨rfl, rfl, rfl, by decide +kernel, rfl, by decide +kernel, by decide +kernel⟩
def spLdh : Sp := fun vs H Q _ => ∃ (rs : List Row) (s' : S), vs = [.str (rowsText rs)] ∧ rs ≠ [] ∧ rs.length ≤ 100 ∧ Run {} rs s' ∧ Sz s' ∧ ∀ p H' o, Out rs s' o → Same H H' → H' p = some (.tup o) → Q (.ref p) H'
theorem ok_ldh (F : Fun K "_law_due_heard" "_law_due_heard" sLdh f fd) (c_read_due : C8.Cal P w K mg base 3 "_law_read_due" spLdue []) : FnOk P w K mg base CX0 4 f fd ["_law_text"] spLdh := by
  refine F.ok scLdh (fun vs H Q E h => ?_) (fun cdv A outer s H vs Q E hr h => ?_)
  · obtain ⟨_, _, rfl, _⟩ := h
    rfl
  obtain ⟨rs, s', rfl, hne, hl, run, sz, q⟩ := h
  have nd := scLdh.nd
  refine ⟨_, (pss_cons (ps_set (i := 1) nd rfl (.inl rfl) (C8.pe_c c_read_due hr (by omega) rfl (pa_cons (pv 0) pa_nil)))
    (pss_one (ps_ret (pe_ifExp (pt_cmpR (op_eqD hr.units) (pv 1) (pe_tup (pa_cons pe_str (pa_cons pe_str pa_nil))) (nomark _)) (pe_tup (pa_cons pe_str (pa_cons (pv 0) pa_nil))) (pv 1))))), ?_⟩
  refine ⟨_, rfl, rs, s', rfl, hne, hl, run, fun hc p H1 s1 e1 => ?_, fun hc pre x post es h1 h2 p H1 s1 e1 => ?_, fun hc all => ⟨(sz hc all).1, (sz hc all).2.1, (sz hc all).2.2.1, fun p H1 s1 e1 => ?_⟩⟩
  · refine ⟨_, rfl, by show 2 ≤ sizeLine; decide, fun t nt => ⟨.tuple [.str "row", .int rs.length], .tuple [.str "many", .str "none"], .tup (SqT.of (kn e1 nt)) (.cons (.str _) (.cons (.int _) .nil)), .tup (SqT.of upd_same) (dpS ["many", "none"]), ?_, shapedT (l := ["many", "none"]) (by decide +kernel), _, rfl, ifF ?_ ⟨_, rfl, ?_⟩⟩⟩
    · unfold SeqAt.shaped
      rw [Bool.and_eq_true]
      exact ⟨row_lay _, decide_eq_true (by simp [PyData.depth, PyData.depthAll])⟩
    · rfl
    · exact q p _ _ (.row hc) (s1.trans (same_ext nt)) (kn e1 nt)
  · refine ⟨_, rfl, by show 2 ≤ sizeLine; decide, fun t nt => ⟨.tuple ((["unknown", x] : List Str).map PyData.str), .tuple ((["many", "none"] : List Str).map PyData.str), .tup (SqT.of (kn e1 nt)) (dpS ["unknown", x]), .tup (SqT.of upd_same) (dpS ["many", "none"]), shapedT ?_, shapedT (by decide +kernel), _, rfl, ifF ?_ ⟨_, rfl, ?_⟩⟩⟩
    · intro t ht
      simp only [List.mem_cons, List.not_mem_nil, or_false] at ht
      rcases ht with rfl | rfl
      · decide +kernel
      · exact begun_ok run _ (by rw [es]; simp)
    · rfl
    · exact q p _ _ (.unk pre post x hc es h1 h2) (s1.trans (same_ext nt)) (kn e1 nt)
  · refine ⟨_, rfl, by show 2 ≤ sizeLine; decide, fun t nt => ⟨.tuple ((["many", "none"] : List Str).map PyData.str), .tuple ((["many", "none"] : List Str).map PyData.str), .tup (SqT.of (kn e1 nt)) (dpS ["many", "none"]), .tup (SqT.of upd_same) (dpS ["many", "none"]), shapedT (by decide +kernel), shapedT (by decide +kernel), _, rfl, ifT ?_ ?_⟩⟩
    · decide +kernel
    · exact ⟨_, rfl, by show 2 ≤ sizeLine; decide, fun t2 nt2 => q t2 _ _ (.read hc all) ((s1.trans (same_ext nt)).trans (same_ext nt2)) upd_same⟩
end
end K8
set_option Elab.async false
set_option linter.all false
set_option maxRecDepth 100000
set_option maxHeartbeats 4000000
/-! The walk of _law_named. -/
namespace K8
open PySem PyProof.Rows L2
/-- other names: F sort name; sorts are 0 job, 1 walk, 2 gate, 3 note -/
def Row.ren (F : Nat → Str → Str) : Row → Row
  | .defn w n => .defn w (F (if w then 1 else 0) n)
  | .named .begin n => .named .begin (F 0 n)
  | .named .wait n => .named .wait (F 2 n)
  | .named .opn n => .named .opn (F 2 n)
  | .named .say n => .named .say (F 3 n)
  | .named .fail n => .named .fail (F 3 n)
  | .each w how t => .each (F 1 w) how t
  | r => r
structure TabAt (H : Hp) (t : Addr) (F : Nat → Str → Str) (t0 t1 t2 t3 : Addr) (k0 k1 k2 k3 : List (Key × V)) : Prop where
  t : H t = some (.lst [.ref t0, .ref t1, .ref t2, .ref t3])
  e0 : H t0 = some (.dK k0)
  e1 : H t1 = some (.dK k1)
  e2 : H t2 = some (.dK k2)
  e3 : H t3 = some (.dK k3)
  f0 : ∀ x : Str, (valV k0 (.inr x)).getD (.str x) = .str (F 0 x)
  f1 : ∀ x : Str, (valV k1 (.inr x)).getD (.str x) = .str (F 1 x)
  f2 : ∀ x : Str, (valV k2 (.inr x)).getD (.str x) = .str (F 2 x)
  f3 : ∀ x : Str, (valV k3 (.inr x)).getD (.str x) = .str (F 3 x)
theorem join_small {r : Row} (h : r.Ok) : (r.parts.map (·.length)).sum + r.parts.length * (" " : Str).length ≤ 16777216 := by
  have hp := h.part
  have hl := (parts_len r).2
  have e : (" " : Str).length = 1 := by decide +kernel
  rw [e]
  have go : ∀ l : List Str, (∀ p ∈ l, p.length ≤ 8) → (l.map (·.length)).sum ≤ 8 * l.length := by
    intro l
    induction l with
    | nil => intro _; exact Nat.le_refl _
    | cons x l ih =>
      intro h
      have a := h x List.mem_cons_self
      have b := ih fun p hp => h p (List.mem_cons_of_mem _ hp)
      rw [List.map_cons, List.sum_cons, List.length_cons]
      omega
  have := go r.parts fun p hp' => (hp p hp').le
  omega
section
variable {P : Program} {w : World} {K : PySem.W.Frag} {mg : Str → Option Value} {base : Heap} {f : Addr} {fd : FuncData}
abbrev sLnamed : Stmt := top 44
theorem scLnamed : FnScope ["_law_rows_here", "_law_table", "_law_sorts", "_law_found", "_law_row_here", "_law_parts", "_law_names_here"] ["_law_rows_here", "_law_table"] (defScope sLnamed) := ⟨rfl, rfl, rfl, by decide +kernel, rfl, by decide +kernel, by decide +kernel⟩
def spLnamed : Sp := fun vs H Q _ => ∃ (rs : List Row) (p t : Addr) (F : Nat → Str → Str) (t0 t1 t2 t3 : Addr) (k0 k1 k2 k3 : List (Key × V)), vs = [.ref p, .ref t] ∧ H p = some (rtexts rs) ∧ (∀ r ∈ rs, r.Ok) ∧ (∀ r ∈ rs, (r.ren F).Ok) ∧ rs.length ≤ 300 ∧ TabAt H t F t0 t1 t2 t3 k0 k1 k2 k3 ∧
  ∀ r H', Same H H' → H r = none → H' r = some (rtexts (rs.map (Row.ren F))) → Q (.ref r) H'
theorem ok_lnamed (F : Fun K "_law_named" "_law_named" sLnamed f fd) : FnOk P w K mg base CX0 1 f fd ["_law_rows_here", "_law_table"] spLnamed := by
  refine F.ok scLnamed (fun vs H Q E h => ?_) (fun cdv A outer s H vs Q E hr h => ?_)
  · obtain ⟨_, _, _, _, _, _, _, _, _, _, _, _, rfl, _⟩ := h
    rfl
  obtain ⟨rs, p, t, F, t0, t1, t2, t3, k0, k1, k2, k3, rfl, hp, hok, hok2, hl, T, q⟩ := h
  have nd := scLnamed.nd
  have hu := hu_of hr
  refine ⟨_, (pss_cons (ps_set (i := 2) nd rfl (.inl rfl) (pe_disp (pps_cons pe_str pe_int (pps_cons pe_str pe_int (pps_cons pe_str pe_int (pps_cons pe_str pe_int (pps_cons pe_str pe_int (pps_cons pe_str pe_int (pps_cons pe_str pe_int (pps_cons pe_str pe_int pps_nil)))))))) (by rfl) (by rfl) (fun z => by cases z) (by decide)))
    (pss_cons (ps_set (i := 3) nd rfl (.inl rfl) (pe_lst pa_nil))
    (pss_cons (ps_for PassesOwn.never rfl (pi_list (pv 0)) (pg_name (i := 4) nd rfl (.inl rfl))
    (pss_cons (ps_set (i := 5) nd rfl (.inl rfl) (pe_split (pv 4) pe_str))
    (pss_cons (ps_if (pt_cmp (pc_din hu (pe_ix ix_list (pv 5) pe_int (fun _ _ => rfl)) (pv 2))) (pss_cons (ps_set (i := 6) nd rfl (.inl rfl) (pe_ix ix_list (pv 1) (pe_dget hu (pv 2) (pe_ix ix_list (pv 5) pe_int (fun _ _ => rfl)) (fun _ _ => rfl)) (fun _ _ => rfl)))
    (pss_one (ps_asg (pe_dget2 hu (pv 6) (pe_ix ix_list (pv 5) pe_int (fun _ _ => rfl)) (pe_ix ix_list (pv 5) pe_int (fun _ _ => rfl)) (by constructor <;> rfl)) (pg_sub (pv 5) pe_int set_list)))) pss_nil)
    (pss_one (ps_expr (pe_bm PySem.F.plainAttrs_list PySem.F.slot_list_append PySem.F.type_list_append mt_append (pv 3) (pa_cons (pe_join pe_str (pv 5)) pa_nil)))))))
    (pss_one (ps_ret (pv 3)))))), ?_⟩
  refine fun d ndd => ⟨upd_same, [(.inr "job", .int 0), (.inr "begin", .int 0), (.inr "walk", .int 1), (.inr "each", .int 1), (.inr "wait", .int 2), (.inr "open", .int 2), (.inr "say", .int 3), (.inr "fail", .int 3)], rfl, by show 8 ≤ 15; decide, by show 0 ≤ sizeLine; decide, fun fl nfl => ⟨_, rfl, p, rfl, ?_⟩⟩
  have sm : Same H (upd (upd (upd H d (.dK [])) d (.dK (mergeK [] [(.inr "job", .int 0), (.inr "begin", .int 0), (.inr "walk", .int 1), (.inr "each", .int 1), (.inr "wait", .int 2), (.inr "open", .int 2), (.inr "say", .int 3), (.inr "fail", .int 3)]))) fl (.lst [])) := (same_put (same_ext ndd) ndd).trans (same_ext nfl)
  have ed : (upd (upd (upd H d (.dK [])) d (.dK (mergeK [] [(.inr "job", .int 0), (.inr "begin", .int 0), (.inr "walk", .int 1), (.inr "each", .int 1), (.inr "wait", .int 2), (.inr "open", .int 2), (.inr "say", .int 3), (.inr "fail", .int 3)]))) fl (.lst [])) d = some (.dK [(.inr "job", .int 0), (.inr "begin", .int 0), (.inr "walk", .int 1), (.inr "each", .int 1), (.inr "wait", .int 2), (.inr "open", .int 2), (.inr "say", .int 3), (.inr "fail", .int 3)]) := kn upd_same nfl
  have ef0 : (upd (upd (upd H d (.dK [])) d (.dK (mergeK [] [(.inr "job", .int 0), (.inr "begin", .int 0), (.inr "walk", .int 1), (.inr "each", .int 1), (.inr "wait", .int 2), (.inr "open", .int 2), (.inr "say", .int 3), (.inr "fail", .int 3)]))) fl (.lst [])) fl = some (rtexts ([] : List Row)) := upd_same
  have hfl : H fl = none := (fr (fr nfl).1).1
  have ndf : d ∉ [fl] := n1 (fr nfl).2.symm
  clear nfl
  revert sm ed ef0
  generalize (upd (upd (upd H d (.dK [])) d (.dK (mergeK [] [(.inr "job", .int 0), (.inr "begin", .int 0), (.inr "walk", .int 1), (.inr "each", .int 1), (.inr "wait", .int 2), (.inr "open", .int 2), (.inr "say", .int 3), (.inr "fail", .int 3)]))) fl (.lst [])) = G0
  intro sm ed ef0
  have ntf : t ∉ [fl] := n1 (ne_of_none T.t hfl)
  have npf0 : p ∉ [fl] := n1 (ne_of_none hp hfl)
  refine ⟨⟨_, SqL.of (sm _ _ hp)⟩, ?_⟩
  refine for_it (walk_list (K := K) (a := p) (xs := rs.map fun r => V.str r.text)) (fun i σ H' => ∃ t4 t5 t6 : Option V, σ = [some (.ref p), some (.ref t), some (.ref d), some (.ref fl), t4, t5, t6] ∧ But [fl] G0 H' ∧ H' fl = some (rtexts ((rs.take i).map (Row.ren F)))) ⟨_, _, _, rfl, But.refl, ef0⟩ (fun i σ H' _ pv => ?_) (fun i x σ H1 H2 hi pv y => ?_) (fun σ H' pv => ?_)
  · obtain ⟨_, _, _, _, bt, _⟩ := pv
    exact SqL.of (bt _ _ (sm _ _ hp) npf0)
  · obtain ⟨t4, t5, t6, rfl, bt, ef⟩ := pv
    obtain ⟨rfl, hx⟩ := y
    rw [List.length_map] at hi
    rw [List.getElem?_map, List.getElem?_eq_getElem hi] at hx
    have ex : x = .str rs[i].text := (Option.some.inj hx).symm
    subst ex
    have tk : rs.take (i + 1) = rs.take i ++ [rs[i]] := (List.take_append_getElem hi).symm
    have hro := hok _ (List.getElem_mem hi)
    have hro2 := hok2 _ (List.getElem_mem hi)
    have hlt : (rs.take i).length ≤ 300 := by rw [List.length_take]; omega
    revert tk hro hro2
    generalize rs[i] = row
    intro tk hro hro2
    refine ⟨_, rfl, ⟨_, rfl⟩, row.text, " ", rfl, rfl, by decide +kernel, ?_, fun pp npp0 => ?_⟩
    · have := text_len hro
      rw [sizeLine_eq]
      omega
    rw [split_text hro]
    have npf : pp ≠ fl := (ne_of_none ef npp0).symm
    have npp : G0 pp = none := bt.free npp0 (n1 npf)
    have ep : (upd H2 pp (.lst (row.parts.map V.str))) pp = some (lstS row.parts) := upd_same
    replace ef := kn (u := .lst (row.parts.map V.str)) ef npp0
    replace bt : But [fl] G0 (upd H2 pp (.lst (row.parts.map V.str))) := bt.new npp0
    clear npp0
    revert ef bt ep
    generalize (upd H2 pp (.lst (row.parts.map V.str))) = H3
    intro ep ef bt
    cases row with
    | defn w n =>
      cases w with
      | true =>
        refine ⟨_, rfl, pp, _, 0, _, rfl, rfl, SqL.of ep, atI_nat (j := 0) rfl, _, rfl, d, _, rfl, dgo (bt _ _ ed ndf), _, rfl, ifT rfl ?_⟩
        refine ⟨_, rfl, _, rfl, _, rfl, pp, _, 0, _, rfl, rfl, SqL.of ep, atI_nat (j := 0) rfl, d, .int 1, rfl, dg (bt _ _ ed ndf) rfl, t, _, 1, .ref t1, rfl, rfl, SqL.of (bt _ _ (sm _ _ T.t) ntf), atI_nat (j := 1) rfl, ?_⟩
        refine ⟨_, rfl, t1, rfl, .inl ⟨_, .inl (bt _ _ (sm _ _ T.e1) (n1 (ne_of_none T.e1 hfl)))⟩, _, rfl, pp, _, 1, _, rfl, rfl, SqL.of ep, atI_nat (j := 1) rfl, _, rfl, pp, _, 1, _, rfl, rfl, SqL.of ep, atI_nat (j := 1) rfl, _, dgo (bt _ _ (sm _ _ T.e1) (n1 (ne_of_none T.e1 hfl))), ?_⟩
        rw [T.f1 n]
        refine ⟨_, rfl, pp, _, 1, 1, rfl, rfl, ep, rfl, ?_⟩
        replace ef := ku (u := .lst (((Row.parts (.defn true n)).map V.str).set 1 (.str (F 1 n)))) ef npf.symm
        replace bt : But [fl] G0 (upd H3 pp (.lst (((Row.parts (.defn true n)).map V.str).set 1 (.str (F 1 n))))) := bt.put0 npp
        replace ep : (upd H3 pp (.lst (((Row.parts (.defn true n)).map V.str).set 1 (.str (F 1 n))))) pp = some (lstS (Row.parts (Row.ren F (.defn true n)))) := upd_same
        revert ef bt ep
        generalize (upd H3 pp (.lst (((Row.parts (.defn true n)).map V.str).set 1 (.str (F 1 n))))) = H4
        intro ef bt ep
        refine ⟨_, rfl, .inl ⟨rfl, _, SqL.of ef⟩, ⟨_, rfl⟩, _, rfl, " ", pp, Row.parts (Row.ren F (.defn true n)), rfl, rfl, .inl (SqL.of ep), join_small hro2, fl, _, _, rfl, rfl, ef, small1000 (by rw [List.length_map, List.length_map]; omega), ?_⟩
        refine ⟨_, _, _, rfl, bt.put m1, ?_⟩
        rw [upd_same, tk, List.map_append]
        unfold rtexts
        rw [List.map_append, TL.join_eq]
        rfl
      | false =>
        refine ⟨_, rfl, pp, _, 0, _, rfl, rfl, SqL.of ep, atI_nat (j := 0) rfl, _, rfl, d, _, rfl, dgo (bt _ _ ed ndf), _, rfl, ifT rfl ?_⟩
        refine ⟨_, rfl, _, rfl, _, rfl, pp, _, 0, _, rfl, rfl, SqL.of ep, atI_nat (j := 0) rfl, d, .int 0, rfl, dg (bt _ _ ed ndf) rfl, t, _, 0, .ref t0, rfl, rfl, SqL.of (bt _ _ (sm _ _ T.t) ntf), atI_nat (j := 0) rfl, ?_⟩
        refine ⟨_, rfl, t0, rfl, .inl ⟨_, .inl (bt _ _ (sm _ _ T.e0) (n1 (ne_of_none T.e0 hfl)))⟩, _, rfl, pp, _, 1, _, rfl, rfl, SqL.of ep, atI_nat (j := 1) rfl, _, rfl, pp, _, 1, _, rfl, rfl, SqL.of ep, atI_nat (j := 1) rfl, _, dgo (bt _ _ (sm _ _ T.e0) (n1 (ne_of_none T.e0 hfl))), ?_⟩
        rw [T.f0 n]
        refine ⟨_, rfl, pp, _, 1, 1, rfl, rfl, ep, rfl, ?_⟩
        replace ef := ku (u := .lst (((Row.parts (.defn false n)).map V.str).set 1 (.str (F 0 n)))) ef npf.symm
        replace bt : But [fl] G0 (upd H3 pp (.lst (((Row.parts (.defn false n)).map V.str).set 1 (.str (F 0 n))))) := bt.put0 npp
        replace ep : (upd H3 pp (.lst (((Row.parts (.defn false n)).map V.str).set 1 (.str (F 0 n))))) pp = some (lstS (Row.parts (Row.ren F (.defn false n)))) := upd_same
        revert ef bt ep
        generalize (upd H3 pp (.lst (((Row.parts (.defn false n)).map V.str).set 1 (.str (F 0 n))))) = H4
        intro ef bt ep
        refine ⟨_, rfl, .inl ⟨rfl, _, SqL.of ef⟩, ⟨_, rfl⟩, _, rfl, " ", pp, Row.parts (Row.ren F (.defn false n)), rfl, rfl, .inl (SqL.of ep), join_small hro2, fl, _, _, rfl, rfl, ef, small1000 (by rw [List.length_map, List.length_map]; omega), ?_⟩
        refine ⟨_, _, _, rfl, bt.put m1, ?_⟩
        rw [upd_same, tk, List.map_append]
        unfold rtexts
        rw [List.map_append, TL.join_eq]
        rfl
    | named k n =>
      cases k with
      | say =>
        refine ⟨_, rfl, pp, _, 0, _, rfl, rfl, SqL.of ep, atI_nat (j := 0) rfl, _, rfl, d, _, rfl, dgo (bt _ _ ed ndf), _, rfl, ifT rfl ?_⟩
        refine ⟨_, rfl, _, rfl, _, rfl, pp, _, 0, _, rfl, rfl, SqL.of ep, atI_nat (j := 0) rfl, d, .int 3, rfl, dg (bt _ _ ed ndf) rfl, t, _, 3, .ref t3, rfl, rfl, SqL.of (bt _ _ (sm _ _ T.t) ntf), atI_nat (j := 3) rfl, ?_⟩
        refine ⟨_, rfl, t3, rfl, .inl ⟨_, .inl (bt _ _ (sm _ _ T.e3) (n1 (ne_of_none T.e3 hfl)))⟩, _, rfl, pp, _, 1, _, rfl, rfl, SqL.of ep, atI_nat (j := 1) rfl, _, rfl, pp, _, 1, _, rfl, rfl, SqL.of ep, atI_nat (j := 1) rfl, _, dgo (bt _ _ (sm _ _ T.e3) (n1 (ne_of_none T.e3 hfl))), ?_⟩
        rw [T.f3 n]
        refine ⟨_, rfl, pp, _, 1, 1, rfl, rfl, ep, rfl, ?_⟩
        replace ef := ku (u := .lst (((Row.parts (.named .say n)).map V.str).set 1 (.str (F 3 n)))) ef npf.symm
        replace bt : But [fl] G0 (upd H3 pp (.lst (((Row.parts (.named .say n)).map V.str).set 1 (.str (F 3 n))))) := bt.put0 npp
        replace ep : (upd H3 pp (.lst (((Row.parts (.named .say n)).map V.str).set 1 (.str (F 3 n))))) pp = some (lstS (Row.parts (Row.ren F (.named .say n)))) := upd_same
        revert ef bt ep
        generalize (upd H3 pp (.lst (((Row.parts (.named .say n)).map V.str).set 1 (.str (F 3 n))))) = H4
        intro ef bt ep
        refine ⟨_, rfl, .inl ⟨rfl, _, SqL.of ef⟩, ⟨_, rfl⟩, _, rfl, " ", pp, Row.parts (Row.ren F (.named .say n)), rfl, rfl, .inl (SqL.of ep), join_small hro2, fl, _, _, rfl, rfl, ef, small1000 (by rw [List.length_map, List.length_map]; omega), ?_⟩
        refine ⟨_, _, _, rfl, bt.put m1, ?_⟩
        rw [upd_same, tk, List.map_append]
        unfold rtexts
        rw [List.map_append, TL.join_eq]
        rfl
      | fail =>
        refine ⟨_, rfl, pp, _, 0, _, rfl, rfl, SqL.of ep, atI_nat (j := 0) rfl, _, rfl, d, _, rfl, dgo (bt _ _ ed ndf), _, rfl, ifT rfl ?_⟩
        refine ⟨_, rfl, _, rfl, _, rfl, pp, _, 0, _, rfl, rfl, SqL.of ep, atI_nat (j := 0) rfl, d, .int 3, rfl, dg (bt _ _ ed ndf) rfl, t, _, 3, .ref t3, rfl, rfl, SqL.of (bt _ _ (sm _ _ T.t) ntf), atI_nat (j := 3) rfl, ?_⟩
        refine ⟨_, rfl, t3, rfl, .inl ⟨_, .inl (bt _ _ (sm _ _ T.e3) (n1 (ne_of_none T.e3 hfl)))⟩, _, rfl, pp, _, 1, _, rfl, rfl, SqL.of ep, atI_nat (j := 1) rfl, _, rfl, pp, _, 1, _, rfl, rfl, SqL.of ep, atI_nat (j := 1) rfl, _, dgo (bt _ _ (sm _ _ T.e3) (n1 (ne_of_none T.e3 hfl))), ?_⟩
        rw [T.f3 n]
        refine ⟨_, rfl, pp, _, 1, 1, rfl, rfl, ep, rfl, ?_⟩
        replace ef := ku (u := .lst (((Row.parts (.named .fail n)).map V.str).set 1 (.str (F 3 n)))) ef npf.symm
        replace bt : But [fl] G0 (upd H3 pp (.lst (((Row.parts (.named .fail n)).map V.str).set 1 (.str (F 3 n))))) := bt.put0 npp
        replace ep : (upd H3 pp (.lst (((Row.parts (.named .fail n)).map V.str).set 1 (.str (F 3 n))))) pp = some (lstS (Row.parts (Row.ren F (.named .fail n)))) := upd_same
        revert ef bt ep
        generalize (upd H3 pp (.lst (((Row.parts (.named .fail n)).map V.str).set 1 (.str (F 3 n))))) = H4
        intro ef bt ep
        refine ⟨_, rfl, .inl ⟨rfl, _, SqL.of ef⟩, ⟨_, rfl⟩, _, rfl, " ", pp, Row.parts (Row.ren F (.named .fail n)), rfl, rfl, .inl (SqL.of ep), join_small hro2, fl, _, _, rfl, rfl, ef, small1000 (by rw [List.length_map, List.length_map]; omega), ?_⟩
        refine ⟨_, _, _, rfl, bt.put m1, ?_⟩
        rw [upd_same, tk, List.map_append]
        unfold rtexts
        rw [List.map_append, TL.join_eq]
        rfl
      | wait =>
        refine ⟨_, rfl, pp, _, 0, _, rfl, rfl, SqL.of ep, atI_nat (j := 0) rfl, _, rfl, d, _, rfl, dgo (bt _ _ ed ndf), _, rfl, ifT rfl ?_⟩
        refine ⟨_, rfl, _, rfl, _, rfl, pp, _, 0, _, rfl, rfl, SqL.of ep, atI_nat (j := 0) rfl, d, .int 2, rfl, dg (bt _ _ ed ndf) rfl, t, _, 2, .ref t2, rfl, rfl, SqL.of (bt _ _ (sm _ _ T.t) ntf), atI_nat (j := 2) rfl, ?_⟩
        refine ⟨_, rfl, t2, rfl, .inl ⟨_, .inl (bt _ _ (sm _ _ T.e2) (n1 (ne_of_none T.e2 hfl)))⟩, _, rfl, pp, _, 1, _, rfl, rfl, SqL.of ep, atI_nat (j := 1) rfl, _, rfl, pp, _, 1, _, rfl, rfl, SqL.of ep, atI_nat (j := 1) rfl, _, dgo (bt _ _ (sm _ _ T.e2) (n1 (ne_of_none T.e2 hfl))), ?_⟩
        rw [T.f2 n]
        refine ⟨_, rfl, pp, _, 1, 1, rfl, rfl, ep, rfl, ?_⟩
        replace ef := ku (u := .lst (((Row.parts (.named .wait n)).map V.str).set 1 (.str (F 2 n)))) ef npf.symm
        replace bt : But [fl] G0 (upd H3 pp (.lst (((Row.parts (.named .wait n)).map V.str).set 1 (.str (F 2 n))))) := bt.put0 npp
        replace ep : (upd H3 pp (.lst (((Row.parts (.named .wait n)).map V.str).set 1 (.str (F 2 n))))) pp = some (lstS (Row.parts (Row.ren F (.named .wait n)))) := upd_same
        revert ef bt ep
        generalize (upd H3 pp (.lst (((Row.parts (.named .wait n)).map V.str).set 1 (.str (F 2 n))))) = H4
        intro ef bt ep
        refine ⟨_, rfl, .inl ⟨rfl, _, SqL.of ef⟩, ⟨_, rfl⟩, _, rfl, " ", pp, Row.parts (Row.ren F (.named .wait n)), rfl, rfl, .inl (SqL.of ep), join_small hro2, fl, _, _, rfl, rfl, ef, small1000 (by rw [List.length_map, List.length_map]; omega), ?_⟩
        refine ⟨_, _, _, rfl, bt.put m1, ?_⟩
        rw [upd_same, tk, List.map_append]
        unfold rtexts
        rw [List.map_append, TL.join_eq]
        rfl
      | opn =>
        refine ⟨_, rfl, pp, _, 0, _, rfl, rfl, SqL.of ep, atI_nat (j := 0) rfl, _, rfl, d, _, rfl, dgo (bt _ _ ed ndf), _, rfl, ifT rfl ?_⟩
        refine ⟨_, rfl, _, rfl, _, rfl, pp, _, 0, _, rfl, rfl, SqL.of ep, atI_nat (j := 0) rfl, d, .int 2, rfl, dg (bt _ _ ed ndf) rfl, t, _, 2, .ref t2, rfl, rfl, SqL.of (bt _ _ (sm _ _ T.t) ntf), atI_nat (j := 2) rfl, ?_⟩
        refine ⟨_, rfl, t2, rfl, .inl ⟨_, .inl (bt _ _ (sm _ _ T.e2) (n1 (ne_of_none T.e2 hfl)))⟩, _, rfl, pp, _, 1, _, rfl, rfl, SqL.of ep, atI_nat (j := 1) rfl, _, rfl, pp, _, 1, _, rfl, rfl, SqL.of ep, atI_nat (j := 1) rfl, _, dgo (bt _ _ (sm _ _ T.e2) (n1 (ne_of_none T.e2 hfl))), ?_⟩
        rw [T.f2 n]
        refine ⟨_, rfl, pp, _, 1, 1, rfl, rfl, ep, rfl, ?_⟩
        replace ef := ku (u := .lst (((Row.parts (.named .opn n)).map V.str).set 1 (.str (F 2 n)))) ef npf.symm
        replace bt : But [fl] G0 (upd H3 pp (.lst (((Row.parts (.named .opn n)).map V.str).set 1 (.str (F 2 n))))) := bt.put0 npp
        replace ep : (upd H3 pp (.lst (((Row.parts (.named .opn n)).map V.str).set 1 (.str (F 2 n))))) pp = some (lstS (Row.parts (Row.ren F (.named .opn n)))) := upd_same
        revert ef bt ep
        generalize (upd H3 pp (.lst (((Row.parts (.named .opn n)).map V.str).set 1 (.str (F 2 n))))) = H4
        intro ef bt ep
        refine ⟨_, rfl, .inl ⟨rfl, _, SqL.of ef⟩, ⟨_, rfl⟩, _, rfl, " ", pp, Row.parts (Row.ren F (.named .opn n)), rfl, rfl, .inl (SqL.of ep), join_small hro2, fl, _, _, rfl, rfl, ef, small1000 (by rw [List.length_map, List.length_map]; omega), ?_⟩
        refine ⟨_, _, _, rfl, bt.put m1, ?_⟩
        rw [upd_same, tk, List.map_append]
        unfold rtexts
        rw [List.map_append, TL.join_eq]
        rfl
      | begin =>
        refine ⟨_, rfl, pp, _, 0, _, rfl, rfl, SqL.of ep, atI_nat (j := 0) rfl, _, rfl, d, _, rfl, dgo (bt _ _ ed ndf), _, rfl, ifT rfl ?_⟩
        refine ⟨_, rfl, _, rfl, _, rfl, pp, _, 0, _, rfl, rfl, SqL.of ep, atI_nat (j := 0) rfl, d, .int 0, rfl, dg (bt _ _ ed ndf) rfl, t, _, 0, .ref t0, rfl, rfl, SqL.of (bt _ _ (sm _ _ T.t) ntf), atI_nat (j := 0) rfl, ?_⟩
        refine ⟨_, rfl, t0, rfl, .inl ⟨_, .inl (bt _ _ (sm _ _ T.e0) (n1 (ne_of_none T.e0 hfl)))⟩, _, rfl, pp, _, 1, _, rfl, rfl, SqL.of ep, atI_nat (j := 1) rfl, _, rfl, pp, _, 1, _, rfl, rfl, SqL.of ep, atI_nat (j := 1) rfl, _, dgo (bt _ _ (sm _ _ T.e0) (n1 (ne_of_none T.e0 hfl))), ?_⟩
        rw [T.f0 n]
        refine ⟨_, rfl, pp, _, 1, 1, rfl, rfl, ep, rfl, ?_⟩
        replace ef := ku (u := .lst (((Row.parts (.named .begin n)).map V.str).set 1 (.str (F 0 n)))) ef npf.symm
        replace bt : But [fl] G0 (upd H3 pp (.lst (((Row.parts (.named .begin n)).map V.str).set 1 (.str (F 0 n))))) := bt.put0 npp
        replace ep : (upd H3 pp (.lst (((Row.parts (.named .begin n)).map V.str).set 1 (.str (F 0 n))))) pp = some (lstS (Row.parts (Row.ren F (.named .begin n)))) := upd_same
        revert ef bt ep
        generalize (upd H3 pp (.lst (((Row.parts (.named .begin n)).map V.str).set 1 (.str (F 0 n))))) = H4
        intro ef bt ep
        refine ⟨_, rfl, .inl ⟨rfl, _, SqL.of ef⟩, ⟨_, rfl⟩, _, rfl, " ", pp, Row.parts (Row.ren F (.named .begin n)), rfl, rfl, .inl (SqL.of ep), join_small hro2, fl, _, _, rfl, rfl, ef, small1000 (by rw [List.length_map, List.length_map]; omega), ?_⟩
        refine ⟨_, _, _, rfl, bt.put m1, ?_⟩
        rw [upd_same, tk, List.map_append]
        unfold rtexts
        rw [List.map_append, TL.join_eq]
        rfl
    | each wk how tm =>
      cases tm with
      | none =>
        refine ⟨_, rfl, pp, _, 0, _, rfl, rfl, SqL.of ep, atI_nat (j := 0) rfl, _, rfl, d, _, rfl, dgo (bt _ _ ed ndf), _, rfl, ifT rfl ?_⟩
        refine ⟨_, rfl, _, rfl, _, rfl, pp, _, 0, _, rfl, rfl, SqL.of ep, atI_nat (j := 0) rfl, d, .int 1, rfl, dg (bt _ _ ed ndf) rfl, t, _, 1, .ref t1, rfl, rfl, SqL.of (bt _ _ (sm _ _ T.t) ntf), atI_nat (j := 1) rfl, ?_⟩
        refine ⟨_, rfl, t1, rfl, .inl ⟨_, .inl (bt _ _ (sm _ _ T.e1) (n1 (ne_of_none T.e1 hfl)))⟩, _, rfl, pp, _, 1, _, rfl, rfl, SqL.of ep, atI_nat (j := 1) rfl, _, rfl, pp, _, 1, _, rfl, rfl, SqL.of ep, atI_nat (j := 1) rfl, _, dgo (bt _ _ (sm _ _ T.e1) (n1 (ne_of_none T.e1 hfl))), ?_⟩
        rw [T.f1 wk]
        refine ⟨_, rfl, pp, _, 1, 1, rfl, rfl, ep, rfl, ?_⟩
        replace ef := ku (u := .lst (((Row.parts (.each wk how none)).map V.str).set 1 (.str (F 1 wk)))) ef npf.symm
        replace bt : But [fl] G0 (upd H3 pp (.lst (((Row.parts (.each wk how none)).map V.str).set 1 (.str (F 1 wk))))) := bt.put0 npp
        replace ep : (upd H3 pp (.lst (((Row.parts (.each wk how none)).map V.str).set 1 (.str (F 1 wk))))) pp = some (lstS (Row.parts (Row.ren F (.each wk how none)))) := upd_same
        revert ef bt ep
        generalize (upd H3 pp (.lst (((Row.parts (.each wk how none)).map V.str).set 1 (.str (F 1 wk))))) = H4
        intro ef bt ep
        refine ⟨_, rfl, .inl ⟨rfl, _, SqL.of ef⟩, ⟨_, rfl⟩, _, rfl, " ", pp, Row.parts (Row.ren F (.each wk how none)), rfl, rfl, .inl (SqL.of ep), join_small hro2, fl, _, _, rfl, rfl, ef, small1000 (by rw [List.length_map, List.length_map]; omega), ?_⟩
        refine ⟨_, _, _, rfl, bt.put m1, ?_⟩
        rw [upd_same, tk, List.map_append]
        unfold rtexts
        rw [List.map_append, TL.join_eq]
        rfl
      | some dd =>
        refine ⟨_, rfl, pp, _, 0, _, rfl, rfl, SqL.of ep, atI_nat (j := 0) rfl, _, rfl, d, _, rfl, dgo (bt _ _ ed ndf), _, rfl, ifT rfl ?_⟩
        refine ⟨_, rfl, _, rfl, _, rfl, pp, _, 0, _, rfl, rfl, SqL.of ep, atI_nat (j := 0) rfl, d, .int 1, rfl, dg (bt _ _ ed ndf) rfl, t, _, 1, .ref t1, rfl, rfl, SqL.of (bt _ _ (sm _ _ T.t) ntf), atI_nat (j := 1) rfl, ?_⟩
        refine ⟨_, rfl, t1, rfl, .inl ⟨_, .inl (bt _ _ (sm _ _ T.e1) (n1 (ne_of_none T.e1 hfl)))⟩, _, rfl, pp, _, 1, _, rfl, rfl, SqL.of ep, atI_nat (j := 1) rfl, _, rfl, pp, _, 1, _, rfl, rfl, SqL.of ep, atI_nat (j := 1) rfl, _, dgo (bt _ _ (sm _ _ T.e1) (n1 (ne_of_none T.e1 hfl))), ?_⟩
        rw [T.f1 wk]
        refine ⟨_, rfl, pp, _, 1, 1, rfl, rfl, ep, rfl, ?_⟩
        replace ef := ku (u := .lst (((Row.parts (.each wk how (some dd))).map V.str).set 1 (.str (F 1 wk)))) ef npf.symm
        replace bt : But [fl] G0 (upd H3 pp (.lst (((Row.parts (.each wk how (some dd))).map V.str).set 1 (.str (F 1 wk))))) := bt.put0 npp
        replace ep : (upd H3 pp (.lst (((Row.parts (.each wk how (some dd))).map V.str).set 1 (.str (F 1 wk))))) pp = some (lstS (Row.parts (Row.ren F (.each wk how (some dd))))) := upd_same
        revert ef bt ep
        generalize (upd H3 pp (.lst (((Row.parts (.each wk how (some dd))).map V.str).set 1 (.str (F 1 wk))))) = H4
        intro ef bt ep
        refine ⟨_, rfl, .inl ⟨rfl, _, SqL.of ef⟩, ⟨_, rfl⟩, _, rfl, " ", pp, Row.parts (Row.ren F (.each wk how (some dd))), rfl, rfl, .inl (SqL.of ep), join_small hro2, fl, _, _, rfl, rfl, ef, small1000 (by rw [List.length_map, List.length_map]; omega), ?_⟩
        refine ⟨_, _, _, rfl, bt.put m1, ?_⟩
        rw [upd_same, tk, List.map_append]
        unfold rtexts
        rw [List.map_append, TL.join_eq]
        rfl
    | fin =>
      refine ⟨_, rfl, pp, _, 0, _, rfl, rfl, SqL.of ep, atI_nat (j := 0) rfl, _, rfl, d, _, rfl, dgo (bt _ _ ed ndf), _, rfl, ifF rfl ?_⟩
      refine ⟨_, rfl, .inl ⟨rfl, _, SqL.of ef⟩, ⟨_, rfl⟩, _, rfl, " ", pp, Row.parts (Row.ren F .fin), rfl, rfl, .inl (SqL.of ep), join_small hro2, fl, _, _, rfl, rfl, ef, small1000 (by rw [List.length_map, List.length_map]; omega), ?_⟩
      refine ⟨_, _, _, rfl, bt.put m1, ?_⟩
      rw [upd_same, tk, List.map_append]
      unfold rtexts
      rw [List.map_append, TL.join_eq]
      rfl
    | pause =>
      refine ⟨_, rfl, pp, _, 0, _, rfl, rfl, SqL.of ep, atI_nat (j := 0) rfl, _, rfl, d, _, rfl, dgo (bt _ _ ed ndf), _, rfl, ifF rfl ?_⟩
      refine ⟨_, rfl, .inl ⟨rfl, _, SqL.of ef⟩, ⟨_, rfl⟩, _, rfl, " ", pp, Row.parts (Row.ren F .pause), rfl, rfl, .inl (SqL.of ep), join_small hro2, fl, _, _, rfl, rfl, ef, small1000 (by rw [List.length_map, List.length_map]; omega), ?_⟩
      refine ⟨_, _, _, rfl, bt.put m1, ?_⟩
      rw [upd_same, tk, List.map_append]
      unfold rtexts
      rw [List.map_append, TL.join_eq]
      rfl
    | give =>
      refine ⟨_, rfl, pp, _, 0, _, rfl, rfl, SqL.of ep, atI_nat (j := 0) rfl, _, rfl, d, _, rfl, dgo (bt _ _ ed ndf), _, rfl, ifF rfl ?_⟩
      refine ⟨_, rfl, .inl ⟨rfl, _, SqL.of ef⟩, ⟨_, rfl⟩, _, rfl, " ", pp, Row.parts (Row.ren F .give), rfl, rfl, .inl (SqL.of ep), join_small hro2, fl, _, _, rfl, rfl, ef, small1000 (by rw [List.length_map, List.length_map]; omega), ?_⟩
      refine ⟨_, _, _, rfl, bt.put m1, ?_⟩
      rw [upd_same, tk, List.map_append]
      unfold rtexts
      rw [List.map_append, TL.join_eq]
      rfl
    | rep dd =>
      refine ⟨_, rfl, pp, _, 0, _, rfl, rfl, SqL.of ep, atI_nat (j := 0) rfl, _, rfl, d, _, rfl, dgo (bt _ _ ed ndf), _, rfl, ifF rfl ?_⟩
      refine ⟨_, rfl, .inl ⟨rfl, _, SqL.of ef⟩, ⟨_, rfl⟩, _, rfl, " ", pp, Row.parts (Row.ren F (.rep dd)), rfl, rfl, .inl (SqL.of ep), join_small hro2, fl, _, _, rfl, rfl, ef, small1000 (by rw [List.length_map, List.length_map]; omega), ?_⟩
      refine ⟨_, _, _, rfl, bt.put m1, ?_⟩
      rw [upd_same, tk, List.map_append]
      unfold rtexts
      rw [List.map_append, TL.join_eq]
      rfl
    | guard =>
      refine ⟨_, rfl, pp, _, 0, _, rfl, rfl, SqL.of ep, atI_nat (j := 0) rfl, _, rfl, d, _, rfl, dgo (bt _ _ ed ndf), _, rfl, ifF rfl ?_⟩
      refine ⟨_, rfl, .inl ⟨rfl, _, SqL.of ef⟩, ⟨_, rfl⟩, _, rfl, " ", pp, Row.parts (Row.ren F .guard), rfl, rfl, .inl (SqL.of ep), join_small hro2, fl, _, _, rfl, rfl, ef, small1000 (by rw [List.length_map, List.length_map]; omega), ?_⟩
      refine ⟨_, _, _, rfl, bt.put m1, ?_⟩
      rw [upd_same, tk, List.map_append]
      unfold rtexts
      rw [List.map_append, TL.join_eq]
      rfl
    | turn l =>
      refine ⟨_, rfl, pp, _, 0, _, rfl, rfl, SqL.of ep, atI_nat (j := 0) rfl, _, rfl, d, _, rfl, dgo (bt _ _ ed ndf), _, rfl, ifF (by cases l <;> rfl) ?_⟩
      refine ⟨_, rfl, .inl ⟨rfl, _, SqL.of ef⟩, ⟨_, rfl⟩, _, rfl, " ", pp, Row.parts (Row.ren F (.turn l)), rfl, rfl, .inl (SqL.of ep), join_small hro2, fl, _, _, rfl, rfl, ef, small1000 (by rw [List.length_map, List.length_map]; omega), ?_⟩
      refine ⟨_, _, _, rfl, bt.put m1, ?_⟩
      rw [upd_same, tk, List.map_append]
      unfold rtexts
      rw [List.map_append, TL.join_eq]
      rfl
  · obtain ⟨t4, t5, t6, rfl, bt, ef⟩ := pv
    rw [List.length_map, List.take_length] at ef
    exact ⟨_, rfl, q fl H' (fun c o hc => bt c o (sm _ _ hc) (n1 (ne_of_none hc hfl))) hfl ef⟩
end
end K8
set_option Elab.async false
set_option linter.all false
set_option maxRecDepth 100000
set_option maxHeartbeats 4000000
/-! The walk of _law_definitions. -/
namespace K8
open PySem PyProof.Rows L2
/-- rows by definitions -/
def grp (acc : List (List Row)) (r : Row) : List (List Row) := if r.isDef then acc ++ [[r]] else acc.dropLast ++ [acc.getLastD [] ++ [r]]
theorem grp_body : ∀ (b : List Row) (acc : List (List Row)) (g : List Row), (∀ r ∈ b, r.isDef = false) → b.foldl grp (acc ++ [g]) = acc ++ [g ++ b]
  | [], acc, g, _ => by simp
  | r :: b, acc, g, h => by
    have e : grp (acc ++ [g]) r = acc ++ [g ++ [r]] := by
      unfold grp
      rw [h r List.mem_cons_self]
      simp
    rw [List.foldl_cons, e, grp_body b acc (g ++ [r]) fun r hr => h r (List.mem_cons_of_mem _ hr)]
    simp
theorem grp_flat : ∀ (ds : List Def) (acc : List (List Row)), (∀ d ∈ ds, ∀ r ∈ d.body, r.isDef = false) → (flat ds).foldl grp acc = acc ++ ds.map Def.rows
  | [], acc, _ => by simp [flat]
  | d :: ds, acc, h => by
    rw [flat_cons, List.foldl_append]
    have e : d.rows.foldl grp acc = acc ++ [d.rows] := by
      show (d.body ++ [Row.fin]).foldl grp (grp acc (.defn d.w d.n)) = _
      have e0 : grp acc (.defn d.w d.n) = acc ++ [[.defn d.w d.n]] := rfl
      rw [e0, grp_body _ _ _ (fun r hr => by
        rcases List.mem_append.mp hr with hr | hr
        · exact h d List.mem_cons_self r hr
        · rw [List.mem_singleton.mp hr]; rfl)]
      rfl
    rw [e, grp_flat ds _ fun d hd => h d (List.mem_cons_of_mem _ hd)]
    simp
theorem rows_nodef {c : Ctx} {b : List Row} (h : Rows c b) : ∀ r ∈ b, r.isDef = false := by
  induction h with
  | nil => intro r hr; cases hr
  | app _ _ i1 i2 => intro r hr; rcases List.mem_append.mp hr with hr | hr; exact i1 r hr; exact i2 r hr
  | pause => intro r hr; rw [List.mem_singleton.mp hr]; rfl
  | give _ _ => intro r hr; rw [List.mem_singleton.mp hr]; rfl
  | named _ _ => intro r hr; rw [List.mem_singleton.mp hr]; rfl
  | rep _ _ ih =>
    intro r hr
    rcases List.mem_cons.mp hr with rfl | hr
    · rfl
    · rcases List.mem_append.mp hr with hr | hr
      · exact ih r hr
      · rw [List.mem_singleton.mp hr]; rfl
  | guard _ _ i1 i2 =>
    intro r hr
    rcases List.mem_cons.mp hr with rfl | hr
    · rfl
    · rcases List.mem_append.mp hr with hr | hr
      · exact i1 r hr
      · rcases List.mem_cons.mp hr with rfl | hr
        · rfl
        · rcases List.mem_append.mp hr with hr | hr
          · exact i2 r hr
          · rw [List.mem_singleton.mp hr]; rfl
  | each _ _ _ _ _ ih =>
    intro r hr
    rcases List.mem_cons.mp hr with rfl | hr
    · rfl
    · rcases List.mem_append.mp hr with hr | hr
      · exact ih r hr
      · rw [List.mem_singleton.mp hr]; rfl
theorem grp_len : ∀ (l : List Row) (acc : List (List Row)) (n : Nat), acc.length ≤ n → (∀ g ∈ acc, g.length ≤ n) → (l.foldl grp acc).length ≤ n + l.length ∧ ∀ g ∈ l.foldl grp acc, g.length ≤ n + l.length
  | [], acc, n, h1, h2 => ⟨h1, h2⟩
  | r :: l, acc, n, h1, h2 => by
    have k : (grp acc r).length ≤ n + 1 ∧ ∀ g ∈ grp acc r, g.length ≤ n + 1 := by
      unfold grp
      split
      · refine ⟨by rw [List.length_append, List.length_singleton]; omega, fun g hg => ?_⟩
        rcases List.mem_append.mp hg with hg | hg
        · have := h2 g hg; omega
        · rw [List.mem_singleton.mp hg]; show 1 ≤ n + 1; omega
      · refine ⟨by rw [List.length_append, List.length_singleton, List.length_dropLast]; omega, fun g hg => ?_⟩
        rcases List.mem_append.mp hg with hg | hg
        · have := h2 g ((List.dropLast_sublist acc).subset hg); omega
        · rw [List.mem_singleton.mp hg, List.length_append, List.length_singleton]
          cases acc with
          | nil => show 0 + 1 ≤ n + 1; omega
          | cons a as =>
            have := h2 ((a :: as).getLastD []) (by rw [List.getLastD_cons]; cases as with | nil => simp | cons b bs => exact List.mem_cons_of_mem _ (by rw [List.getLastD_cons]; exact List.getLastD_mem_cons ..))
            omega
    have q := grp_len l (grp acc r) (n + 1) k.1 k.2
    rw [List.foldl_cons, List.length_cons]
    refine ⟨by have := q.1; omega, fun g hg => by have := q.2 g hg; omega⟩
theorem grp_ne : ∀ (l : List Row) (acc : List (List Row)), acc ≠ [] → l.foldl grp acc ≠ []
  | [], _, h => h
  | r :: l, acc, h => by
    rw [List.foldl_cons]
    refine grp_ne l _ ?_
    unfold grp
    split <;> simp
theorem word_def (r : Row) {wd : Str} {rest : List Str} (h : r.parts = wd :: rest) : (if false = true then !inV (.str wd) [.str "job", .str "walk"] else inV (.str wd) [.str "job", .str "walk"]) = r.isDef := by
  cases r with
  | defn w n => rw [← (List.cons.inj h).1]; show _ = true; cases w <;> decide +kernel
  | named k x => rw [← (List.cons.inj h).1]; show _ = false; cases k <;> decide +kernel
  | turn l => rw [← (List.cons.inj h).1]; show _ = false; cases l <;> decide +kernel
  | each a b c => cases c <;> (rw [← (List.cons.inj h).1]; show _ = false; decide +kernel)
  | _ => rw [← (List.cons.inj h).1]; show _ = false; decide +kernel
/-- lists of rows on the heap, the list of them at fl -/
structure Grp (H0 H : Hp) (fl : Addr) (as : List Addr) (G : List (List Row)) : Prop where
  sm : Same H0 H
  e_fl : H fl = some (.lst (as.map V.ref))
  f0 : H0 fl = none
  len : as.length = G.length
  at_ : ∀ (j : Nat) (g : List Row) (a : Addr), G[j]? = some g → as[j]? = some a → H a = some (rtexts g) ∧ H0 a = none ∧ a ≠ fl
  nd : as.Nodup
theorem Grp.same {H0 H H' : Hp} {fl : Addr} {as : List Addr} {G : List (List Row)} (h : Grp H0 H fl as G) (s : Same H H') : Grp H0 H' fl as G :=
  ⟨h.sm.trans s, s _ _ h.e_fl, h.f0, h.len, fun j g a e1 e2 => ⟨s _ _ (h.at_ j g a e1 e2).1, (h.at_ j g a e1 e2).2⟩, h.nd⟩
theorem Grp.new {H0 H : Hp} {fl a : Addr} {as : List Addr} {G : List (List Row)} (h : Grp H0 H fl as G) (na : H a = none) : Grp H0 (upd (upd H a (.lst [])) fl (.lst ((as ++ [a]).map V.ref))) fl (as ++ [a]) (G ++ [[]]) := by
  have haf : a ≠ fl := (ne_of_none h.e_fl na).symm
  have nin : a ∉ as := fun hm => by
    obtain ⟨j, hj⟩ := List.getElem?_of_mem hm
    have hl : j < G.length := by rw [← h.len]; exact (List.getElem?_eq_some_iff.mp hj).1
    have := (h.at_ j _ a (List.getElem?_eq_getElem hl) hj).1
    rw [na] at this
    cases this
  refine ⟨same_put (h.sm.trans (same_ext na)) h.f0, upd_same, h.f0, by simp [h.len], fun j g b e1 e2 => ?_, List.nodup_append.mpr ⟨h.nd, by simp, fun x hx y hy e => nin (by rw [← List.mem_singleton.mp hy, ← e]; exact hx)⟩⟩
  rcases snoc_at e1 with ⟨l1, e1⟩ | ⟨l1, rfl⟩ <;> rcases snoc_at e2 with ⟨l2, e2⟩ | ⟨l2, rfl⟩
  · obtain ⟨z1, z2, z3⟩ := h.at_ j g b e1 e2
    exact ⟨ku (kn z1 na) z3, z2, z3⟩
  · exact absurd l1 (by rw [← h.len]; omega)
  · exact absurd l2 (by rw [h.len]; omega)
  · exact ⟨ku upd_same haf, none_of h.sm na, haf⟩
theorem Grp.row {H0 H : Hp} {fl a : Addr} {as : List Addr} {G : List (List Row)} {g : List Row} (h : Grp H0 H fl (as ++ [a]) (G ++ [g])) (r : Row) : Grp H0 (upd H a (.lst ((g.map fun r => V.str r.text) ++ [.str r.text]))) fl (as ++ [a]) (G ++ [g ++ [r]]) := by
  have hl : as.length = G.length := by have q := h.len; rw [List.length_append, List.length_append] at q; exact Nat.succ.inj q
  obtain ⟨z1, z2, z3⟩ := h.at_ G.length g a (by simp) (by rw [← hl]; simp)
  refine ⟨same_put h.sm z2, ku h.e_fl z3.symm, h.f0, by simp [hl], fun j g' b e1 e2 => ?_, h.nd⟩
  rcases snoc_at e1 with ⟨l1, e1⟩ | ⟨l1, rfl⟩ <;> rcases snoc_at e2 with ⟨l2, e2⟩ | ⟨l2, rfl⟩
  · obtain ⟨y1, y2, y3⟩ := h.at_ j g' b (by rw [List.getElem?_append_left l1]; exact e1) (by rw [List.getElem?_append_left l2]; exact e2)
    refine ⟨ku y1 fun z => ?_, y2, y3⟩
    exact (List.nodup_append.mp h.nd).2.2 b (List.mem_of_getElem? e2) a (by simp) z
  · omega
  · omega
  · exact ⟨by rw [upd_same]; unfold rtexts; rw [List.map_append]; rfl, z2, z3⟩
section
variable {P : Program} {w : World} {K : PySem.W.Frag} {mg : Str → Option Value} {base : Heap} {f : Addr} {fd : FuncData}
abbrev sLdefs : Stmt := top 46
theorem scLdefs : FnScope ["_law_rows_here", "_law_found", "_law_row_here"] ["_law_rows_here"] (defScope sLdefs) := ⟨rfl, rfl, rfl, by decide +kernel, rfl, by decide +kernel, by decide +kernel⟩
def spLdefs : Sp := fun vs H Q _ => ∃ (ds : List Def) (p : Addr), vs = [.ref p] ∧ H p = some (rtexts (flat ds)) ∧ (∀ r ∈ flat ds, r.Ok) ∧ (∀ d ∈ ds, ∀ r ∈ d.body, r.isDef = false) ∧ (flat ds).length ≤ 300 ∧
  ∀ r as H', Grp H H' r as (ds.map Def.rows) → Q (.ref r) H'
theorem ok_ldefs (F : Fun K "_law_definitions" "_law_definitions" sLdefs f fd) (m_len : mg "len" = none) : FnOk P w K mg base CX0 1 f fd ["_law_rows_here"] spLdefs := by
  refine F.ok scLdefs (fun vs H Q E h => ?_) (fun cdv A outer s H vs Q E hr h => ?_)
  · obtain ⟨_, _, rfl, _⟩ := h
    rfl
  obtain ⟨ds, p, rfl, hp, hok, hnd, hl, q⟩ := h
  have nd := scLdefs.nd
  refine ⟨_, (pss_cons (ps_set (i := 1) nd rfl (.inl rfl) (pe_lst pa_nil))
    (pss_cons (ps_for PassesOwn.never rfl (pi_list (pv 0)) (pg_name (i := 2) nd rfl (.inl rfl))
    (pss_cons (ps_if (pt_cmpR op_in_seq (pe_ix ix_list (pe_split (pv 2) pe_str) pe_int (fun _ _ => rfl)) (pe_tup (pa_cons pe_str (pa_cons pe_str pa_nil))) (by rfl)) (pss_one (ps_expr (pe_bm PySem.F.plainAttrs_list PySem.F.slot_list_append PySem.F.type_list_append mt_append (pv 1) (pa_cons (pe_lst pa_nil) pa_nil)))) pss_nil)
    (pss_one (ps_expr (pe_bm PySem.F.plainAttrs_list PySem.F.slot_list_append PySem.F.type_list_append mt_append (pe_ix ix_list (pv 1) (pe_op op_sub (pe_callB call_len_seq (by rfl) m_len (by decide +kernel) (pa_cons (pv 1) pa_nil)) pe_int) (fun _ _ => rfl)) (pa_cons (pv 2) pa_nil))))))
    (pss_one (ps_ret (pv 1))))), ?_⟩
  refine ⟨by show 0 ≤ sizeLine; decide, fun fl nfl => ⟨_, rfl, p, rfl, ⟨_, SqL.of (kn hp nfl)⟩, ?_⟩⟩
  have g0 : Grp H (upd H fl (.lst [])) fl [] [] := ⟨same_ext nfl, upd_same, nfl, rfl, fun j g a e => (nomatch e), .nil⟩
  have wf := grp_flat ds [] hnd
  have first : ∀ r, (flat ds)[0]? = some r → r.isDef = true := fun r hr => by
    cases ds with
    | nil => cases hr
    | cons d ds =>
      rw [flat_cons] at hr
      have e : Row.defn d.w d.n = r := Option.some.inj hr
      rw [← e]; rfl
  revert wf first hp hok hl
  generalize flat ds = rs
  intro hp hok hl wf first
  refine for_it (walk_list (K := K) (a := p) (xs := rs.map fun r => V.str r.text)) (fun i σ H' => ∃ (t2 : Option V) (as : List Addr), σ = [some (.ref p), some (.ref fl), t2] ∧ Grp H H' fl as ((rs.take i).foldl grp [])) ⟨_, [], rfl, g0⟩ (fun i σ H' _ pv => ?_) (fun i x σ H1 H2 hi pv y => ?_) (fun σ H' pv => ?_)
  · obtain ⟨_, _, _, R⟩ := pv
    exact SqL.of (R.sm _ _ hp)
  · obtain ⟨t2, as, rfl, R⟩ := pv
    obtain ⟨rfl, hx⟩ := y
    rw [List.length_map] at hi
    rw [List.getElem?_map, List.getElem?_eq_getElem hi] at hx
    have ex : x = .str rs[i].text := (Option.some.inj hx).symm
    subst ex
    have tk : rs.take (i + 1) = rs.take i ++ [rs[i]] := (List.take_append_getElem hi).symm
    have hro := hok _ (List.getElem_mem hi)
    have gl := grp_len (rs.take i) [] 0 (Nat.le_refl _) (fun g hg => by cases hg)
    have hlt : (rs.take i).length ≤ 300 := by rw [List.length_take]; omega
    have hne : rs[i].isDef = false → (rs.take i).foldl grp [] ≠ [] := fun hd => by
      cases i with
      | zero =>
        rw [first rs[0] (List.getElem?_eq_getElem hi)] at hd
        cases hd
      | succ i =>
        cases rs with
        | nil => cases hi
        | cons r0 rs =>
          rw [List.take_succ_cons, List.foldl_cons]
          refine grp_ne _ _ ?_
          unfold grp
          rw [first r0 rfl]
          simp
    revert tk hro hne
    generalize rs[i] = row
    intro tk hro hne
    obtain ⟨wd, rest, hrow⟩ : ∃ wd rest, row.parts = wd :: rest := by
      cases h : row.parts with
      | nil => exact absurd h (parts_ne row)
      | cons a b => exact ⟨a, b, rfl⟩
    refine ⟨_, rfl, ⟨_, rfl⟩, row.text, " ", rfl, rfl, by decide +kernel, ?_, fun pp npp => ?_⟩
    · have := text_len hro
      rw [sizeLine_eq]
      omega
    rw [split_text hro, hrow]
    refine ⟨pp, _, 0, _, rfl, rfl, SqL.of upd_same, atI_nat (j := 0) rfl, by show 2 ≤ sizeLine; decide, fun tp ntp => ⟨tp, _, rfl, .inr (SqT.of upd_same), rfl, rfl, _, rfl, ?_⟩⟩
    replace R := (R.same (same_ext (o := .lst ((wd :: rest).map V.str)) npp)).same (same_ext (o := .tup [.str "job", .str "walk"]) ntp)
    clear npp ntp
    rw [word_def row hrow]
    have hal : as.length ≤ 300 := by rw [R.len]; have := gl.1; omega
    have fold : (rs.take (i + 1)).foldl grp [] = grp ((rs.take i).foldl grp []) row := by rw [tk, List.foldl_append]; rfl
    cases hd : row.isDef with
    | true =>
      refine iteT ⟨_, rfl, .inl ⟨rfl, _, SqL.of R.e_fl⟩, by show 0 ≤ sizeLine; decide, fun a na => ⟨fl, _, _, rfl, rfl, kn R.e_fl na, small1000 (by rw [List.length_map]; omega), ?_⟩⟩
      rw [show as.map V.ref ++ [V.ref a] = (as ++ [a]).map V.ref by simp]
      replace R := R.new na
      have ea := (R.at_ as.length [] a (by rw [show as.length = ((rs.take i).foldl grp []).length by have q1 := R.len; rw [List.length_append, List.length_append] at q1; exact Nat.succ.inj q1]; simp) (by simp)).1
      refine ⟨_, rfl, _, rfl, fl, _, rfl, .inl (SqL.of R.e_fl), _, _, rfl, rfl, fl, _, _, _, rfl, rfl, SqL.of R.e_fl, at_last as a, .inl ⟨rfl, _, SqL.of ea⟩, _, rfl, a, _, _, rfl, rfl, ea, by show 0 < sizeLine; decide, ?_⟩
      refine ⟨_, as ++ [a], rfl, ?_⟩
      rw [fold]
      unfold grp
      rw [if_pos hd]
      exact R.row row
    | false =>
      obtain ⟨G', g, eG⟩ := snoc_ex (hne hd)
      rw [eG] at R gl
      obtain ⟨as', a, rfl⟩ := snoc_ex (l := as) (fun z => by have q1 := R.len; rw [z, List.length_append] at q1; cases q1)
      have hgl := gl.2 g (by simp)
      have hl' : as'.length = G'.length := by have q1 := R.len; rw [List.length_append, List.length_append] at q1; exact Nat.succ.inj q1
      have ea := (R.at_ G'.length g a (by simp) (by rw [← hl']; simp)).1
      refine iteF ⟨_, rfl, _, rfl, fl, _, rfl, .inl (SqL.of R.e_fl), _, _, rfl, rfl, fl, _, _, _, rfl, rfl, SqL.of R.e_fl, at_last as' a, .inl ⟨rfl, _, SqL.of ea⟩, _, rfl, a, _, _, rfl, rfl, ea, small1000 (by rw [List.length_map]; omega), ?_⟩
      refine ⟨_, as' ++ [a], rfl, ?_⟩
      rw [fold, eG]
      unfold grp
      rw [if_neg (by rw [hd]; decide)]
      simp only [List.dropLast_concat, List.getLastD_concat]
      exact R.row row
  · obtain ⟨t2, as, rfl, R⟩ := pv
    rw [List.length_map, List.take_length, wf] at R
    exact ⟨_, rfl, q fl as H' R⟩
end
end K8
set_option Elab.async false
set_option linter.all false
set_option maxRecDepth 100000
set_option maxHeartbeats 4000000
/-! Mathematics: drawn programs under other names. -/
namespace K8
open PySem
def Ctx.ren (F : Nat → Str → Str) (c : Ctx) : Ctx := { c with known := c.known.map (F 1), kept := c.kept.map (F 1), jobs := c.jobs.map (F 0), gates := c.gates.map (F 2), notes := c.notes.map (F 3) }
structure RenOk (F : Nat → Str → Str) (W : List Str) (c : Ctx) : Prop where
  inj : ∀ x ∈ W, ∀ y ∈ W, F 1 x = F 1 y → x = y
  kn : ∀ x ∈ c.known, x ∈ W
  kp : ∀ x ∈ c.kept, x ∈ W
  nw : ∀ x ∈ W, Nm (F 1 x)
  nj : ∀ x ∈ c.jobs, Nm (F 0 x)
  ng : ∀ x ∈ c.gates, Nm (F 2 x)
  nn : ∀ x ∈ c.notes, Nm (F 3 x)
theorem map_fin (F : Nat → Str → Str) (b : List Row) : (b ++ [Row.fin]).map (Row.ren F) = b.map (Row.ren F) ++ [.fin] := by rw [List.map_append]; rfl
theorem Rows.ren {F : Nat → Str → Str} {W : List Str} {c : Ctx} {b : List Row} (h : Rows c b) : RenOk F W c → Rows (c.ren F) (b.map (Row.ren F)) := by
  induction h with
  | nil => exact fun _ => .nil
  | app _ _ i1 i2 => exact fun o => by rw [List.map_append]; exact .app (i1 o) (i2 o)
  | pause => exact fun _ => .pause
  | give h1 h2 => exact fun _ => .give h1 h2
  | @named c k n hn hm =>
    intro o
    cases k with
    | begin => exact .named (k := .begin) (List.mem_map_of_mem hn) (o.nj n hn)
    | wait => exact .named (k := .wait) (List.mem_map_of_mem hn) (o.ng n hn)
    | opn => exact .named (k := .opn) (List.mem_map_of_mem hn) (o.ng n hn)
    | say => exact .named (k := .say) (List.mem_map_of_mem hn) (o.nn n hn)
    | fail => exact .named (k := .fail) (List.mem_map_of_mem hn) (o.nn n hn)
  | @rep c d b hd _ ih =>
    intro o
    rw [List.map_cons, map_fin]
    exact .rep hd (ih o)
  | @guard c l a b _ _ i1 i2 =>
    intro o
    rw [List.map_cons, List.map_append, List.map_cons, map_fin]
    exact .guard (l := l) (i1 o) (i2 ⟨o.inj, o.kn, o.kp, o.nw, o.nj, o.ng, o.nn⟩)
  | @each c w how t b hw hm ht hk _ ih =>
    intro o
    rw [List.map_cons, map_fin]
    have hwW := o.kn w hw
    have e : (c.keeps how w).ren F = (c.ren F).keeps how (F 1 w) := by
      unfold Ctx.keeps
      split
      · show Ctx.ren F _ = _
        unfold Ctx.ren
        simp
      · rfl
    refine .each (List.mem_map_of_mem hw) (o.nw w hwW) ht (fun q => ⟨(hk q).1, fun z => ?_⟩) (e ▸ ih ?_)
    · obtain ⟨y, hy, e1⟩ := List.mem_map.mp z
      have := o.inj y (o.kp y hy) w hwW e1
      subst this
      exact (hk q).2 hy
    · unfold Ctx.keeps
      split
      · exact ⟨o.inj, o.kn, fun x hx => by
          rcases List.mem_append.mp hx with hx | hx
          · exact o.kp x hx
          · rw [List.mem_singleton.mp hx]; exact hwW, o.nw, o.nj, o.ng, o.nn⟩
      · exact o
def Def.ren (F : Nat → Str → Str) (d : Def) : Def := ⟨d.w, F (if d.w then 1 else 0) d.n, d.body.map (Row.ren F)⟩
theorem Def.ren_rows (F : Nat → Str → Str) (d : Def) : (d.ren F).rows = d.rows.map (Row.ren F) := by
  unfold Def.rows Def.ren
  rw [List.map_cons, map_fin]
  rfl
theorem flat_ren (F : Nat → Str → Str) : ∀ ds : List Def, flat (ds.map (Def.ren F)) = (flat ds).map (Row.ren F)
  | [] => rfl
  | d :: ds => by rw [List.map_cons, flat_cons, flat_cons, List.map_append, Def.ren_rows, flat_ren F ds]
theorem wnames_ren (F : Nat → Str → Str) : ∀ ds : List Def, wnames (ds.map (Def.ren F)) = (wnames ds).map (F 1)
  | [] => rfl
  | d :: ds => by
    have ih := wnames_ren F ds
    unfold wnames at *
    rw [List.map_cons, List.filter_cons, List.filter_cons]
    cases h : d.w with
    | true => simp [Def.ren, h] at *; exact ih
    | false => simp [Def.ren, h] at *; exact ih
theorem jnames_ren (F : Nat → Str → Str) : ∀ ds : List Def, jnames (ds.map (Def.ren F)) = (jnames ds).map (F 0)
  | [] => rfl
  | d :: ds => by
    have ih := jnames_ren F ds
    unfold jnames at *
    rw [List.map_cons, List.filter_cons, List.filter_cons]
    cases h : d.w with
    | true => simp [Def.ren, h] at *; exact ih
    | false => simp [Def.ren, h] at *; exact ih
theorem Defs.ren {F : Nat → Str → Str} {W J : List Str} {jobs gates notes known : List Str} {ds : List Def} (h : Defs jobs gates notes known ds) (inj : ∀ x ∈ W, ∀ y ∈ W, F 1 x = F 1 y → x = y) (nw : ∀ x ∈ W, Nm (F 1 x)) (nj0 : ∀ x ∈ J, Nm (F 0 x)) (nj : ∀ x ∈ jobs, Nm (F 0 x)) (ng : ∀ x ∈ gates, Nm (F 2 x)) (nn : ∀ x ∈ notes, Nm (F 3 x)) :
    (∀ x ∈ known, x ∈ W) → (∀ x ∈ wnames ds, x ∈ W) → (∀ x ∈ jnames ds, x ∈ J) → Defs (jobs.map (F 0)) (gates.map (F 2)) (notes.map (F 3)) (known.map (F 1)) (ds.map (Def.ren F)) := by
  induction h with
  | nil => exact fun _ _ _ => .nil
  | @cons known d ds hn hr hl _ ih =>
    intro hk hw hj
    have hdn : Nm (d.ren F).n := by
      cases e : d.w with
      | true =>
        have : d.n ∈ W := hw _ (by unfold wnames; simp [e])
        show Nm (F (if d.w then 1 else 0) d.n)
        rw [e]; exact nw _ this
      | false =>
        have : d.n ∈ J := hj _ (by unfold jnames; simp [e])
        show Nm (F (if d.w then 1 else 0) d.n)
        rw [e]; exact nj0 _ this
    refine .cons hdn (hr.ren ⟨inj, hk, fun x hx => (nomatch hx), nw, nj, ng, nn⟩) (by show (d.body.map _).length ≤ 6; rw [List.length_map]; exact hl) ?_
    have sub1 : ∀ x ∈ wnames ds, x ∈ W := fun x hx => hw x (by unfold wnames at *; rw [List.filter_cons]; split <;> simp_all)
    have sub2 : ∀ x ∈ jnames ds, x ∈ J := fun x hx => hj x (by unfold jnames at *; rw [List.filter_cons]; split <;> simp_all)
    cases e : d.w with
    | true =>
      have q := ih (by rw [e]; intro x hx; rcases List.mem_append.mp hx with hx | hx; exact hk x hx; rw [List.mem_singleton.mp hx]; exact hw _ (by unfold wnames; simp [e])) sub1 sub2
      rw [e] at q
      show Defs _ _ _ (if d.w then known.map (F 1) ++ [F (if d.w then 1 else 0) d.n] else known.map (F 1)) _
      rw [e]
      simpa using q
    | false =>
      have q := ih (by rw [e]; exact hk) sub1 sub2
      rw [e] at q
      show Defs _ _ _ (if d.w then known.map (F 1) ++ [F (if d.w then 1 else 0) d.n] else known.map (F 1)) _
      rw [e]
      simpa using q
end K8
set_option Elab.async false
set_option linter.all false
set_option maxRecDepth 100000
set_option maxHeartbeats 4000000
/-! Mathematics: what is sorted is one. -/
namespace K8
open PySem PyProof.Rows
def LeS (x y : Str) : Prop := x.cps.toList ≤ y.cps.toList
theorem LeS.trans {x y z : Str} (a : LeS x y) (b : LeS y z) : LeS x z := List.le_trans a b
theorem LeS.anti {x y : Str} (a : LeS x y) (b : LeS y x) : x = y := by
  have e : x.cps.toList = y.cps.toList := List.le_antisymm a b
  cases x with
  | mk cx => cases y with
    | mk cy =>
      have : cx = cy := Array.toList_inj.mp e
      rw [this]
theorem LeS.of {x y : Str} (h : (!PySem.Spec.ltCps y.cps.toList x.cps.toList) = true) : LeS x y := by
  rw [ltCps_eq] at h
  have q : ¬ y.cps.toList < x.cps.toList := by simpa using h
  exact List.not_lt.mp q
theorem risingS_pw : ∀ (l : List Str) (p : Str), risingS p l = true → (p :: l).Pairwise LeS
  | [], p, _ => List.pairwise_singleton _ _
  | x :: r, p, h => by
    have h' : ((!PySem.Spec.ltCps x.cps.toList p.cps.toList) && risingS x r) = true := h
    rw [Bool.and_eq_true] at h'
    have ih := risingS_pw r x h'.2
    have px : LeS p x := LeS.of h'.1
    refine List.pairwise_cons.mpr ⟨fun a ha => ?_, ih⟩
    rcases List.mem_cons.mp ha with rfl | ha
    · exact px
    · exact px.trans ((List.pairwise_cons.mp ih).1 a ha)
theorem sortedS_pw : ∀ {l : List Str}, sortedS l = true → l.Pairwise LeS
  | [], _ => .nil
  | x :: r, h => risingS_pw r x h
theorem pw_uniq : ∀ {xs ys : List Str}, xs.Pairwise LeS → ys.Pairwise LeS → xs.Perm ys → xs = ys
  | [], ys, _, _, p => (List.Perm.nil_eq p)
  | x :: xs, [], _, _, p => absurd p.length_eq (by simp)
  | x :: xs, y :: ys, h1, h2, p => by
    have hx : x ∈ y :: ys := p.mem_iff.mp List.mem_cons_self
    have hy : y ∈ x :: xs := p.mem_iff.mpr List.mem_cons_self
    have a : LeS x y := by
      rcases List.mem_cons.mp hy with rfl | hy
      · exact List.le_refl _
      · exact (List.pairwise_cons.mp h1).1 y hy
    have b : LeS y x := by
      rcases List.mem_cons.mp hx with rfl | hx
      · exact List.le_refl _
      · exact (List.pairwise_cons.mp h2).1 x hx
    have e := a.anti b
    subst e
    rw [pw_uniq (List.pairwise_cons.mp h1).2 (List.pairwise_cons.mp h2).2 (List.Perm.cons_inv p)]
theorem sort_uniq {xs ys : List Str} (h1 : sortedS xs = true) (h2 : sortedS ys = true) (p : xs.Perm ys) : xs = ys := pw_uniq (sortedS_pw h1) (sortedS_pw h2) p
/-- names that stay: the row stays -/
theorem Row.ren_id {F : Nat → Str → Str} (h : ∀ j x, F j x = x) (r : Row) : r.ren F = r := by
  cases r with
  | defn w n => show Row.defn w (F _ n) = _; rw [h]
  | named k n => cases k <;> (show Row.named _ (F _ n) = _; rw [h])
  | each w how t => show Row.each (F 1 w) how t = _; rw [h]
  | _ => rfl
/-- one behind the other -/
theorem Row.ren_comp (F G : Nat → Str → Str) (r : Row) : (r.ren F).ren G = r.ren fun j x => G j (F j x) := by
  cases r with
  | named k n => cases k <;> rfl
  | _ => rfl
/-- two drawn programs one in the other: the first one's parts around the second -/
theorem join_run {J1 G1 N1 J2 G2 N2 : List Str} {a b ds : List Def} (h1 : Defs J1 G1 N1 [] (a ++ b)) (h2 : Defs J2 G2 N2 [] ds) (hw : (wnames a ++ (wnames ds ++ wnames b)).Nodup) (hj : (jnames a ++ (jnames ds ++ jnames b)).Nodup) :
    ∃ s', Run {} (flat a ++ (flat ds ++ flat b)) s' ∧ s'.cur = none ∧ s'.inner = [] ∧ s'.deepest ≤ 6 ∧ s'.walks = wnames a ++ (wnames ds ++ wnames b) ∧ s'.jobs = jnames a ++ (jnames ds ++ jnames b) := by
  obtain ⟨ha, hb⟩ := h1.cut
  have w1 := List.nodup_append.mp hw
  have j1 := List.nodup_append.mp hj
  obtain ⟨s1, r1, c1, i1, d1, e1, f1⟩ := defs_run ha {} rfl rfl (Nat.zero_le _) (fun w hw => by cases hw) (by simpa using w1.1) (by simpa using j1.1)
  have e1' : s1.walks = wnames a := by rw [e1]; rfl
  have f1' : s1.jobs = jnames a := by rw [f1]; rfl
  obtain ⟨s2, r2, c2, i2, d2, e2, f2⟩ := defs_run h2 s1 c1 i1 d1 (fun w hw => by cases hw) (by rw [e1']; rw [← List.append_assoc] at hw; exact (List.nodup_append.mp hw).1) (by rw [f1']; rw [← List.append_assoc] at hj; exact (List.nodup_append.mp hj).1)
  obtain ⟨s3, r3, c3, i3, d3, e3, f3⟩ := defs_run hb s2 c2 i2 d2 (fun w hw => by rw [e2, e1']; exact List.mem_append_left _ (by simpa using hw)) (by rw [e2, e1', List.append_assoc]; exact hw) (by rw [f2, f1', List.append_assoc]; exact hj)
  exact ⟨s3, r1.app (r2.app r3), c3, i3, d3, by rw [e3, e2, e1', List.append_assoc], by rw [f3, f2, f1', List.append_assoc]⟩
end K8
set_option Elab.async false
set_option linter.all false
set_option maxRecDepth 100000
set_option maxHeartbeats 4000000
/-! Mathematics: names of a sort; sets of names under a permutation. -/
namespace K8
open PySem PyProof.Rows
/-- a row's names of sort j: 0 jobs, 1 walks, 2 gates, 3 notes -/
def Row.nms : Nat → Row → List Str
  | 0, .defn false n => [n]
  | 0, .named .begin n => [n]
  | 1, .defn true n => [n]
  | 1, .each w _ _ => [w]
  | 2, .named .wait n => [n]
  | 2, .named .opn n => [n]
  | 3, .named .say n => [n]
  | 3, .named .fail n => [n]
  | _, _ => []
def names (j : Nat) (rs : List Row) : List Str := (rs.map (Row.nms j)).flatten
theorem names_app (j : Nat) (a b : List Row) : names j (a ++ b) = names j a ++ names j b := by simp [names]
theorem names_cons (j : Nat) (r : Row) (b : List Row) : names j (r :: b) = Row.nms j r ++ names j b := by simp [names]
theorem nms_gate (r : Row) : Row.nms 2 r = r.gate := by
  cases r with
  | named k n => cases k <;> rfl
  | defn w n => cases w <;> rfl
  | _ => rfl
theorem nms_ren {F : Nat → Str → Str} {j : Nat} (hj : j < 4) (r : Row) : Row.nms j (r.ren F) = (Row.nms j r).map (F j) := by
  match j, hj with
  | 0, _ => cases r with
    | named k n => cases k <;> rfl
    | defn w n => cases w <;> rfl
    | _ => rfl
  | 1, _ => cases r with
    | named k n => cases k <;> rfl
    | defn w n => cases w <;> rfl
    | _ => rfl
  | 2, _ => cases r with
    | named k n => cases k <;> rfl
    | defn w n => cases w <;> rfl
    | _ => rfl
  | 3, _ => cases r with
    | named k n => cases k <;> rfl
    | defn w n => cases w <;> rfl
    | _ => rfl
theorem names_ren {F : Nat → Str → Str} {j : Nat} (hj : j < 4) (rs : List Row) : names j (rs.map (Row.ren F)) = (names j rs).map (F j) := by
  induction rs with
  | nil => rfl
  | cons r rs ih => rw [List.map_cons, names_cons, names_cons, List.map_append, nms_ren hj, ih]
/-- two lists of one set, each name once -/
theorem perm_of_set {a b : List Str} (ha : a.Nodup) (hb : b.Nodup) (h : ∀ x, x ∈ a ↔ x ∈ b) : a.Perm b := (List.perm_ext_iff_of_nodup ha hb).mpr h
theorem gates_ren {F : Nat → Str → Str} {rs : List Row} {s s' : S} (h : Run {} rs s) (h' : Run {} (rs.map (Row.ren F)) s') {L : List Str} (mem : ∀ x, x ∈ L ↔ x ∈ names 2 rs) (p : (L.map (F 2)).Perm L) : s'.gates.Perm s.gates := by
  have g1 := h.gates .nil
  have g2 := h'.gates .nil
  have e : ∀ rs : List Row, (rs.map Row.gate).flatten = names 2 rs := fun rs => by
    unfold names
    rw [show Row.nms 2 = Row.gate from funext nms_gate]
  refine perm_of_set g2.1 g1.1 fun x => ?_
  rw [g2.2, g1.2, e, e, names_ren (by decide)]
  have q : x ∈ (names 2 rs).map (F 2) ↔ x ∈ names 2 rs := by
    constructor
    · intro hx
      obtain ⟨y, hy, rfl⟩ := List.mem_map.mp hx
      exact (mem _).mp (p.mem_iff.mp (List.mem_map_of_mem ((mem y).mpr hy)))
    · intro hx
      obtain ⟨y, hy, e⟩ := List.mem_map.mp (p.mem_iff.mpr ((mem x).mpr hx))
      rw [← e]
      exact List.mem_map_of_mem ((mem y).mp hy)
  simp only [List.not_mem_nil, false_or]
  exact q
/-- names in a drawn definition's rows -/
theorem rows_names {c : Ctx} {b : List Row} (h : Rows c b) : (∀ x ∈ names 0 b, x ∈ c.jobs) ∧ (∀ x ∈ names 1 b, x ∈ c.known) ∧ (∀ x ∈ names 2 b, x ∈ c.gates) ∧ (∀ x ∈ names 3 b, x ∈ c.notes) := by
  induction h with
  | nil => exact ⟨fun _ h => (nomatch h), fun _ h => (nomatch h), fun _ h => (nomatch h), fun _ h => (nomatch h)⟩
  | app _ _ i1 i2 =>
    refine ⟨fun x hx => ?_, fun x hx => ?_, fun x hx => ?_, fun x hx => ?_⟩ <;> (rw [names_app] at hx; rcases List.mem_append.mp hx with hx | hx)
    · exact i1.1 x hx
    · exact i2.1 x hx
    · exact i1.2.1 x hx
    · exact i2.2.1 x hx
    · exact i1.2.2.1 x hx
    · exact i2.2.2.1 x hx
    · exact i1.2.2.2 x hx
    · exact i2.2.2.2 x hx
  | pause => exact ⟨fun _ h => (nomatch h), fun _ h => (nomatch h), fun _ h => (nomatch h), fun _ h => (nomatch h)⟩
  | give _ _ => exact ⟨fun _ h => (nomatch h), fun _ h => (nomatch h), fun _ h => (nomatch h), fun _ h => (nomatch h)⟩
  | @named c k n hn _ =>
    have one : ∀ {x : Str}, x ∈ [n] → x = n := fun h => List.mem_singleton.mp h
    cases k <;> refine ⟨fun x h => ?_, fun x h => ?_, fun x h => ?_, fun x h => ?_⟩ <;> first | exact (one h) ▸ hn | exact nomatch h
  | @rep c d b _ _ ih =>
    have e : ∀ j, names j (.rep d :: (b ++ [.fin])) = names j b := fun j => by
      rw [names_cons, names_app, show Row.nms j (.rep d) = [] by unfold Row.nms; split <;> simp_all, show names j [.fin] = [] by unfold names; simp; unfold Row.nms; split <;> simp_all]
      simp
    rw [e, e, e, e]; exact ih
  | @guard c l a b _ _ i1 i2 =>
    have e : ∀ j, names j (.guard :: (a ++ .turn l :: (b ++ [.fin]))) = names j a ++ names j b := fun j => by
      rw [names_cons, names_app, names_cons, names_app, show Row.nms j .guard = [] by unfold Row.nms; split <;> simp_all, show Row.nms j (.turn l) = [] by unfold Row.nms; split <;> simp_all, show names j [.fin] = [] by unfold names; simp; unfold Row.nms; split <;> simp_all]
      simp
    rw [e, e, e, e]
    refine ⟨fun x hx => ?_, fun x hx => ?_, fun x hx => ?_, fun x hx => ?_⟩ <;> rcases List.mem_append.mp hx with hx | hx
    · exact i1.1 x hx
    · exact i2.1 x hx
    · exact i1.2.1 x hx
    · exact i2.2.1 x hx
    · exact i1.2.2.1 x hx
    · exact i2.2.2.1 x hx
    · exact i1.2.2.2 x hx
    · exact i2.2.2.2 x hx
  | @each c w how t b hw _ _ _ _ ih =>
    have k : ∀ j, names j (.each w how t :: (b ++ [.fin])) = Row.nms j (.each w how t) ++ names j b := fun j => by
      rw [names_cons, names_app, show names j [.fin] = [] by unfold names; simp; unfold Row.nms; split <;> simp_all]
      simp
    have same : (c.keeps how w).jobs = c.jobs ∧ (c.keeps how w).known = c.known ∧ (c.keeps how w).gates = c.gates ∧ (c.keeps how w).notes = c.notes := by unfold Ctx.keeps; split <;> exact ⟨rfl, rfl, rfl, rfl⟩
    rw [same.1, same.2.1, same.2.2.1, same.2.2.2] at ih
    rw [k, k, k, k]
    refine ⟨ih.1, fun x hx => ?_, ih.2.2.1, ih.2.2.2⟩
    rcases List.mem_append.mp hx with hx | hx
    · have e : x = w := List.mem_singleton.mp hx
      rw [e]; exact hw
    · exact ih.2.1 x hx
end K8
set_option Elab.async false
set_option linter.all false
set_option maxRecDepth 100000
set_option maxHeartbeats 4000000
/-! Mathematics: names of drawn programs. -/
namespace K8
open PySem PyProof.Rows
structure DN (jobs gates notes known : List Str) (ds : List Def) : Prop where
  w1 : ∀ x ∈ names 1 (flat ds), x ∈ known ∨ x ∈ wnames ds
  w2 : ∀ x ∈ wnames ds, x ∈ names 1 (flat ds)
  j1 : ∀ x ∈ names 0 (flat ds), x ∈ jobs ∨ x ∈ jnames ds
  j2 : ∀ x ∈ jnames ds, x ∈ names 0 (flat ds)
  g : ∀ x ∈ names 2 (flat ds), x ∈ gates
  n : ∀ x ∈ names 3 (flat ds), x ∈ notes
theorem names_fin (j : Nat) : names j [.fin] = [] := by unfold names; simp; unfold Row.nms; split <;> simp_all
theorem defs_names {jobs gates notes known : List Str} {ds : List Def} (h : Defs jobs gates notes known ds) : DN jobs gates notes known ds := by
  induction h with
  | nil => exact ⟨fun _ h => (nomatch h), fun _ h => (nomatch h), fun _ h => (nomatch h), fun _ h => (nomatch h), fun _ h => (nomatch h), fun _ h => (nomatch h)⟩
  | @cons known d ds hn hr hl _ ih =>
    have e : ∀ j, names j (flat (d :: ds)) = Row.nms j (.defn d.w d.n) ++ (names j d.body ++ names j (flat ds)) := fun j => by
      rw [flat_cons, names_app]
      unfold Def.rows
      rw [names_cons, names_app, names_fin, List.append_nil, List.append_assoc]
    have b := rows_names hr
    cases hw : d.w with
    | true =>
      have ew : wnames (d :: ds) = d.n :: wnames ds := by simp [wnames, hw]
      have ej : jnames (d :: ds) = jnames ds := by simp [jnames, hw]
      have ih1 : ∀ x ∈ names 1 (flat ds), x ∈ known ++ [d.n] ∨ x ∈ wnames ds := by have q := ih.w1; rw [hw] at q; exact q
      rw [hw] at e
      refine ⟨fun x hx => ?_, fun x hx => ?_, fun x hx => ?_, fun x hx => ?_, fun x hx => ?_, fun x hx => ?_⟩
      · rw [e] at hx; rw [ew]
        rcases List.mem_append.mp hx with hx | hx
        · exact .inr (by rw [List.mem_singleton.mp hx]; exact List.mem_cons_self)
        · rcases List.mem_append.mp hx with hx | hx
          · exact .inl (b.2.1 x hx)
          · rcases ih1 x hx with hx | hx
            · rcases List.mem_append.mp hx with hx | hx
              · exact .inl hx
              · exact .inr (by rw [List.mem_singleton.mp hx]; exact List.mem_cons_self)
            · exact .inr (List.mem_cons_of_mem _ hx)
      · rw [ew] at hx; rw [e]
        rcases List.mem_cons.mp hx with rfl | hx
        · exact List.mem_append_left _ (List.mem_singleton.mpr rfl)
        · exact List.mem_append_right _ (List.mem_append_right _ (ih.w2 x hx))
      · rw [e] at hx; rw [ej]
        rcases List.mem_append.mp hx with hx | hx
        · cases hx
        · rcases List.mem_append.mp hx with hx | hx
          · exact .inl (b.1 x hx)
          · exact ih.j1 x hx
      · rw [ej] at hx; rw [e]
        exact List.mem_append_right _ (List.mem_append_right _ (ih.j2 x hx))
      · rw [e] at hx
        rcases List.mem_append.mp hx with hx | hx
        · cases hx
        · rcases List.mem_append.mp hx with hx | hx
          · exact b.2.2.1 x hx
          · exact ih.g x hx
      · rw [e] at hx
        rcases List.mem_append.mp hx with hx | hx
        · cases hx
        · rcases List.mem_append.mp hx with hx | hx
          · exact b.2.2.2 x hx
          · exact ih.n x hx
    | false =>
      have ew : wnames (d :: ds) = wnames ds := by simp [wnames, hw]
      have ej : jnames (d :: ds) = d.n :: jnames ds := by simp [jnames, hw]
      have ih1 : ∀ x ∈ names 1 (flat ds), x ∈ known ∨ x ∈ wnames ds := by have q := ih.w1; rw [hw] at q; exact q
      rw [hw] at e
      refine ⟨fun x hx => ?_, fun x hx => ?_, fun x hx => ?_, fun x hx => ?_, fun x hx => ?_, fun x hx => ?_⟩
      · rw [e] at hx; rw [ew]
        rcases List.mem_append.mp hx with hx | hx
        · cases hx
        · rcases List.mem_append.mp hx with hx | hx
          · exact .inl (b.2.1 x hx)
          · exact ih1 x hx
      · rw [ew] at hx; rw [e]
        exact List.mem_append_right _ (List.mem_append_right _ (ih.w2 x hx))
      · rw [e] at hx; rw [ej]
        rcases List.mem_append.mp hx with hx | hx
        · exact .inr (by rw [List.mem_singleton.mp hx]; exact List.mem_cons_self)
        · rcases List.mem_append.mp hx with hx | hx
          · exact .inl (b.1 x hx)
          · rcases ih.j1 x hx with hx | hx
            · exact .inl hx
            · exact .inr (List.mem_cons_of_mem _ hx)
      · rw [ej] at hx; rw [e]
        rcases List.mem_cons.mp hx with rfl | hx
        · exact List.mem_append_left _ (List.mem_singleton.mpr rfl)
        · exact List.mem_append_right _ (List.mem_append_right _ (ih.j2 x hx))
      · rw [e] at hx
        rcases List.mem_append.mp hx with hx | hx
        · cases hx
        · rcases List.mem_append.mp hx with hx | hx
          · exact b.2.2.1 x hx
          · exact ih.g x hx
      · rw [e] at hx
        rcases List.mem_append.mp hx with hx | hx
        · cases hx
        · rcases List.mem_append.mp hx with hx | hx
          · exact b.2.2.2 x hx
          · exact ih.n x hx
end K8
set_option Elab.async false
set_option linter.all false
set_option maxRecDepth 100000
set_option maxHeartbeats 4000000
/-! The walk of _law_all_names. -/
namespace K8
open PySem PyProof.Rows L2
theorem op_in_seqK {X : Cx} {K : PySem.W.Frag} (h : X.K = K) : OpR X (compareOp .In) (rIn K false) := h ▸ op_in_seq
theorem op_notIn_seqK {X : Cx} {K : PySem.W.Frag} (h : X.K = K) : OpR X (compareOp .NotIn) (rIn K true) := h ▸ op_notIn_seq
theorem ix_listK {X : Cx} {K : PySem.W.Frag} (h : X.K = K) : IxR X (rIxL K) := h ▸ ix_list
theorem ix_tupK {X : Cx} {K : PySem.W.Frag} (h : X.K = K) : IxR X (rIxT K) := h ▸ ix_tup
/-- the sorted names of sort j, at a -/
structure AllAt (H : Hp) (rs : List Row) (j : Nat) (a : Addr) (ys : List Str) : Prop where
  e : H a = some (lstS ys)
  so : sortedS ys = true
  nd : ys.Nodup
  mem : ∀ x, x ∈ ys ↔ x ∈ names j rs
theorem AllAt.same {H H' : Hp} {rs : List Row} {j : Nat} {a : Addr} {ys : List Str} (h : AllAt H rs j a ys) (s : Same H H') : AllAt H' rs j a ys := ⟨s _ _ h.e, h.so, h.nd, h.mem⟩
def wdsOf : Nat → List Str
  | 0 => ["job", "begin"]
  | 1 => ["walk", "each"]
  | 2 => ["wait", "open"]
  | _ => ["say", "fail"]
def fst1 : V → Str
  | .str t => (Txt.split t " ").headD ""
  | _ => ""
def snd1 : V → V
  | .str t => .str ((Txt.split t " ").tail.headD "")
  | v => v
theorem nms_test {j : Nat} (hj : j < 4) {r : Row} (h : r.Ok) : (if decide (fst1 (.str r.text) ∈ wdsOf j) = true then [snd1 (.str r.text)] else []) = (Row.nms j r).map V.str := by
  have e1 : fst1 (.str r.text) = r.parts.headD "" := by show (Txt.split r.text " ").headD "" = _; rw [split_text h]
  have e2 : snd1 (.str r.text) = .str (r.parts.tail.headD "") := by show V.str ((Txt.split r.text " ").tail.headD "") = _; rw [split_text h]
  rw [e1, e2]
  match j, hj with
  | 0, _ => cases r with
    | named k n => cases k <;> rfl
    | defn w n => cases w <;> rfl
    | turn l => cases l <;> rfl
    | each w how t => cases t <;> rfl
    | _ => rfl
  | 1, _ => cases r with
    | named k n => cases k <;> rfl
    | defn w n => cases w <;> rfl
    | turn l => cases l <;> rfl
    | each w how t => cases t <;> rfl
    | _ => rfl
  | 2, _ => cases r with
    | named k n => cases k <;> rfl
    | defn w n => cases w <;> rfl
    | turn l => cases l <;> rfl
    | each w how t => cases t <;> rfl
    | _ => rfl
  | 3, _ => cases r with
    | named k n => cases k <;> rfl
    | defn w n => cases w <;> rfl
    | turn l => cases l <;> rfl
    | each w how t => cases t <;> rfl
    | _ => rfl
theorem names_comp {j : Nat} (hj : j < 4) : ∀ rs : List Row, (∀ r ∈ rs, r.Ok) → (((rs.map fun r => V.str r.text).filter fun v => decide (fst1 v ∈ wdsOf j)).map snd1) = (names j rs).map V.str
  | [], _ => rfl
  | r :: rs, h => by
    have ih := names_comp hj rs fun r hr => h r (List.mem_cons_of_mem _ hr)
    have t := nms_test hj (h r List.mem_cons_self)
    rw [names_cons, List.map_append, ← t, ← ih, List.map_cons, List.filter_cons]
    split <;> rfl
section
variable {P : Program} {w : World} {K : PySem.W.Frag} {mg : Str → Option Value} {base : Heap} {f : Addr} {fd : FuncData}
abbrev sLall : Stmt := top 45
theorem scLall : FnScope ["_law_rows_here", "_law_found", "_law_words", "_law_row_here"] ["_law_rows_here"] (defScope sLall) := ⟨rfl, rfl, rfl, by decide +kernel, rfl, by decide +kernel, by decide +kernel⟩
def spLall : Sp := fun vs H Q _ => ∃ (rs : List Row) (p : Addr), vs = [.ref p] ∧ H p = some (rtexts rs) ∧ (∀ r ∈ rs, r.Ok) ∧ rs.length ≤ 60 ∧ ∀ r n0 n1 n2 n3 y0 y1 y2 y3 H', Same H H' → H' r = some (.lst [.ref n0, .ref n1, .ref n2, .ref n3]) → AllAt H' rs 0 n0 y0 → AllAt H' rs 1 n1 y1 → AllAt H' rs 2 n2 y2 → AllAt H' rs 3 n3 y3 → Q (.ref r) H'
theorem ok_lall (F : Fun K "_law_all_names" "_law_all_names" sLall f fd) (m_sorted : mg "sorted" = none) (m_set : mg "set" = none) : FnOk P w K mg base CX0 1 f fd ["_law_rows_here"] spLall := by
  refine F.ok scLall (fun vs H Q E h => ?_) (fun cdv A outer s H vs Q E hr h => ?_)
  · obtain ⟨_, _, rfl, _⟩ := h
    rfl
  obtain ⟨rs, p, rfl, hp, hok, hl, q⟩ := h
  have nd := scLall.nd
  refine ⟨_, (pss_cons (ps_set (i := 1) nd rfl (.inl rfl) (pe_lst pa_nil))
    (pss_cons (ps_for PassesOwn.never rfl (pi_tup (pe_tup (pa_cons (pe_lst (pa_cons pe_str (pa_cons pe_str pa_nil))) (pa_cons (pe_lst (pa_cons pe_str (pa_cons pe_str pa_nil))) (pa_cons (pe_lst (pa_cons pe_str (pa_cons pe_str pa_nil))) (pa_cons (pe_lst (pa_cons pe_str (pa_cons pe_str pa_nil))) pa_nil)))))) (pg_name (i := 2) nd rfl (.inr rfl))
    (pss_one (ps_expr (pe_bm PySem.F.plainAttrs_list PySem.F.slot_list_append PySem.F.type_list_append mt_append (pv 1) (pa_cons (pe_callB (call_sortX rfl) (by rfl) m_sorted (by decide +kernel) (pa_cons (pe_callTy (call_setS rfl) (by rfl) m_set (by decide +kernel) (pa_cons (pe_lc  (own := [("_law_row_here", 3)]) (g := gName 3) rfl nd (pi_list (pv 0)) (blkOk_by (own := [("_law_row_here", 3)]) (N := ["_law_rows_here", "_law_found", "_law_words", "_law_row_here"]) (sc := defScope (top 45)) (by decide +kernel)) (fun _ _ _ _ _ => (pg_name (i := 3) nd rfl (.inl rfl))) (fun _ _ _ _ _ => (pts_one (pt_cmpR (K8.op_in_seqK (K := K) rfl) (pe_ix (K8.ix_listK (K := K) rfl) (pe_split (pv 3) pe_str) pe_int (fun _ _ => rfl)) (pv 2) (by rfl)))) (fun _ _ _ _ _ => (pe_ix (K8.ix_listK (K := K) rfl) (pe_split (pv 3) pe_str) pe_int (fun _ _ => rfl)))) pa_nil)) pa_nil)) pa_nil)))))
    (pss_one (ps_ret (pv 1))))), ?_⟩
  refine ⟨by show 0 ≤ sizeLine; decide, fun fl nfl => ⟨by show 2 ≤ sizeLine; decide, fun w0 nw0 => ⟨by show 2 ≤ sizeLine; decide, fun w1 nw1 => ⟨by show 2 ≤ sizeLine; decide, fun w2 nw2 => ⟨by show 2 ≤ sizeLine; decide, fun w3 nw3 => ⟨by show 4 ≤ sizeLine; decide, fun tp ntp => ⟨tp, rfl, ⟨_, SqT.of upd_same⟩, ?_⟩⟩⟩⟩⟩⟩⟩
  have sH : Same H (upd (upd (upd (upd (upd (upd H fl (.lst [])) w0 (.lst [.str "job", .str "begin"])) w1 (.lst [.str "walk", .str "each"])) w2 (.lst [.str "wait", .str "open"])) w3 (.lst [.str "say", .str "fail"])) tp (.tup [.ref w0, .ref w1, .ref w2, .ref w3])) := (((((same_ext nfl).trans (same_ext nw0)).trans (same_ext nw1)).trans (same_ext nw2)).trans (same_ext nw3)).trans (same_ext ntp)
  have ef0 : (upd (upd (upd (upd (upd (upd H fl (.lst [])) w0 (.lst [.str "job", .str "begin"])) w1 (.lst [.str "walk", .str "each"])) w2 (.lst [.str "wait", .str "open"])) w3 (.lst [.str "say", .str "fail"])) tp (.tup [.ref w0, .ref w1, .ref w2, .ref w3])) fl = some (.lst (([] : List Addr).map V.ref)) := kn (kn (kn (kn (kn upd_same nw0) nw1) nw2) nw3) ntp
  have e0 : (upd (upd (upd (upd (upd (upd H fl (.lst [])) w0 (.lst [.str "job", .str "begin"])) w1 (.lst [.str "walk", .str "each"])) w2 (.lst [.str "wait", .str "open"])) w3 (.lst [.str "say", .str "fail"])) tp (.tup [.ref w0, .ref w1, .ref w2, .ref w3])) w0 = some (lstS (wdsOf 0)) := kn (kn (kn (kn upd_same nw1) nw2) nw3) ntp
  have e1 : (upd (upd (upd (upd (upd (upd H fl (.lst [])) w0 (.lst [.str "job", .str "begin"])) w1 (.lst [.str "walk", .str "each"])) w2 (.lst [.str "wait", .str "open"])) w3 (.lst [.str "say", .str "fail"])) tp (.tup [.ref w0, .ref w1, .ref w2, .ref w3])) w1 = some (lstS (wdsOf 1)) := kn (kn (kn upd_same nw2) nw3) ntp
  have e2 : (upd (upd (upd (upd (upd (upd H fl (.lst [])) w0 (.lst [.str "job", .str "begin"])) w1 (.lst [.str "walk", .str "each"])) w2 (.lst [.str "wait", .str "open"])) w3 (.lst [.str "say", .str "fail"])) tp (.tup [.ref w0, .ref w1, .ref w2, .ref w3])) w2 = some (lstS (wdsOf 2)) := kn (kn upd_same nw3) ntp
  have e3 : (upd (upd (upd (upd (upd (upd H fl (.lst [])) w0 (.lst [.str "job", .str "begin"])) w1 (.lst [.str "walk", .str "each"])) w2 (.lst [.str "wait", .str "open"])) w3 (.lst [.str "say", .str "fail"])) tp (.tup [.ref w0, .ref w1, .ref w2, .ref w3])) w3 = some (lstS (wdsOf 3)) := kn upd_same ntp
  have et : (upd (upd (upd (upd (upd (upd H fl (.lst [])) w0 (.lst [.str "job", .str "begin"])) w1 (.lst [.str "walk", .str "each"])) w2 (.lst [.str "wait", .str "open"])) w3 (.lst [.str "say", .str "fail"])) tp (.tup [.ref w0, .ref w1, .ref w2, .ref w3])) tp = some (.tup [.ref w0, .ref w1, .ref w2, .ref w3]) := upd_same
  have m0 : w0 ≠ fl := (fr nw0).2
  have m1' : w1 ≠ fl := (fr (fr nw1).1).2
  have m2' : w2 ≠ fl := (fr (fr (fr nw2).1).1).2
  have m3' : w3 ≠ fl := (fr (fr (fr (fr nw3).1).1).1).2
  have mt : tp ≠ fl := (fr (fr (fr (fr (fr ntp).1).1).1).1).2
  have mp : p ≠ fl := ne_of_none hp nfl
  clear ntp nw0 nw1 nw2 nw3
  revert sH ef0 e0 e1 e2 e3 et
  generalize (upd (upd (upd (upd (upd (upd H fl (.lst [])) w0 (.lst [.str "job", .str "begin"])) w1 (.lst [.str "walk", .str "each"])) w2 (.lst [.str "wait", .str "open"])) w3 (.lst [.str "say", .str "fail"])) tp (.tup [.ref w0, .ref w1, .ref w2, .ref w3])) = G0
  intro sH ef0 e0 e1 e2 e3 et
  have hpG := sH _ _ hp
  refine for_it (walk_tup (K := K) (a := tp) (xs := [.ref w0, .ref w1, .ref w2, .ref w3])) (fun k σ H' => (∃ t2 t3 : Option V, σ = [some (.ref p), some (.ref fl), t2, t3]) ∧ But [fl] G0 H' ∧ ∃ as : List Addr, as.length = k ∧ H' fl = some (.lst (as.map V.ref)) ∧ ∀ (j : Nat) (a : Addr), as[j]? = some a → a ≠ fl ∧ ∃ y, AllAt H' rs j a y) ⟨⟨_, _, rfl⟩, But.refl, [], rfl, ef0, fun j a h => (nomatch h)⟩ (fun i σ H' _ pv => SqT.of (pv.2.1 _ _ et (n1 mt))) (fun k x σ H1 H2 hk pv y => ?_) (fun σ H' pv => ?_)
  · obtain ⟨⟨t2, t3, rfl⟩, bt, as, hal, ef, all⟩ := pv
    obtain ⟨rfl, hx⟩ := y
    obtain ⟨wk, rfl, ew, mw, hk4⟩ : ∃ wk, x = .ref wk ∧ G0 wk = some (lstS (wdsOf k)) ∧ wk ≠ fl ∧ k < 4 := by
      match k, hk, hx with
      | 0, _, hx => exact ⟨w0, (Option.some.inj hx).symm, e0, m0, by decide⟩
      | 1, _, hx => exact ⟨w1, (Option.some.inj hx).symm, e1, m1', by decide⟩
      | 2, _, hx => exact ⟨w2, (Option.some.inj hx).symm, e2, m2', by decide⟩
      | 3, _, hx => exact ⟨w3, (Option.some.inj hx).symm, e3, m3', by decide⟩
    have hpp := bt _ _ hpG (n1 mp)
    have eww := bt _ _ ew (n1 mw)
    refine ⟨_, rfl, .inl ⟨rfl, _, SqL.of ef⟩, ?_⟩
    unfold tCB tCons tNil
    dsimp only [List.map]
    refine lc_listG p (rs.map fun r => V.str r.text) (fun v => decide (fst1 v ∈ wdsOf k)) snd1 (fun R hR => ⟨_, rfl, p, rfl, ⟨_, SqL.of hpp⟩, hR⟩) (SqL.of hpp) (by rw [List.length_map]; omega) (fun D H5 nD s5 hD => ?_) (fun v H5 Q' hv s5 z => ?_) (fun v H5 Q' hv hin s5 z => ?_)
    · rw [names_comp hk4 rs hok] at hD
      have ln : (names k rs).length ≤ 60 := by
        have q1 := congrArg List.length (names_comp hk4 rs hok)
        rw [List.length_map, List.length_map] at q1
        rw [← q1]
        refine Nat.le_trans (List.length_filter_le _ _) ?_
        rw [List.length_map]; exact hl
      obtain ⟨g1, g2, g3⟩ := gather_facts _ (names k rs) rfl
      refine ⟨D, names k rs, rfl, SqL.of hD, by omega, fun ps nps => ⟨ps, _, rfl, upd_same, by omega, fun ys pa pm so npa => ?_⟩⟩
      have ef5 := kn (u := .lst (ys.map V.str)) (kn (u := SetX w ps (gather (names k rs))) (s5 _ _ ef) nps) npa
      refine ⟨fl, _, _, rfl, rfl, ef5, small1000 (by rw [List.length_map]; omega), ⟨_, _, rfl⟩, (((bt.trans (But.same s5)).new nps).new npa).put m1, as ++ [pa], by rw [List.length_append, hal]; rfl, by rw [upd_same, List.map_append]; rfl, fun j a ha => ?_⟩
      have npf : pa ≠ fl := (ne_of_none (kn (u := SetX w ps (gather (names k rs))) (s5 _ _ ef) nps) npa).symm
      rcases snoc_at ha with ⟨l1, ha⟩ | ⟨l1, rfl⟩
      · obtain ⟨z1, y, z2⟩ := all j a ha
        exact ⟨z1, y, ⟨ku (kn (kn (s5 _ _ z2.e) nps) npa) z1, z2.so, z2.nd, z2.mem⟩⟩
      · rw [l1, hal]
        exact ⟨npf, ys, ⟨ku upd_same npf, so, pm.nodup_iff.mpr g2, fun x => (pm.mem_iff).trans (g3 x)⟩⟩
    · obtain ⟨r, hr', rfl⟩ := List.mem_map.mp hv
      have hro := hok r hr'
      obtain ⟨wd, rest, hrow⟩ : ∃ wd rest, r.parts = wd :: rest := by
        cases h : r.parts with
        | nil => exact absurd h (parts_ne r)
        | cons a b => exact ⟨a, b, rfl⟩
      have hlen : r.text.length + 2 ≤ sizeLine := by have := text_len hro; rw [sizeLine_eq]; omega
      have ef1 : fst1 (.str r.text) = wd := by show (Txt.split r.text " ").headD "" = _; rw [split_text hro, hrow]; rfl
      refine ⟨_, rfl, ⟨_, rfl⟩, r.text, " ", rfl, rfl, by decide +kernel, hlen, fun l nl => ?_⟩
      rw [split_text hro, hrow]
      refine ⟨l, _, 0, _, rfl, rfl, SqL.of upd_same, atI_nat (j := 0) rfl, _, rfl, wk, _, rfl, .inl (SqL.of (kn (s5 _ _ eww) nl)), rfl, flat_strs' _, _, rfl, ?_⟩
      have q1 := z _ (same_ext (o := .lst ((wd :: rest).map V.str)) nl)
      rw [ef1] at q1
      rw [in_strs']
      exact q1
    · obtain ⟨r, hr', rfl⟩ := List.mem_map.mp hv
      have hro := hok r hr'
      obtain ⟨wd, rest, hrow⟩ : ∃ wd rest, r.parts = wd :: rest := by
        cases h : r.parts with
        | nil => exact absurd h (parts_ne r)
        | cons a b => exact ⟨a, b, rfl⟩
      have hlen : r.text.length + 2 ≤ sizeLine := by have := text_len hro; rw [sizeLine_eq]; omega
      have ef1 : fst1 (.str r.text) = wd := by show (Txt.split r.text " ").headD "" = _; rw [split_text hro, hrow]; rfl
      obtain ⟨nm, rest', hrest⟩ : ∃ nm rest', rest = nm :: rest' := by
        have hwd : wd ∈ wdsOf k := by rw [ef1] at hin; exact of_decide_eq_true hin
        clear hin ef1
        cases r with
        | each a b c => cases c <;> exact ⟨_, _, (List.cons.inj hrow).2.symm⟩
        | defn a b => exact ⟨_, _, (List.cons.inj hrow).2.symm⟩
        | named a b => exact ⟨_, _, (List.cons.inj hrow).2.symm⟩
        | rep a => exact ⟨_, _, (List.cons.inj hrow).2.symm⟩
        | turn l =>
          exfalso
          rw [← (List.cons.inj hrow).1] at hwd
          revert hwd
          match k, hk4 with
          | 0, _ => cases l <;> decide +kernel
          | 1, _ => cases l <;> decide +kernel
          | 2, _ => cases l <;> decide +kernel
          | 3, _ => cases l <;> decide +kernel
        | _ =>
          exfalso
          rw [← (List.cons.inj hrow).1] at hwd
          revert hwd
          match k, hk4 with
          | 0, _ => decide +kernel
          | 1, _ => decide +kernel
          | 2, _ => decide +kernel
          | 3, _ => decide +kernel
      have ef2 : snd1 (.str r.text) = .str nm := by show V.str ((Txt.split r.text " ").tail.headD "") = _; rw [split_text hro, hrow, hrest]; rfl
      refine ⟨_, rfl, ⟨_, rfl⟩, r.text, " ", rfl, rfl, by decide +kernel, hlen, fun l nl => ?_⟩
      rw [split_text hro, hrow, hrest]
      refine ⟨l, _, 1, _, rfl, rfl, SqL.of upd_same, atI_nat (j := 1) rfl, ?_⟩
      have q1 := z _ (same_ext (o := .lst ((wd :: nm :: rest').map V.str)) nl)
      rw [ef2] at q1
      exact q1
  · obtain ⟨⟨t2, t3, rfl⟩, bt, as, hal, ef, all⟩ := pv
    match as, hal with
    | [a0, a1, a2, a3], _ =>
      obtain ⟨_, y0, z0⟩ := all 0 a0 rfl
      obtain ⟨_, y1, z1⟩ := all 1 a1 rfl
      obtain ⟨_, y2, z2⟩ := all 2 a2 rfl
      obtain ⟨_, y3, z3⟩ := all 3 a3 rfl
      exact ⟨_, rfl, q fl a0 a1 a2 a3 y0 y1 y2 y3 H' (fun c o hc => bt c o (sH _ _ hc) (n1 (ne_of_none hc nfl))) ef z0 z1 z2 z3⟩
end
end K8
set_option Elab.async false
set_option linter.all false
set_option maxRecDepth 100000
set_option maxHeartbeats 4000000
/-! The walk of _law_box. -/
namespace K8
open PySem PyProof.Rows L2
section
variable {P : Program} {w : World} {K : PySem.W.Frag} {mg : Str → Option Value} {base : Heap} {f : Addr} {fd : FuncData}
abbrev sLbox : Stmt := top 29
theorem scLbox : FnScope ["_law_script", "_law_k", "_law_own", "_law_cell", "_law_seed"] ["_law_script", "_law_k", "_law_own"] (defScope sLbox) := ⟨rfl, rfl, rfl, by decide +kernel, rfl, by decide +kernel, by decide +kernel⟩
def spLbox (K : PySem.W.Frag) : Sp := fun vs H Q _ => ∃ (p : Addr) (ns : List Int) (k : Nat), vs = [.ref p, .int k, .int 8] ∧ SqL K H p (ns.map V.int) ∧ ns.length ≤ 63 ∧ k ≤ 3 ∧ ∀ r H', Same H H' → H r = none → BoxAt H' r → Q (.ref r) H'
theorem ok_lbox (F : Fun K "_law_box" "_law_box" sLbox f fd) (m_len : mg "len" = none) (m_abs : mg "abs" = none) (m_int : mg "int" = none) : FnOk P w K mg base CX0 1 f fd ["_law_script", "_law_k", "_law_own"] (spLbox K) := by
  refine F.ok scLbox (fun vs H Q E h => ?_) (fun cdv A outer s H vs Q E hr h => ?_)
  · obtain ⟨_, _, _, rfl, _⟩ := h
    rfl
  obtain ⟨p, ns, k, rfl, hp, hl, hk, q⟩ := h
  have nd := scLbox.nd
  refine ⟨_, (pss_cons (ps_set (i := 3) nd rfl (.inl rfl) (pe_op op_add (pe_op op_add (pe_op op_mul pe_int (pv 1)) (pe_op op_mul pe_int (pv 2))) pe_int))
    (C8.pss_cut (ps_if (pt_cmpR op_lt (pv 1) (pe_callB call_len_seq (by rfl) m_len (by decide +kernel) (pa_cons (pv 0) pa_nil)) (nomark _)) (pss_one (ps_set (i := 3) nd rfl (.inl rfl) (pe_callB call_abs (by rfl) m_abs (by decide +kernel) (pa_cons (pe_ix ix_list (pv 0) (pv 1) (fun _ _ => rfl)) pa_nil)))) (pss_one (ps_if (pt_cmpR op_gt (pe_callB call_len_seq (by rfl) m_len (by decide +kernel) (pa_cons (pv 0) pa_nil)) pe_int (nomark _)) (pss_one (ps_set (i := 3) nd rfl (.inl rfl) (pe_op op_add (pv 3) (pe_op op_mul (pe_op op_mod (pe_callTy call_int1 (by rfl) m_int (by decide +kernel) (pa_cons (pe_callB call_abs (by rfl) m_abs (by decide +kernel) (pa_cons (pe_ix ix_list (pv 0) (pe_op op_mod (pe_callTy call_int1 (by rfl) m_int (by decide +kernel) (pa_cons (pv 1) pa_nil)) (pe_callB call_len_seq (by rfl) m_len (by decide +kernel) (pa_cons (pv 0) pa_nil))) (fun _ _ => rfl)) pa_nil)) pa_nil)) pe_int) pe_int)))) pss_nil)))
    (pss_cons (ps_set (i := 4) nd rfl (.inl rfl) (pe_op op_add (pe_op op_mod (pe_callTy call_int1 (by rfl) m_int (by decide +kernel) (pa_cons (pe_op op_add (pe_op op_mul (pe_op op_mod (pe_callTy call_int1 (by rfl) m_int (by decide +kernel) (pa_cons (pv 3) pa_nil)) pe_int) pe_int) (pe_op op_mul pe_int (pe_op op_add (pv 1) (pe_op op_mul pe_int (pv 2))))) pa_nil)) pe_int) pe_int))
    (pss_one (ps_ret (pe_lst (pa_cons (pe_ix ix_list (pe_lst (pa_cons pe_int (pa_cons (pv 3) pa_nil))) (pe_callTy call_int1 (by rfl) m_int (by decide +kernel) (pa_cons (pe_cmpR op_ge (pv 3) (pe_op op_pow pe_int pe_int) (nomark _)) pa_nil)) (fun _ _ => rfl)) (pa_cons (pv 4) (pa_cons pe_int pa_nil))))))))), ?_⟩
  refine ⟨_, rfl, _, _, rfl, rfl, .inl ⟨by decide, by decide⟩, _, rfl, _, _, rfl, rfl, .inl ⟨by decide, by decide⟩, _, _, rfl, rfl, _, _, rfl, rfl, ?_⟩
  refine ⟨fun σ' H' => ∃ c : Int, σ' = [some (.ref p), some (.int k), some (.int 8), some (.int c), none] ∧ H' = H, ?_, ?_⟩
  · refine ⟨_, rfl, _, rfl, p, _, rfl, .inl hp, _, _, rfl, rfl, _, rfl, ite2 (fun c => ?_) (fun c => ?_)⟩
    · have hk' : k < ns.length := by have z := of_decide_eq_true c; rw [List.length_map] at z; omega
      exact ⟨_, rfl, _, rfl, p, _, _, _, rfl, rfl, hp, atI_nat (j := k) (by rw [List.getElem?_map, List.getElem?_eq_getElem hk']; rfl), _, rfl, _, rfl, rfl⟩
    · refine ⟨_, rfl, p, _, rfl, .inl hp, _, _, rfl, rfl, _, rfl, ite2 (fun c2 => ?_) (fun c2 => ?_)⟩
      · have hpos : 0 < ns.length := by have z := of_decide_eq_true c2; rw [List.length_map] at z; omega
        have hm : k % (ns.map V.int).length < ns.length := by rw [List.length_map]; exact Nat.mod_lt _ hpos
        exact ⟨_, rfl, _, rfl, _, rfl, .inl ⟨_, rfl, _, rfl, p, _, rfl, .inl hp, _, _, rfl, rfl, of_decide_eq_true c2, p, _, _, _, rfl, rfl, hp, (show atI _ ((k % (ns.map V.int).length : Nat) : Int) = _ from atI_nat (by rw [List.getElem?_map, List.getElem?_eq_getElem hm]; rfl)), _, rfl, .inl ⟨_, rfl, _, _, rfl, rfl, by show (0 : Int) < 2147483629; decide, _, _, rfl, rfl, .inr ⟨by decide, by decide⟩, _, _, rfl, rfl, _, rfl, rfl⟩⟩⟩
      · exact ⟨_, rfl, rfl⟩
  · rintro σ' H' ⟨c, rfl, rfl⟩
    refine ⟨_, rfl, .inl ⟨_, rfl, _, _, rfl, rfl, by show (0 : Int) < 2147483629; decide, _, _, rfl, rfl, .inr ⟨by decide, by decide⟩, _, rfl, _, rfl, _, _, rfl, rfl, .inl ⟨by decide, by decide⟩, _, _, rfl, rfl, _, _, rfl, rfl, .inl ⟨by decide, by decide⟩, _, _, rfl, rfl, .inl ⟨_, rfl, _, _, rfl, rfl, by show (0 : Int) < 2147483629; decide, _, _, rfl, rfl, ?_⟩⟩⟩
    refine ⟨_, rfl, by show 2 ≤ sizeLine; decide, fun l nl => ⟨_, rfl, 10, 18, rfl, rfl, ⟨by decide, by decide, by decide⟩, _, _, rfl, rfl, .inr ⟨_, rfl, ?_⟩⟩⟩
    cases hb : decide ((10 : Int) ^ (18 : Int).toNat ≤ c) with
    | true =>
      refine ⟨l, _, _, _, rfl, rfl, SqL.of upd_same, (show atI _ ((1 : Nat) : Int) = _ from atI_nat (j := 1) rfl), _, rfl, by show 3 ≤ sizeLine; decide, fun r nr => q r _ ((same_ext nl).trans (same_ext nr)) (fr nr).1 ⟨_, _, _, upd_same⟩⟩
    | false =>
      refine ⟨l, _, _, _, rfl, rfl, SqL.of upd_same, (show atI _ ((0 : Nat) : Int) = _ from atI_nat (j := 0) rfl), _, rfl, by show 3 ≤ sizeLine; decide, fun r nr => q r _ ((same_ext nl).trans (same_ext nr)) (fr nr).1 ⟨_, _, _, upd_same⟩⟩
end
end K8
set_option Elab.async false
set_option linter.all false
set_option maxRecDepth 100000
set_option maxHeartbeats 4000000
/-! Mathematics: what is read of drawn programs, of beginnings, of joined ones, of those under other names. -/
namespace K8
open PySem PyProof.Rows
theorem Step.grow {s s' : S} {r : Row} (h : Step s r s') : s.jobs.length ≤ s'.jobs.length ∧ s.walks.length ≤ s'.walks.length ∧ s.deepest ≤ s'.deepest := by
  cases h with
  | @fin0 w n _ _ => cases w <;> simp [S.tell]
  | @named k n _ _ => have q := note_cases s k n; rw [q.2.2.2.1, q.2.2.2.2.2.1, q.2.2.2.2.2.2]; simp
  | rep _ _ => simp [S.push]; omega
  | guard _ => simp [S.push]; omega
  | each _ _ _ _ _ => simp [S.push]; omega
  | _ => simp
theorem Run.grow {s s' : S} {rs : List Row} (h : Run s rs s') : s.jobs.length ≤ s'.jobs.length ∧ s.walks.length ≤ s'.walks.length ∧ s.deepest ≤ s'.deepest := by
  induction h with
  | nil => exact ⟨Nat.le_refl _, Nat.le_refl _, Nat.le_refl _⟩
  | cons a _ ih => have q := a.grow; exact ⟨Nat.le_trans q.1 ih.1, Nat.le_trans q.2.1 ih.2.1, Nat.le_trans q.2.2 ih.2.2⟩
theorem addG_len (gs : List Str) (g : Str) : (addG gs g).length ≤ gs.length + 1 := by unfold addG; split <;> simp
theorem Step.gates_len {s s' : S} {r : Row} (h : Step s r s') : s'.gates.length ≤ s.gates.length + 1 := by
  rw [h.gates]
  cases r with
  | named k n => cases k <;> first | exact addG_len _ _ | exact Nat.le_succ _
  | _ => exact Nat.le_succ _
theorem Run.gates_len {s s' : S} {rs : List Row} (h : Run s rs s') : s'.gates.length ≤ s.gates.length + rs.length := by
  induction h with
  | nil => exact Nat.le_refl _
  | cons a _ ih => have q := a.gates_len; rw [List.length_cons]; omega
/-- a text that is a program -/
structure Rd (rs : List Row) (s : S) (js ws : List Str) : Prop where
  run : Run {} rs s
  cur : s.cur = none
  deep : s.deepest ≤ 6
  jobs : s.jobs = js
  walks : s.walks = ws
  all : ∀ x ∈ ("main" : Str) :: s.begun, x ∈ s.jobs
  sz : s.jobs.length ≤ 6 ∧ s.walks.length ≤ 6
  gat : s.gates.length < 64
  ne : rs ≠ []
  len : rs.length ≤ 100
theorem Rd.sizes {rs : List Row} {s : S} {js ws : List Str} (h : Rd rs s js ws) : Sz s := fun _ _ => ⟨h.sz.1, h.sz.2, h.deep, h.gat⟩
/-- a beginning -/
theorem Rd.upto {rs : List Row} {s : S} {js ws : List Str} (h : Rd rs s js ws) (h63 : rs.length < 64) {i : Nat} {r : Row} (hi : rs[i]? = some r) : ∃ b, Run {} (rs.take i) b ∧ (b.cur = none ↔ r.isDef = true) ∧ Sz b := by
  have e : rs = rs.take i ++ (r :: rs.drop (i + 1)) := by
    obtain ⟨hl, hr⟩ := List.getElem?_eq_some_iff.mp hi
    rw [← hr, ← List.drop_eq_getElem_cons hl, List.take_append_drop]
  have run := h.run
  rw [e] at run
  obtain ⟨b, h1, h2⟩ := run.cut
  have g := h2.grow
  have gl := h1.gates_len
  have tl : (rs.take i).length ≤ rs.length := by rw [List.length_take]; omega
  refine ⟨b, h1, by cases h2 with | cons s _ => exact s.cur_iff, fun _ _ => ⟨Nat.le_trans g.1 h.sz.1, Nat.le_trans g.2.1 h.sz.2, Nat.le_trans g.2.2 h.deep, ?_⟩⟩
  have z : ({} : S).gates.length = 0 := rfl
  rw [z] at gl
  omega
theorem begs_nms : ∀ (r : Row) (x : Str), x ∈ r.begs → x ∈ Row.nms 0 r := fun r x h => by
  cases r with
  | named k n => cases k <;> first | exact h | cases h
  | _ => cases h
theorem begun_names {rs : List Row} {s : S} (h : Run {} rs s) : ∀ x ∈ s.begun, x ∈ names 0 rs := fun x hx => by
  rw [h.begun] at hx
  have hx : x ∈ (rs.map Row.begs).flatten := by simpa using hx
  obtain ⟨l, hl, hxl⟩ := List.mem_flatten.mp hx
  obtain ⟨r, hr, rfl⟩ := List.mem_map.mp hl
  exact List.mem_flatten.mpr ⟨_, List.mem_map_of_mem hr, begs_nms r x hxl⟩
/-! drawn programs -/
theorem count_def (ds : List Def) : ds.length = (jnames ds).length + (wnames ds).length := by
  rw [jn_len, wn_len]
  induction ds with
  | nil => rfl
  | cons d ds ih => rw [List.map_cons, List.length_cons, List.count_cons, List.count_cons]; cases d.w <;> simp <;> omega
theorem Drawn.lens {L : Lists} {ds : List Def} (h : Drawn L ds) : (jnames ds).length ≤ 3 ∧ 1 ≤ (jnames ds).length ∧ (wnames ds).length ≤ 2 ∧ ds.length ≤ 5 ∧ (flat ds).length ≤ 40 := by
  have a := h.j.length_eq
  have b := h.w.length_eq
  have c := h.ok.jobs.2.2.1
  have d := h.ok.jobs.2.2.2.1
  have e := h.ok.walks.2.2
  have f := count_def ds
  have g := flat_len h.df
  omega
theorem flat_ne {ds : List Def} (h : ds ≠ []) : flat ds ≠ [] := by
  cases ds with
  | nil => exact absurd rfl h
  | cons d ds => rw [flat_cons]; unfold Def.rows; simp
theorem Drawn.ne {L : Lists} {ds : List Def} (h : Drawn L ds) : flat ds ≠ [] := flat_ne fun z => by
  have := h.lens.2.1
  rw [z] at this
  exact absurd this (by decide)
theorem Drawn.names0 {L : Lists} {ds : List Def} (h : Drawn L ds) {x : Str} : x ∈ names 0 (flat ds) ↔ x ∈ jnames ds := by
  have D := defs_names h.df
  refine ⟨fun hx => ?_, D.j2 x⟩
  rcases D.j1 x hx with hx | hx
  · exact h.j.mem_iff.mpr hx
  · exact hx
theorem Drawn.names1 {L : Lists} {ds : List Def} (h : Drawn L ds) {x : Str} : x ∈ names 1 (flat ds) ↔ x ∈ wnames ds := by
  have D := defs_names h.df
  refine ⟨fun hx => ?_, D.w2 x⟩
  rcases D.w1 x hx with hx | hx
  · cases hx
  · exact hx
theorem Drawn.nd {L : Lists} {ds : List Def} (h : Drawn L ds) : (jnames ds).Nodup ∧ (wnames ds).Nodup := ⟨h.j.nodup_iff.mpr h.ok.jobs.1, h.w.nodup_iff.mpr h.ok.walks.1⟩
theorem Drawn.nmj {L : Lists} {ds : List Def} (h : Drawn L ds) : ∀ x ∈ jnames ds, Nd x := fun x hx => h.ok.jobs.2.1 x (h.j.mem_iff.mp hx)
theorem Drawn.nmw {L : Lists} {ds : List Def} (h : Drawn L ds) : ∀ x ∈ wnames ds, Nd x := fun x hx => h.ok.walks.2.1 x (h.w.mem_iff.mp hx)
theorem Drawn.main {L : Lists} {ds : List Def} (h : Drawn L ds) : ("main" : Str) ∈ jnames ds := h.j.mem_iff.mpr h.ok.jobs.2.2.2.2
theorem rd_drawn {L : Lists} {ds : List Def} (h : Drawn L ds) : ∃ s, Rd (flat ds) s (jnames ds) (wnames ds) := by
  obtain ⟨s, r, c, i, d, ew, ej⟩ := defs_run h.df {} rfl rfl (Nat.zero_le _) (fun w hw => by cases hw) (by simpa using h.nd.2) (by simpa using h.nd.1)
  have ew : s.walks = wnames ds := by rw [ew]; rfl
  have ej : s.jobs = jnames ds := by rw [ej]; rfl
  have l := h.lens
  have gl := r.gates_len
  have z : ({} : S).gates.length = 0 := rfl
  rw [z] at gl
  refine ⟨s, r, c, d, ej, ew, fun x hx => ?_, ⟨by rw [ej]; omega, by rw [ew]; omega⟩, by omega, h.ne, by omega⟩
  rw [ej]
  rcases List.mem_cons.mp hx with rfl | hx
  · exact h.main
  · exact h.names0.mp (begun_names r x hx)
/-- names exchanged for fresh ones -/
structure Frs (ds : List Def) (F : Nat → Str → Str) : Prop where
  new : ∀ j < 4, ∀ x ∈ names j (flat ds), F j x ∈ fresh
  old : ∀ j < 4, ∀ x, x ∉ names j (flat ds) → F j x = x
  inj : ∀ j < 4, ∀ x ∈ names j (flat ds), ∀ y ∈ names j (flat ds), F j x = F j y → x = y
theorem nm_fresh : ∀ x ∈ fresh, Nm x := by decide +kernel
theorem Frs.nm {L : Lists} {ds : List Def} {F : Nat → Str → Str} (h : Frs ds F) {j : Nat} (hj : j < 4) {x : Str} (hx : Nm x) : Nm (F j x) := by
  by_cases z : x ∈ names j (flat ds)
  · exact nm_fresh _ (h.new j hj x z)
  · rw [h.old j hj x z]; exact hx
theorem nodup_map {f : Str → Str} : ∀ {l : List Str}, l.Nodup → (∀ x ∈ l, ∀ y ∈ l, f x = f y → x = y) → (l.map f).Nodup
  | [], _, _ => .nil
  | x :: l, h, i => by
    rw [List.nodup_cons] at h
    rw [List.map_cons, List.nodup_cons]
    refine ⟨fun hm => ?_, nodup_map h.2 fun a ha b hb => i a (List.mem_cons_of_mem _ ha) b (List.mem_cons_of_mem _ hb)⟩
    obtain ⟨y, hy, e⟩ := List.mem_map.mp hm
    exact h.1 (i y (List.mem_cons_of_mem _ hy) x List.mem_cons_self e ▸ hy)
theorem Drawn.ren {L : Lists} {ds : List Def} {F : Nat → Str → Str} (h : Drawn L ds) (inj : ∀ x ∈ wnames ds, ∀ y ∈ wnames ds, F 1 x = F 1 y → x = y) (nm : ∀ j < 4, ∀ x, Nm x → Nm (F j x)) : Defs (L.jobs.map (F 0)) (L.gates.map (F 2)) (L.notes.map (F 3)) [] (ds.map (Def.ren F)) :=
  h.df.ren (W := wnames ds) (J := jnames ds) inj (fun x hx => nm 1 (by decide) x (h.nmw x hx).nm) (fun x hx => nm 0 (by decide) x (h.nmj x hx).nm) (fun x hx => nm 0 (by decide) x (h.ok.jobs.2.1 x hx).nm) (fun x hx => nm 2 (by decide) x (h.ok.gates.2.1 x hx).nm) (fun x hx => nm 3 (by decide) x (h.ok.notes.2.1 x hx).nm)
    (fun x hx => by cases hx) (fun x hx => hx) (fun x hx => hx)
theorem len_sub : ∀ {l m : List Str}, l.Nodup → (∀ x ∈ l, x ∈ m) → l.length ≤ m.length
  | [], _, _, _ => Nat.zero_le _
  | x :: l, m, h, hs => by
    rw [List.nodup_cons] at h
    have hx := hs x List.mem_cons_self
    have ih := len_sub (m := m.erase x) h.2 fun y hy => (List.mem_erase_of_ne (fun (e : y = x) => h.1 (by rw [← e]; exact hy))).mpr (hs y (List.mem_cons_of_mem _ hy))
    rw [List.length_erase_of_mem hx] at ih
    have := List.length_pos_of_mem hx
    rw [List.length_cons]
    omega
theorem mid_nodup {a b m : List Str} (h : (a ++ b).Nodup) (hm : m.Nodup) (d : ∀ x ∈ m, x ∉ a ++ b) : (a ++ (m ++ b)).Nodup := by
  rw [List.nodup_append] at h ⊢
  obtain ⟨h1, h2, h3⟩ := h
  refine ⟨h1, List.nodup_append.mpr ⟨hm, h2, fun x hx y hy e => d x hx (e ▸ List.mem_append_right _ hy)⟩, fun x hx y hy e => ?_⟩
  rcases List.mem_append.mp hy with hy | hy
  · exact d y hy (e ▸ List.mem_append_left _ hx)
  · exact h3 x hx y hy e
/-- the second one, all names fresh, in the first one -/
theorem rd_both {L1 L2 : Lists} {a b ds : List Def} {F : Nat → Str → Str} (h1 : Drawn L1 (a ++ b)) (h2 : Drawn L2 ds) (f : Frs ds F) : (∀ r ∈ (flat ds).map (Row.ren F), r.Ok) ∧
    ∃ s, Rd (flat a ++ ((flat ds).map (Row.ren F) ++ flat b)) s (jnames a ++ ((jnames ds).map (F 0) ++ jnames b)) (wnames a ++ ((wnames ds).map (F 1) ++ wnames b)) := by
  have inw : ∀ x ∈ wnames ds, ∀ y ∈ wnames ds, F 1 x = F 1 y → x = y := fun x hx y hy => f.inj 1 (by decide) x (h2.names1.mpr hx) y (h2.names1.mpr hy)
  have inj : ∀ x ∈ jnames ds, ∀ y ∈ jnames ds, F 0 x = F 0 y → x = y := fun x hx y hy => f.inj 0 (by decide) x (h2.names0.mpr hx) y (h2.names0.mpr hy)
  have D := h2.ren (F := F) inw fun j hj x hx => f.nm (L := L2) hj hx
  have n1 := h1.nd
  rw [jnames_app, wnames_app] at n1
  have outw : ∀ x ∈ (wnames ds).map (F 1), x ∉ wnames a ++ wnames b := fun x hx z => by
    obtain ⟨y, hy, rfl⟩ := List.mem_map.mp hx
    exact (h1.nmw _ (by rw [wnames_app]; exact z)).out (f.new 1 (by decide) y (h2.names1.mpr hy))
  have outj : ∀ x ∈ (jnames ds).map (F 0), x ∉ jnames a ++ jnames b := fun x hx z => by
    obtain ⟨y, hy, rfl⟩ := List.mem_map.mp hx
    exact (h1.nmj _ (by rw [jnames_app]; exact z)).out (f.new 0 (by decide) y (h2.names0.mpr hy))
  obtain ⟨s, r, c, i, d, ew, ej⟩ := join_run h1.df D (by rw [wnames_ren]; exact mid_nodup n1.2 (nodup_map h2.nd.2 inw) outw) (by rw [jnames_ren]; exact mid_nodup n1.1 (nodup_map h2.nd.1 inj) outj)
  rw [flat_ren] at r
  rw [wnames_ren] at ew
  rw [jnames_ren] at ej
  have l1 := h1.lens
  have l2 := h2.lens
  rw [jnames_app, wnames_app, flat_app] at l1
  simp only [List.length_append] at l1
  have gl := r.gates_len
  have z : ({} : S).gates.length = 0 := rfl
  rw [z] at gl
  have gn := r.gates .nil
  have all : ∀ x ∈ ("main" : Str) :: s.begun, x ∈ s.jobs := fun x hx => by
    rw [ej]
    have m1 : ∀ y ∈ jnames (a ++ b), y ∈ jnames a ++ ((jnames ds).map (F 0) ++ jnames b) := fun y hy => by
      rw [jnames_app] at hy
      rcases List.mem_append.mp hy with hy | hy
      · exact List.mem_append_left _ hy
      · exact List.mem_append_right _ (List.mem_append_right _ hy)
    rcases List.mem_cons.mp hx with rfl | hx
    · exact m1 _ h1.main
    · have q := begun_names r x hx
      rw [names_app, names_app, names_ren (by decide)] at q
      have q1 : x ∈ names 0 (flat (a ++ b)) → x ∈ jnames (a ++ b) := h1.names0.mp
      rw [flat_app, names_app] at q1
      rcases List.mem_append.mp q with q | q
      · exact m1 _ (q1 (List.mem_append_left _ q))
      · rcases List.mem_append.mp q with q | q
        · obtain ⟨y, hy, rfl⟩ := List.mem_map.mp q
          exact List.mem_append_right _ (List.mem_append_left _ (List.mem_map_of_mem (h2.names0.mp hy)))
        · exact m1 _ (q1 (List.mem_append_right _ q))
  refine ⟨fun r' hr => r.ok r' (List.mem_append_right _ (List.mem_append_left _ hr)), s, r, c, d, ej, ew, all, ⟨?_, ?_⟩, ?_, ?_, ?_⟩
  · rw [ej]; simp only [List.length_append, List.length_map]; omega
  · rw [ew]; simp only [List.length_append, List.length_map]; omega
  · refine Nat.lt_of_le_of_lt (?_ : s.gates.length ≤ 16) (by decide)
    -- gates: those of both programs
    have sub : ∀ x ∈ s.gates, x ∈ L1.gates ++ L2.gates.map (F 2) := fun x hx => by
      have q := (gn.2 x).mp hx
      rcases q with q | q
      · cases q
      · have eg : ∀ rs : List Row, (rs.map Row.gate).flatten = names 2 rs := fun rs => by
          unfold names
          rw [show Row.nms 2 = Row.gate from funext nms_gate]
        rw [eg, names_app, names_app, names_ren (by decide)] at q
        have g1 := (defs_names h1.df).g
        rw [flat_app, names_app] at g1
        have g2 := (defs_names h2.df).g
        rcases List.mem_append.mp q with q | q
        · exact List.mem_append_left _ (g1 x (List.mem_append_left _ q))
        · rcases List.mem_append.mp q with q | q
          · obtain ⟨y, hy, rfl⟩ := List.mem_map.mp q
            exact List.mem_append_right _ (List.mem_map_of_mem (g2 y hy))
          · exact List.mem_append_left _ (g1 x (List.mem_append_right _ q))
    have := len_sub gn.1 sub
    rw [List.length_append, List.length_map] at this
    have := h1.ok.gates.2.2.2
    have := h2.ok.gates.2.2.2
    omega
  · intro z
    have q := List.append_eq_nil_iff.mp z
    have q2 := List.append_eq_nil_iff.mp q.2
    exact h2.ne (by simpa using q2.1)
  · simp only [List.length_append, List.length_map]; omega
/-- names back -/
theorem ren_on {F : Nat → Str → Str} {r : Row} (h : ∀ j < 4, ∀ x ∈ Row.nms j r, F j x = x) : r.ren F = r := by
  cases r with
  | defn w n =>
    cases w with
    | true => show Row.defn true (F 1 n) = _; rw [h 1 (by decide) n (List.mem_singleton.mpr rfl)]
    | false => show Row.defn false (F 0 n) = _; rw [h 0 (by decide) n (List.mem_singleton.mpr rfl)]
  | named k n =>
    cases k with
    | begin => show Row.named _ (F 0 n) = _; rw [h 0 (by decide) n (List.mem_singleton.mpr rfl)]
    | wait => show Row.named _ (F 2 n) = _; rw [h 2 (by decide) n (List.mem_singleton.mpr rfl)]
    | opn => show Row.named _ (F 2 n) = _; rw [h 2 (by decide) n (List.mem_singleton.mpr rfl)]
    | say => show Row.named _ (F 3 n) = _; rw [h 3 (by decide) n (List.mem_singleton.mpr rfl)]
    | fail => show Row.named _ (F 3 n) = _; rw [h 3 (by decide) n (List.mem_singleton.mpr rfl)]
  | each w how t => show Row.each (F 1 w) how t = _; rw [h 1 (by decide) w (List.mem_singleton.mpr rfl)]
  | _ => rfl
theorem ren_back {F G : Nat → Str → Str} {rs : List Row} (h : ∀ j < 4, ∀ x ∈ names j rs, G j (F j x) = x) : (rs.map (Row.ren F)).map (Row.ren G) = rs := by
  rw [List.map_map]
  refine (List.map_congr_left (g := id) fun r hr => ?_).trans (List.map_id rs)
  show (r.ren F).ren G = r
  rw [Row.ren_comp]
  exact ren_on fun j hj x hx => h j hj x (List.mem_flatten.mpr ⟨_, List.mem_map_of_mem hr, hx⟩)
/-- names exchanged among themselves, jobs staying -/
structure Trn (ds : List Def) (F : Nat → Str → Str) (z : Nat → List Str) : Prop where
  id0 : ∀ x, F 0 x = x
  mem : ∀ j < 4, ∀ x, x ∈ z j ↔ x ∈ names j (flat ds)
  nd : ∀ j < 4, (z j).Nodup
  perm : ∀ j < 4, ((z j).map (F j)).Perm (z j)
  old : ∀ j < 4, ∀ x, x ∉ z j → F j x = x
theorem inj_of_nodup {f : Str → Str} : ∀ {l : List Str}, (l.map f).Nodup → ∀ x ∈ l, ∀ y ∈ l, f x = f y → x = y
  | [], _, x, hx, _, _, _ => by cases hx
  | a :: l, h, x, hx, y, hy, e => by
    rw [List.map_cons, List.nodup_cons] at h
    rcases List.mem_cons.mp hx with hx1 | hx1 <;> rcases List.mem_cons.mp hy with hy1 | hy1
    · rw [hx1, hy1]
    · rw [hx1] at e
      exact absurd (by rw [e]; exact List.mem_map_of_mem hy1) h.1
    · rw [hy1] at e
      exact absurd (by rw [← e]; exact List.mem_map_of_mem hx1) h.1
    · exact inj_of_nodup h.2 x hx1 y hy1 e
theorem rd_turned {L : Lists} {ds : List Def} {F : Nat → Str → Str} {z : Nat → List Str} {s : S} (h : Drawn L ds) (t : Trn ds F z) (r0 : Rd (flat ds) s (jnames ds) (wnames ds)) : (∀ r ∈ (flat ds).map (Row.ren F), r.Ok) ∧
    ∃ s', Rd ((flat ds).map (Row.ren F)) s' (jnames ds) ((wnames ds).map (F 1)) ∧ ((wnames ds).map (F 1)).Perm (wnames ds) ∧ s'.gates.Perm s.gates := by
  have zw : (z 1).Perm (wnames ds) := perm_of_set (t.nd 1 (by decide)) h.nd.2 fun x => (t.mem 1 (by decide) x).trans h.names1
  have pw : ((wnames ds).map (F 1)).Perm (wnames ds) := ((zw.map (F 1)).symm.trans (t.perm 1 (by decide))).trans zw
  have ndw : ((wnames ds).map (F 1)).Nodup := pw.nodup_iff.mpr h.nd.2
  have inw := inj_of_nodup ndw
  have nmz : ∀ j < 4, ∀ x ∈ z j, Nm x := fun j hj x hx => by
    have q := (t.mem j hj x).mp hx
    have D := defs_names h.df
    match j, hj with
    | 0, _ => exact (h.nmj x (h.names0.mp q)).nm
    | 1, _ => exact (h.nmw x (h.names1.mp q)).nm
    | 2, _ => exact (h.ok.gates.2.1 x (D.g x q)).nm
    | 3, _ => exact (h.ok.notes.2.1 x (D.n x q)).nm
  have nm : ∀ j < 4, ∀ x, Nm x → Nm (F j x) := fun j hj x hx => by
    by_cases q : x ∈ z j
    · exact nmz j hj _ ((t.perm j hj).mem_iff.mp (List.mem_map_of_mem q))
    · rw [t.old j hj x q]; exact hx
  have D := h.ren (F := F) inw nm
  have ej0 : (jnames ds).map (F 0) = jnames ds := (List.map_congr_left (g := id) fun x _ => t.id0 x).trans (List.map_id _)
  obtain ⟨s', r, c, i, d, ew, ej⟩ := defs_run D {} rfl rfl (Nat.zero_le _) (fun w hw => by cases hw) (by rw [wnames_ren]; simpa using ndw) (by rw [jnames_ren, ej0]; simpa using h.nd.1)
  have ew : s'.walks = (wnames ds).map (F 1) := by rw [ew, wnames_ren]; rfl
  have ej : s'.jobs = jnames ds := by rw [ej, jnames_ren, ej0]; rfl
  rw [flat_ren] at r
  have l := h.lens
  have gl := r.gates_len
  have z0 : ({} : S).gates.length = 0 := rfl
  rw [z0, List.length_map] at gl
  refine ⟨r.ok, s', ⟨r, c, d, ej, ew, fun x hx => ?_, ⟨by rw [ej]; omega, by rw [ew, List.length_map]; omega⟩, by omega, by simpa using h.ne, by rw [List.length_map]; omega⟩, pw, ?_⟩
  · rw [ej]
    rcases List.mem_cons.mp hx with rfl | hx
    · exact h.main
    · have q := begun_names r x hx
      rw [names_ren (by decide)] at q
      obtain ⟨y, hy, rfl⟩ := List.mem_map.mp q
      rw [t.id0]
      exact h.names0.mp hy
  · exact gates_ren r0.run r (t.mem 2 (by decide)) (t.perm 2 (by decide))
end K8
set_option Elab.async false
set_option linter.all false
set_option maxRecDepth 100000
set_option maxHeartbeats 4000000
/-! Mathematics: tables of names. -/
namespace K8
open PySem PyProof.Rows L2
/-- a table as a dict holds it -/
def kvOf (l : List (Str × Str)) : List (Key × V) := l.map fun p => (.inr p.1, .str p.2)
def tabF (l : Nat → List (Str × Str)) : Nat → Str → Str := fun j x => ((l j).lookup x).getD x
theorem valV_kvOf : ∀ (l : List (Str × Str)) (x : Str), valV (kvOf l) (.inr x) = (l.lookup x).map V.str
  | [], _ => rfl
  | p :: l, x => by
    have ih := valV_kvOf l x
    show valV ((Sum.inr p.1, V.str p.2) :: kvOf l) (.inr x) = _
    by_cases e : p.1 = x
    · have q : (x == p.1) = true := by rw [e]; exact beq_self_eq_true x
      rw [valV_pos (by rw [e]), show p :: l = (p.1, p.2) :: l from rfl, List.lookup_cons, q]
      rfl
    · have q : (x == p.1) = false := by rw [beq_eq_false_iff_ne]; exact Ne.symm e
      rw [valV_neg (fun z => e (Sum.inr.inj z)), ih, show p :: l = (p.1, p.2) :: l from rfl, List.lookup_cons, q]
theorem tabF_val (l : Nat → List (Str × Str)) (j : Nat) (x : Str) : (valV (kvOf (l j)) (.inr x)).getD (.str x) = .str (tabF l j x) := by
  rw [valV_kvOf]
  unfold tabF
  cases (l j).lookup x <;> rfl
theorem mergeK_new : ∀ (more kvs : List (Key × V)), (more.map Prod.fst).Nodup → (∀ p ∈ more, ∀ q ∈ kvs, q.1 ≠ p.1) → mergeK kvs more = kvs ++ more
  | [], kvs, _, _ => by show kvs = _; rw [List.append_nil]
  | p :: r, kvs, h, d => by
    rw [List.map_cons, List.nodup_cons] at h
    have e : putK kvs p.1 p.2 = kvs ++ [p] := by
      unfold putK
      rw [if_neg (fun z => ?_)]
      obtain ⟨q, hq, e⟩ := List.any_eq_true.mp z
      exact d p List.mem_cons_self q hq (of_decide_eq_true e)
    show mergeK (putK kvs p.1 p.2) r = _
    rw [e, mergeK_new r (kvs ++ [p]) h.2 fun a ha q hq => ?_, List.append_assoc]
    · rfl
    · rcases List.mem_append.mp hq with hq | hq
      · exact d a (List.mem_cons_of_mem _ ha) q hq
      · rw [List.mem_singleton.mp hq]
        exact fun z => h.1 (by rw [z]; exact List.mem_map_of_mem ha)
theorem kvOf_fst (l : List (Str × Str)) : (kvOf l).map Prod.fst = (l.map Prod.fst).map Sum.inr := by
  unfold kvOf
  rw [List.map_map, List.map_map]
  rfl
theorem nodup_inr {l : List Str} (h : l.Nodup) : (l.map (Sum.inr : Str → Key)).Nodup := by
  induction l with
  | nil => exact .nil
  | cons x l ih =>
    rw [List.nodup_cons] at h
    rw [List.map_cons, List.nodup_cons]
    refine ⟨fun z => ?_, ih h.2⟩
    obtain ⟨y, hy, e⟩ := List.mem_map.mp z
    exact h.1 (Sum.inr.inj e ▸ hy)
theorem merge_kv {l : List (Str × Str)} (h : (l.map Prod.fst).Nodup) : mergeK [] (kvOf l) = kvOf l := by
  rw [mergeK_new (kvOf l) [] (by rw [kvOf_fst]; exact nodup_inr h) (fun _ _ _ q => (nomatch q)), List.nil_append]
/-! what such tables do -/
theorem lookup_out : ∀ {l : List (Str × Str)} {x : Str}, x ∉ l.map Prod.fst → l.lookup x = none
  | [], _, _ => rfl
  | p :: l, x, h => by
    rw [List.map_cons, List.mem_cons, not_or] at h
    have q : (x == p.1) = false := by rw [beq_eq_false_iff_ne]; exact h.1
    rw [show p :: l = (p.1, p.2) :: l from rfl, List.lookup_cons, q]
    exact lookup_out h.2
theorem fst_zip : ∀ {a b : List Str}, a.length ≤ b.length → (a.zip b).map Prod.fst = a
  | [], _, _ => by simp
  | x :: a, [], h => absurd h (by simp)
  | x :: a, y :: b, h => by
    rw [List.zip_cons_cons, List.map_cons, fst_zip (Nat.le_of_succ_le_succ h)]
/-- the names go to those beside them -/
theorem map_zip : ∀ {a b : List Str}, a.Nodup → a.length = b.length → a.map (fun x => ((a.zip b).lookup x).getD x) = b
  | [], [], _, _ => rfl
  | x :: a, y :: b, h, e => by
    rw [List.nodup_cons] at h
    rw [List.map_cons, List.zip_cons_cons]
    have e1 : (((x, y) :: a.zip b).lookup x).getD x = y := by rw [List.lookup_cons, beq_self_eq_true]; rfl
    rw [e1]
    have e2 : a.map (fun z => (((x, y) :: a.zip b).lookup z).getD z) = a.map (fun z => ((a.zip b).lookup z).getD z) := List.map_congr_left fun z hz => by
      have q : (z == x) = false := by rw [beq_eq_false_iff_ne]; exact fun w => h.1 (w ▸ hz)
      rw [List.lookup_cons, q]
    rw [e2, map_zip h.2 (Nat.succ.inj e)]
theorem map_self {f : Str → Str} : ∀ {l : List Str}, l.map f = l → ∀ x ∈ l, f x = x
  | [], _, _, h => by cases h
  | a :: l, e, x, h => by
    rw [List.map_cons] at e
    obtain ⟨e1, e2⟩ := List.cons.inj e
    rcases List.mem_cons.mp h with rfl | h
    · exact e1
    · exact map_self e2 x h
theorem fresh_len : fresh.length = 8 := by decide +kernel
theorem fresh_nd : fresh.Nodup := by decide +kernel
/-- what is known of the names of the sorts -/
structure NmsOk (ds : List Def) (y : Nat → List Str) : Prop where
  nd : ∀ j < 4, (y j).Nodup
  mem : ∀ j < 4, ∀ x, x ∈ y j ↔ x ∈ names j (flat ds)
  len : ∀ j < 4, (y j).length ≤ 8
theorem nms_len {L : Lists} {ds : List Def} {y : Nat → List Str} (h : Drawn L ds) (nd : ∀ j < 4, (y j).Nodup) (mem : ∀ j < 4, ∀ x, x ∈ y j ↔ x ∈ names j (flat ds)) : NmsOk ds y := by
  refine ⟨nd, mem, fun j hj => ?_⟩
  have D := defs_names h.df
  match j, hj with
  | 0, _ => exact Nat.le_trans (len_sub (nd 0 (by decide)) fun x hx => h.names0.mp ((mem 0 (by decide) x).mp hx)) (Nat.le_trans h.lens.1 (by decide))
  | 1, _ => exact Nat.le_trans (len_sub (nd 1 (by decide)) fun x hx => h.names1.mp ((mem 1 (by decide) x).mp hx)) (Nat.le_trans h.lens.2.2.1 (by decide))
  | 2, _ => exact Nat.le_trans (len_sub (nd 2 (by decide)) fun x hx => D.g x ((mem 2 (by decide) x).mp hx)) (Nat.le_trans h.ok.gates.2.2.2 (by decide))
  | 3, _ => exact Nat.le_trans (len_sub (nd 3 (by decide)) fun x hx => D.n x ((mem 3 (by decide) x).mp hx)) (Nat.le_trans h.ok.notes.2.2.2 (by decide))
/-- the fresh names of a list -/
def frs (ys : List Str) : List Str := fresh.take ys.length
theorem frs_len {ys : List Str} (h : ys.length ≤ 8) : ys.length = (frs ys).length := by unfold frs; rw [List.length_take, fresh_len]; omega
theorem frs_nd (ys : List Str) : (frs ys).Nodup := List.Sublist.nodup (List.take_sublist _ _) fresh_nd
theorem frs_mem {ys : List Str} {x : Str} (h : x ∈ frs ys) : x ∈ fresh := List.mem_of_mem_take h
theorem frs_of {ds : List Def} {y : Nat → List Str} (h : NmsOk ds y) : Frs ds (tabF fun j => (y j).zip (frs (y j))) := by
  have go : ∀ j < 4, (y j).map (tabF (fun j => (y j).zip (frs (y j))) j) = frs (y j) := fun j hj => map_zip (h.nd j hj) (frs_len (h.len j hj))
  refine ⟨fun j hj x hx => ?_, fun j hj x hx => ?_, fun j hj x hx z hz e => ?_⟩
  · have m := List.mem_map_of_mem (f := tabF (fun j => (y j).zip (frs (y j))) j) ((h.mem j hj x).mpr hx)
    rw [go j hj] at m
    exact frs_mem m
  · unfold tabF
    rw [lookup_out (by rw [fst_zip (Nat.le_of_eq (frs_len (h.len j hj)))]; exact fun z => hx ((h.mem j hj x).mp z))]
    rfl
  · exact inj_of_nodup (by rw [go j hj]; exact frs_nd _) x ((h.mem j hj x).mpr hx) z ((h.mem j hj z).mpr hz) e
/-- .. and back -/
theorem frs_back {ds : List Def} {y : Nat → List Str} (h : NmsOk ds y) : ∀ j < 4, ∀ x ∈ names j (flat ds), tabF (fun j => (frs (y j)).zip (y j)) j (tabF (fun j => (y j).zip (frs (y j))) j x) = x := fun j hj x hx => by
  have e1 : (y j).map (tabF (fun j => (y j).zip (frs (y j))) j) = frs (y j) := map_zip (h.nd j hj) (frs_len (h.len j hj))
  have e2 : (frs (y j)).map (tabF (fun j => (frs (y j)).zip (y j)) j) = y j := map_zip (frs_nd _) (frs_len (h.len j hj)).symm
  have e3 : (y j).map (fun x => tabF (fun j => (frs (y j)).zip (y j)) j (tabF (fun j => (y j).zip (frs (y j))) j x)) = y j := by
    rw [← e1, List.map_map] at e2
    exact e2.trans rfl
  exact map_self e3 x ((h.mem j hj x).mpr hx)
/-- tables among themselves -/
theorem trn_of {ds : List Def} {z p : Nat → List Str} (h : NmsOk ds z) (p0 : p 0 = z 0) (pp : ∀ j < 4, (p j).Perm (z j)) : Trn ds (tabF fun j => (z j).zip (p j)) z := by
  have go : ∀ j < 4, (z j).map (tabF (fun j => (z j).zip (p j)) j) = p j := fun j hj => map_zip (h.nd j hj) (pp j hj).length_eq.symm
  have out : ∀ j < 4, ∀ x, x ∉ z j → tabF (fun j => (z j).zip (p j)) j x = x := fun j hj x hx => by
    unfold tabF
    rw [lookup_out (by rw [fst_zip (Nat.le_of_eq (pp j hj).length_eq.symm)]; exact hx)]
    rfl
  refine ⟨fun x => ?_, h.mem, h.nd, fun j hj => by rw [go j hj]; exact pp j hj, out⟩
  by_cases q : x ∈ z 0
  · have e := go 0 (by decide)
    rw [p0] at e
    exact map_self e x q
  · exact out 0 (by decide) x q
theorem zip_keys (a b : List Str) : ((a.map (Sum.inr : Str → Key)).zip (b.map V.str)) = kvOf (a.zip b) := by
  unfold kvOf
  rw [List.zip_map]
  exact List.map_congr_left fun p _ => rfl
theorem fresh_at : ∀ j < 8, fresh[j]? = some ("zz" ++ sig (97 + j)) ∧ ("abcdefgh" : Str).cps[j]? = some (97 + j) := by decide +kernel
theorem frs_at {ys : List Str} {j : Nat} (hj : j < ys.length) (h8 : ys.length ≤ 8) : (ys.zip (frs ys))[j]? = some (ys[j], "zz" ++ sig (97 + j)) := by
  have a : (frs ys)[j]? = some ("zz" ++ sig (97 + j)) := by unfold frs; rw [List.getElem?_take, if_pos hj]; exact (fresh_at j (by omega)).1
  rw [List.getElem?_zip_eq_some]
  exact ⟨List.getElem?_eq_getElem hj, a⟩
end K8
set_option Elab.async false
set_option linter.all false
set_option maxRecDepth 100000
set_option maxHeartbeats 4000000
/-! The walk of _law_heard. -/
namespace K8
open PySem PyProof.Rows L2
theorem pss_never {X : Cx} {b : List Stmt} : PSs X b (fun _ _ _ => False) := ⟨fun _ _ _ _ _ _ h => h.elim⟩
theorem suite_of {X : Cx} {CE a : Addr} {oe : Obj} {cls : Value} {d : Option Addr} {pn : List (Addr × Obj)} {b : List Stmt} {t : Addr → TS} (hz : Zc cls d oe) (h : ∀ dd, Zc (.ref CE) (some dd) oe → PSs (X.suite a ((a, oe) :: pn)) b (t dd)) :
    PSs (X.suite a ((a, oe) :: pn)) b (fun D σ H => ∃ dd, cls = .ref CE ∧ d = some dd ∧ t dd D σ H) := ⟨fun pins s σ H D I z => by
  obtain ⟨dd, rfl, rfl, z⟩ := z
  exact (h dd hz).run pins s σ H D I z⟩
section
variable {P : Program} {w : World} {K : PySem.W.Frag} {mg : Str → Option Value} {base : Heap} {f fr fs : Addr} {fd : FuncData} {CB CR CP CE CU CL CT pr : Addr}
abbrev sHeard : Stmt := top 42
theorem scHeard : FnScope ["_law_text", "_law_found", "e"] ["_law_text"] (defScope sHeard) := ⟨rfl, rfl, rfl, by decide +kernel, rfl, by decide +kernel, by decide +kernel⟩
theorem ok_heard (F : Fun K "_law_heard" "_law_heard" sHeard f fd) (cc : CB ≠ CR) (cp : CP ≠ CR) (Fstr : FnR P w K mg base CX0 1 fs (spPstr CP)) (hs : PySem.W.findIn K (.ref CP) "__str__" = some (some (.ref fs))) (hf : PySem.W.isFn K (.ref fs) = true)
    (S : SMet K CP "read" pr fr) (Fread : FnR P w K mg base (L2.CX P w) 7 fr (spPread CB CR CP CE CU)) (g_Program : ∃ u, mg "Program" = some u ∧ RelV (.ref CP) u) (g_LateError : ∃ u, mg "LateError" = some u ∧ RelV (.ref CL) u) (g_TooMany : ∃ u, mg "TooMany" = some u ∧ RelV (.ref CT) u)
    (m_BadRow : mg "BadRow" = some (.ref CE)) (m_Unknown : mg "Unknown" = some (.ref CU)) (m_TooMany : mg "TooMany" = some (.ref CT)) (m_str : mg "str" = none) (m_isinstance : mg "isinstance" = none)
    (iE : ExcC K CE) (iU : ExcC K CU) (xE : XfC K CE) (xU : XfC K CU) (nE : PySem.W.findIn K (.ref CE) "at" = some none) (nU : PySem.W.findIn K (.ref CU) "name" = some none)
    (eEE : PySem.W.exmOne K (.ref CE) (.ref CE) = some true) (eUE : PySem.W.exmOne K (.ref CU) (.ref CE) = some false) (eUU : PySem.W.exmOne K (.ref CU) (.ref CU) = some true)
    (kEL : PySem.W.kitOne K (.ref CE) (.ref CL) = some true) (kET : PySem.W.kitOne K (.ref CE) (.ref CT) = some false) (kUL : PySem.W.kitOne K (.ref CU) (.ref CL) = some false) :
    FnOk P w K mg base CX0 8 f fd ["_law_text"] spLdh := by
  refine F.ok scHeard (fun vs H Q E h => ?_) (fun cdv A outer s H vs Q E hr h => ?_)
  · obtain ⟨_, _, rfl, _⟩ := h
    rfl
  obtain ⟨rs, s', rfl, hne, hl, run, sz, q⟩ := h
  have nd := scHeard.nd
  refine ⟨_, (pss_cons (ps_set (i := 1) nd rfl (.inl rfl) (pe_tup (pa_cons pe_str (pa_cons pe_int pa_nil))))
    (pss_cons (K8.ps_try_manyAs (n := "e") (i := 2) rfl rfl nd rfl rfl takes0 (fun W pn xe tk _ => pss_one (ps_set (i := 1) nd rfl (.inl rfl) (pe_tup (pa_cons pe_str (pa_cons (pe_callTy (call_strO Fstr hs hf (hr.mono (by decide))) (by rfl) m_str (by decide +kernel) (pa_cons (pe_sm (C8.pe_gc rfl g_Program) S Fread hr (fun σ => passAt tk σ) (pa_cons (pv 0) pa_nil)) pa_nil)) pa_nil))))) (.cons ⟨rfl, by decide, .inl m_BadRow⟩ (fun a oe cls d pn hz hf => K8.suite_of hz (fun dd hz => pss_one (ps_set (i := 1) nd rfl (.inl rfl) (pe_ifExp (PW.pt (pw_and (pt_val (pe_callB (K8.call_isED iE hz hf) (by rfl) m_isinstance (by decide +kernel) (pa_cons (pv 2) (pa_cons (C8.pe_gc rfl g_LateError) pa_nil)))) (pw_and1 (pt_not (pt_val (pe_callB (K8.call_isED iE hz hf) (by rfl) m_isinstance (by decide +kernel) (pa_cons (pv 2) (pa_cons (C8.pe_gc rfl g_TooMany) pa_nil)))))))) (pe_tup (pa_cons pe_str (pa_cons (pe_xf xE nE hz hf (pv 2)) pa_nil))) (pe_tup (pa_cons pe_str (pa_cons pe_int pa_nil))))))) (.cons ⟨rfl, by decide, .inl m_Unknown⟩ (fun a oe cls d pn hz hf => K8.suite_of hz (fun dd hz => pss_one (ps_set (i := 1) nd rfl (.inl rfl) (pe_ifExp (pt_not (pt_val (pe_callB (K8.call_isED iU hz hf) (by rfl) m_isinstance (by decide +kernel) (pa_cons (pv 2) (pa_cons (C8.pe_gc rfl g_LateError) pa_nil))))) (pe_tup (pa_cons pe_str (pa_cons (pe_xf xU nU hz hf (pv 2)) pa_nil))) (pe_tup (pa_cons pe_str (pa_cons pe_int pa_nil))))))) (.cons ⟨rfl, by decide, .inl m_TooMany⟩ (fun _ _ _ _ _ _ _ => K8.pss_never) .nil))))
    (pss_one (ps_ret (pv 1))))), ?_⟩
  refine ⟨by show 2 ≤ sizeLine; decide, fun t0 nt0 => ⟨rfl, _, rfl, rs, s', rfl, hne, hl, run, cc, cp, fun hc d H1 s1 hd e1 => ?_, fun hc pre x post es h1 h2 d H1 s1 hd e1 => ?_, fun hc all => ⟨(sz hc all).1, (sz hc all).2.1, (sz hc all).2.2.1, (sz hc all).2.2.2, fun p js ws gs H1 so s1 pa => ?_⟩⟩⟩
  · refine ⟨true, eEE, fun _ a na => ⟨d, rfl, rfl, ?_⟩, fun z => (nomatch z)⟩
    refine ⟨_, rfl, ⟨_, e1⟩, .ref CL, .ref CL, true, rfl, fun u r => r, kEL, _, rfl, iteT ⟨_, rfl, ⟨_, e1⟩, .ref CT, .ref CT, false, rfl, fun u r => r, kET, _, rfl, ?_⟩⟩
    exact iteT ⟨_, rfl, rfl, rfl, d, _, _, rfl, e1, rfl, by show 2 ≤ sizeLine; decide, fun t1 nt1 => ⟨_, rfl, q t1 _ _ (.row hc) (((same_ext nt0).trans s1).trans (same_ext nt1)) upd_same⟩⟩
  · refine ⟨false, eUE, fun z => (nomatch z), fun _ => ⟨true, eUU, fun _ a na => ⟨d, rfl, rfl, ?_⟩, fun z => (nomatch z)⟩⟩
    refine ⟨_, rfl, ⟨_, e1⟩, .ref CL, .ref CL, false, rfl, fun u r => r, kUL, _, rfl, ?_⟩
    exact iteT ⟨_, rfl, rfl, rfl, d, _, _, rfl, e1, rfl, by show 2 ≤ sizeLine; decide, fun t1 nt1 => ⟨_, rfl, q t1 _ _ (.unk pre post x hc es h1 h2) (((same_ext nt0).trans s1).trans (same_ext nt1)) upd_same⟩⟩
  · obtain ⟨dx, tj, tw, pj, pw, pg, ep, _⟩ := pa
    refine ⟨p, dx, _, rfl, ep, p, dx, _, _, rfl, ep, rfl, _, rfl, by show 2 ≤ sizeLine; decide, fun t1 nt1 => ⟨_, rfl, q t1 _ _ (.read hc all) (((same_ext nt0).trans s1).trans (same_ext nt1)) upd_same⟩⟩
end
end K8
set_option Elab.async false
set_option linter.all false
set_option maxRecDepth 100000
set_option maxHeartbeats 4000000
/-! The walk of _law_begins_right. -/
namespace K8
open PySem PyProof.Rows L2
/-! signs -/
def Lo (x : Str) : Prop := ∀ c ∈ x.cps.toList, c < 128
instance (x : Str) : Decidable (Lo x) := by unfold Lo; exact inferInstance
theorem Nm.lo {x : Str} (h : Nm x) : Lo x := fun c hc => Nat.lt_of_le_of_lt (h.low c hc).2 (by decide)
theorem lo_digs : ∀ d ∈ digs, Lo d := by decide +kernel
theorem Row.Ok.lo {r : Row} (h : r.Ok) : ∀ p ∈ r.parts, Lo p := by
  have e1 : Lo "end" := by decide +kernel
  have e2 : Lo "pause" := by decide +kernel
  have e3 : Lo "give" := by decide +kernel
  have e4 : Lo "repeat" := by decide +kernel
  have e5 : Lo "guard" := by decide +kernel
  have e6 : Lo "each" := by decide +kernel
  intro p hp
  cases r with
  | defn w n =>
    have h' : Nm n := h
    simp only [Row.parts, List.mem_cons, List.not_mem_nil, or_false] at hp
    rcases hp with rfl | rfl
    · cases w <;> decide +kernel
    · exact h'.lo
  | fin => simp only [Row.parts, List.mem_cons, List.not_mem_nil, or_false] at hp; subst hp; exact e1
  | named k n =>
    have h' : Nm n := h
    simp only [Row.parts, List.mem_cons, List.not_mem_nil, or_false] at hp
    rcases hp with rfl | rfl
    · cases k <;> decide +kernel
    · exact h'.lo
  | pause => simp only [Row.parts, List.mem_cons, List.not_mem_nil, or_false] at hp; subst hp; exact e2
  | give => simp only [Row.parts, List.mem_cons, List.not_mem_nil, or_false] at hp; subst hp; exact e3
  | rep d =>
    have h' : d ∈ digs := h
    simp only [Row.parts, List.mem_cons, List.not_mem_nil, or_false] at hp
    rcases hp with rfl | rfl
    · exact e4
    · exact lo_digs _ h'
  | guard => simp only [Row.parts, List.mem_cons, List.not_mem_nil, or_false] at hp; subst hp; exact e5
  | turn l =>
    simp only [Row.parts, List.mem_cons, List.not_mem_nil, or_false] at hp
    subst hp
    cases l <;> decide +kernel
  | each w how t =>
    have hh : Lo how.word := by cases how <;> decide +kernel
    cases t with
    | none =>
      have h' : Nm w := h
      simp only [Row.parts, List.mem_cons, List.not_mem_nil, or_false] at hp
      rcases hp with rfl | rfl | rfl
      · exact e6
      · exact h'.lo
      · exact hh
    | some t =>
      have h' : Nm w ∧ t ∈ digs := h
      simp only [Row.parts, List.mem_cons, List.not_mem_nil, or_false] at hp
      rcases hp with rfl | rfl | rfl | rfl
      · exact e6
      · exact h'.1.lo
      · exact hh
      · exact lo_digs _ h'.2
theorem text_lo {r : Row} (h : r.Ok) : Lo r.text := fun c hc => by
  rcases (PyProof.Rows.mem_join " " c r.parts).mp hc with ⟨p, hp, hc⟩ | ⟨_, hc⟩
  · exact h.lo p hp c hc
  · have e : c ∈ [32] := tl_blank ▸ hc
    rw [List.mem_singleton.mp e]
    decide
theorem rows_lo {rs : List Row} (h : ∀ r ∈ rs, r.Ok) : Lo (rowsText rs) := fun c hc => by
  rcases (PyProof.Rows.mem_join "\n" c (rs.map Row.text)).mp hc with ⟨p, hp, hc⟩ | ⟨_, hc⟩
  · obtain ⟨r, hr, rfl⟩ := List.mem_map.mp hp
    exact text_lo (h r hr) c hc
  · have e : c ∈ [10] := tl_nl ▸ hc
    rw [List.mem_singleton.mp e]
    decide
theorem Lo.strOk {x : Str} (h : Lo x) : PyData.strOk x = true := by
  unfold PyData.strOk
  rw [← Array.all_toList, List.all_eq_true]
  exact fun c hc => decide_eq_true (Nat.lt_of_lt_of_le (h c hc) (by decide))
theorem Lo.small {x : Str} (h : Lo x) : small (.inr x) = true := by
  show (x.cps.toList.all fun c => decide (c < 16 ^ 8)) = true
  rw [List.all_eq_true]
  exact fun c hc => decide_eq_true (Nat.lt_of_lt_of_le (h c hc) (by decide))
theorem begun_nm {rs : List Row} {s : S} (h : Run {} rs s) : ∀ x ∈ ("main" : Str) :: s.begun, Nm x := fun x hx => by
  rcases List.mem_cons.mp hx with rfl | hx
  · decide +kernel
  · rw [h.begun] at hx
    have hx : x ∈ (rs.map Row.begs).flatten := by simpa using hx
    obtain ⟨l, hl, hxl⟩ := List.mem_flatten.mp hx
    obtain ⟨r, hr, rfl⟩ := List.mem_map.mp hl
    have ok := h.ok r hr
    cases r with
    | named k n =>
      cases k with
      | begin =>
        have e : x = n := List.mem_singleton.mp hxl
        subst e
        exact ok
      | _ => cases hxl
    | _ => cases hxl
/-- what reading tells, as keys -/
theorem Out.keys {rs : List Row} {s : S} {o : List V} (h : Out rs s o) (run : Run {} rs s) (hl : rs.length ≤ 100) : ∃ ks : List Key, o = ks.map kV ∧ ks.all small = true ∧ PyData.weight (.tuple (ks.map dat)) ≤ 2 ^ 20 := by
  have w2 : ∀ (a : Str) (b : Key), PyData.weight (.tuple (([Sum.inr a, b] : List Key).map dat)) = a.cps.size + 1 + (PyData.weight (dat b) + 1) := fun a b => by simp [PyData.weight, PyData.weightAll, dat]
  cases h with
  | row _ =>
    refine ⟨[.inr "row", .inl rs.length], rfl, ?_, ?_⟩
    · have e : small (.inr "row") = true := by decide +kernel
      simp only [List.all_cons, e, List.all_nil, Bool.and_true, Bool.true_and]
      exact decide_eq_true (Nat.lt_of_le_of_lt hl (by decide))
    · rw [w2]
      have e : ("row" : Str).cps.size = 3 := by decide +kernel
      have k : PyData.weight (dat (.inl rs.length)) ≤ 100 := by
        show (if ((rs.length : Int) == 0) = true then 0 else (rs.length : Int).natAbs.log2 + 1) ≤ 100
        split
        · omega
        · have := Nat.log2_le_self (rs.length : Int).natAbs
          by_cases z : rs.length = 0
          · rename_i q; rw [z] at q; exact absurd rfl q
          · have := (Nat.log2_lt (n := (rs.length : Int).natAbs) (k := 7) (by omega)).mpr (by omega)
            omega
      omega
  | unk pre post x _ es _ _ =>
    have nx := begun_nm run x (by rw [es]; simp)
    refine ⟨[.inr "unknown", .inr x], rfl, ?_, ?_⟩
    · have e : small (.inr "unknown") = true := by decide +kernel
      simp only [List.all_cons, e, nx.lo.small, List.all_nil, Bool.and_true]
    · rw [w2]
      have e : ("unknown" : Str).cps.size = 7 := by decide +kernel
      have k : PyData.weight (dat (.inr x)) ≤ 8 := nx.le
      omega
  | read _ _ =>
    refine ⟨[.inr "read", .inr (rowsText rs)], rfl, ?_, ?_⟩
    · have e : small (.inr "read") = true := by decide +kernel
      simp only [List.all_cons, e, (rows_lo run.ok).small, List.all_nil, Bool.and_true]
    · rw [w2]
      have e : ("read" : Str).cps.size = 4 := by decide +kernel
      have k : PyData.weight (dat (.inr (rowsText rs))) ≤ rs.length * 37 := rows_len run.ok
      omega
/-- .. beside ("row", n) -/
theorem Out.beside {K : PySem.W.Frag} {H : Hp} {rs : List Row} {s : S} {o : List V} (h : Out rs s o) (run : Run {} rs s) : ∃ ds, DpAll K H o ds ∧ SeqAt.shaped (.tuple ds) = true ∧ PyData.eqv (.tuple ds) (.tuple [.str "row", .int rs.length]) = !decide (s.cur = none) := by
  cases h with
  | row hc =>
    refine ⟨[.str "row", .int rs.length], .cons (.str _) (.cons (.int _) .nil), ?_, ?_⟩
    · unfold SeqAt.shaped
      rw [Bool.and_eq_true]
      exact ⟨row_lay _, decide_eq_true (by simp [PyData.depth, PyData.depthAll])⟩
    · rw [decide_eq_false hc]
      show ((("row" : Str) == "row") && (((rs.length : Int) == rs.length) && true)) = true
      simp
  | unk pre post x hc es _ _ =>
    refine ⟨(["unknown", x] : List Str).map PyData.str, dpS ["unknown", x], shapedT fun t ht => ?_, ?_⟩
    · simp only [List.mem_cons, List.not_mem_nil, or_false] at ht
      rcases ht with rfl | rfl
      · decide +kernel
      · exact (begun_nm run _ (by rw [es]; simp)).lo.strOk
    · rw [decide_eq_true hc]
      show ((("unknown" : Str) == "row") && (false && true)) = false
      rw [show (("unknown" : Str) == "row") = false from by decide +kernel, Bool.false_and]
  | read hc _ =>
    refine ⟨(["read", rowsText rs] : List Str).map PyData.str, dpS ["read", rowsText rs], shapedT fun t ht => ?_, ?_⟩
    · simp only [List.mem_cons, List.not_mem_nil, or_false] at ht
      rcases ht with rfl | rfl
      · decide +kernel
      · exact (rows_lo run.ok).strOk
    · rw [decide_eq_true hc]
      show ((("read" : Str) == "row") && (false && true)) = false
      rw [show (("read" : Str) == "row") = false from by decide +kernel, Bool.false_and]
theorem rows_small {rs : List Row} (h : ∀ r ∈ rs, r.Ok) (hl : rs.length ≤ 120) : ((rs.map Row.text).map (·.length)).sum + (rs.map Row.text).length * ("\n" : Str).length ≤ 16777216 := by
  have e : ("\n" : Str).length = 1 := by decide +kernel
  have go : ∀ rs : List Row, (∀ r ∈ rs, r.Ok) → ((rs.map Row.text).map (·.length)).sum ≤ 36 * rs.length := by
    intro rs
    induction rs with
    | nil => intro _; exact Nat.le_refl _
    | cons r rs ih =>
      intro h
      have a := text_len (h r List.mem_cons_self)
      have b := ih fun r hr => h r (List.mem_cons_of_mem _ hr)
      rw [List.map_cons, List.map_cons, List.sum_cons, List.length_cons]
      omega
  have := go rs h
  rw [e, List.length_map]
  omega
theorem texts_map (rs : List Row) : (rs.map fun r => V.str r.text) = (rs.map Row.text).map V.str := (List.map_map (l := rs) (f := Row.text) (g := V.str)).symm
section
variable {P : Program} {w : World} {K : PySem.W.Frag} {mg : Str → Option Value} {base : Heap} {f : Addr} {fd : FuncData}
abbrev sBegins : Stmt := top 47
theorem scBegins : FnScope ["_law_rows_here", "_law_at", "_law_text", "_law_found", "_law_starts"] ["_law_rows_here"] (defScope sBegins) := ⟨rfl, rfl, rfl, by decide +kernel, rfl, by decide +kernel, by decide +kernel⟩
def spBegins : Sp := fun vs H Q _ => ∃ (rs : List Row) (s : S) (js ws : List Str) (p : Addr), vs = [.ref p] ∧ H p = some (rtexts rs) ∧ Rd rs s js ws ∧ rs.length < 64 ∧ ∀ H', Same H H' → Q (.bl true) H'
theorem ok_begins (F : Fun K "_law_begins_right" "_law_begins_right" sBegins f fd) (bd : Binds K fd ["_law_rows_here"] []) (c_heard : C8.Cal P w K mg base 8 "_law_heard" spLdh []) (c_due_heard : C8.Cal P w K mg base 4 "_law_due_heard" spLdh []) (m_range : mg "range" = none) (m_len : mg "len" = none) (m_repr : mg "repr" = none) :
    FnG P w K mg base CX0 9 f spBegins := by
  refine okG0 F scBegins bd (fun vs H Q E h => ?_) (fun cdv A outer s H vs Q E hG hr h => ?_)
  · obtain ⟨_, _, _, _, _, rfl, _⟩ := h
    rfl
  obtain ⟨rs, sF, js, ws, p, rfl, hp, R, h64, q⟩ := h
  have nd := scBegins.nd
  refine ⟨_, (pss_cons (ps_for PassesOwn.never rfl (pi_range2 (by rfl) m_range (pa_cons pe_int (pa_cons (pe_callB call_len_seq (by rfl) m_len (by decide +kernel) (pa_cons (pv 0) pa_nil)) pa_nil))) (pg_name (i := 1) nd rfl (.inl rfl))
    (pss_cons (ps_set (i := 2) nd rfl (.inl rfl) (pe_join pe_str (pe_slice sl_list (pv 0) po_none (po_some (pv 1)))))
    (pss_cons (ps_par (i := 3) (j := 4) rfl nd rfl rfl (by decide) rfl rfl (pa_cons (C8.pe_c c_heard hr (by omega) rfl (pa_cons (pv 2) pa_nil)) (pa_cons (pe_cmpR op_in_seq (pe_ix ix_list (pe_split (pe_ix ix_list (pv 0) (pv 1) (fun _ _ => rfl)) pe_str) pe_int (fun _ _ => rfl)) (pe_tup (pa_cons pe_str (pa_cons pe_str pa_nil))) (by rfl)) pa_nil)) (by rfl))
    (pss_one (ps_if (PW.pt (pw_or (pt_cmpR op_ne (pe_callB (K8.call_reprD (hr.mono (by decide)) hG) (by rfl) m_repr (by decide +kernel) (pa_cons (pv 3) pa_nil)) (pe_callB (K8.call_reprD (hr.mono (by decide)) hG) (by rfl) m_repr (by decide +kernel) (pa_cons (C8.pe_c c_due_heard hr (by omega) rfl (pa_cons (pv 2) pa_nil)) pa_nil)) (nomark _)) (pw_or1 (pt_cmpR op_eq (pe_cmpR (op_eqD hr.units) (pv 3) (pe_tup (pa_cons pe_str (pa_cons (pv 1) pa_nil))) (nomark _)) (pv 4) (nomark _))))) (pss_one (ps_ret pe_bl)) pss_nil)))))
    (pss_one (ps_ret pe_bl))), ?_⟩
  have hok := R.run.ok
  refine ⟨_, rfl, p, _, rfl, .inl (SqL.of hp), 1, _, rfl, ⟨by decide, by decide, ?_, ?_⟩, ?_⟩
  · rw [List.length_map]; omega
  · rw [List.length_map]; omega
  rw [List.length_map]
  refine for_range (lo := 1) (n := ((rs.length : Int) - 1).toNat) (fun j σ H' => (∃ t1 t2 t3 t4 : Option V, σ = [some (.ref p), t1, t2, t3, t4]) ∧ Same H H') ⟨⟨_, _, _, _, rfl⟩, Same.refl H⟩ (fun j σ H' hj pv => ?_) (fun σ H' pv => q H' pv.2)
  obtain ⟨⟨t1, t2, t3, t4, rfl⟩, sm⟩ := pv
  have ei : (1 : Int) + (j : Int) = ((j + 1 : Nat) : Int) := by omega
  rw [ei]
  have hi : j + 1 < rs.length := by omega
  obtain ⟨b, run, hcur, sz⟩ := R.upto h64 (List.getElem?_eq_getElem hi)
  refine ⟨⟨_, rfl⟩, _, rfl, _, rfl, _, rfl, p, _, rfl, SqL.of (sm _ _ hp), fun l1 nl1 => ?_⟩
  rw [cut_to, ← List.map_take, texts_map]
  have hne : rs.take (j + 1) ≠ [] := fun z => by
    have := congrArg List.length z
    rw [List.length_take, List.length_nil] at this
    omega
  have htl : (rs.take (j + 1)).length = j + 1 := by rw [List.length_take]; omega
  have hok1 := run.ok
  refine ⟨"\n", l1, _, rfl, rfl, .inl (SqL.of upd_same), rows_small hok1 (by omega), ?_⟩
  rw [TL.join_eq]
  have hl1 := sm.trans (same_ext (o := .lst (((rs.take (j + 1)).map Row.text).map V.str)) nl1)
  revert hl1
  generalize (upd H' l1 (.lst (((rs.take (j + 1)).map Row.text).map V.str))) = G1
  intro hl1
  refine ⟨_, rfl, rs.take (j + 1), b, rfl, hne, by omega, run, sz, fun p1 G2 o O1 s2 e1 => ?_⟩
  have hro := hok _ (List.getElem_mem hi)
  have sm2 := hl1.trans s2
  refine ⟨_, rfl, _, rfl, p, _, (j + 1 : Nat), _, rfl, rfl, SqL.of (sm2 _ _ hp), atI_nat (j := j + 1) (by rw [List.getElem?_map, List.getElem?_eq_getElem hi]; rfl), ⟨_, rfl⟩, rs[j + 1].text, " ", rfl, rfl, by decide +kernel, ?_, fun pp npp => ?_⟩
  · have := text_len hro
    rw [sizeLine_eq]
    omega
  revert hcur hro
  generalize rs[j + 1] = row
  intro hcur hro
  obtain ⟨wd, rest, hrow⟩ : ∃ wd rest, row.parts = wd :: rest := by
    cases h : row.parts with
    | nil => exact absurd h (parts_ne row)
    | cons a b => exact ⟨a, b, rfl⟩
  rw [split_text hro, hrow]
  refine ⟨pp, _, 0, _, rfl, rfl, SqL.of upd_same, atI_nat (j := 0) rfl, by show 2 ≤ sizeLine; decide, fun tp ntp => ⟨tp, _, rfl, .inr (SqT.of upd_same), rfl, rfl, _, _, rfl, ?_⟩⟩
  rw [word_def row hrow]
  have sm3 := (sm2.trans (same_ext (o := .lst ((wd :: rest).map V.str)) npp)).trans (same_ext (o := .tup [.str "job", .str "walk"]) ntp)
  have e3 := kn (u := .tup [.str "job", .str "walk"]) (kn (u := .lst ((wd :: rest).map V.str)) e1 npp) ntp
  clear npp ntp
  revert sm3 e3
  generalize (upd (upd G2 pp (.lst ((wd :: rest).map V.str))) tp (.tup [.str "job", .str "walk"])) = G3
  intro sm3 e3
  obtain ⟨ks, rfl, kss, ksw⟩ := O1.keys run (by omega)
  refine ⟨_, rfl, p1, ks, rfl, SqT.of e3, kss, ksw, _, rfl, rs.take (j + 1), b, rfl, hne, by omega, run, sz, fun p2 G4 o2 O2 s4 e4 => ?_⟩
  obtain rfl := O1.uniq O2
  refine ⟨p2, ks, rfl, SqT.of e4, kss, ksw, rfl, ?_⟩
  obtain ⟨ds, D1, D2, D3⟩ := O1.beside (K := K) (H := G4) run
  refine ⟨_, rfl, ifF (by simp) ?_⟩
  refine ⟨_, rfl, _, rfl, by show 2 ≤ sizeLine; decide, fun t nt => ?_⟩
  obtain ⟨ds, D1, D2, D3⟩ := O1.beside (K := K) (H := upd G4 t (.tup [.str "row", .int (j + 1 : Nat)])) run
  rw [htl] at D3
  refine ⟨.tuple ds, .tuple [.str "row", .int (j + 1 : Nat)], .tup (SqT.of (kn (s4 _ _ e3) nt)) D1, .tup (SqT.of upd_same) (.cons (.str _) (.cons (.int _) .nil)), D2, ?_, ?_⟩
  · unfold SeqAt.shaped
    rw [Bool.and_eq_true]
    exact ⟨row_lay _, decide_eq_true (by simp [PyData.depth, PyData.depthAll])⟩
  rw [D3]
  refine ⟨_, rfl, rfl, _, rfl, ifF ?_ ?_⟩
  · have : decide (b.cur = none) = row.isDef := by
      cases h : row.isDef with
      | true => exact decide_eq_true (hcur.mpr h)
      | false => exact decide_eq_false fun z => by have := hcur.mp z; rw [h] at this; cases this
    rw [this]
    cases row.isDef <;> simp
  · exact ⟨⟨_, _, _, _, rfl⟩, (sm3.trans s4).trans (same_ext nt)⟩
end
end K8
set_option Elab.async false
set_option linter.all false
set_option maxRecDepth 100000
set_option maxHeartbeats 4000000
/-! Readings of comprehensions: pairs of texts; dicts of such; over a tuple. Rules within comprehensions. -/
namespace K8
open PySem PyProof.Rows L2
/-! rules that name K by an argument -/
section
variable {X : Cx} {K : PySem.W.Frag} {e e1 e2 : Expr} {ta : TA} {p p2 pos pos2 tpos : Pos} {elts : List Expr} {kk : Nat}
theorem pi_enumK (h : X.K = K) (hg : Gl X "enumerate") (hm : X.mg "enumerate" = none) (ha : PA X [e] ta) (hs : starEach [e] X.env = [(false, eval e X.env)] := by rfl) :
    PI X (.Tuple elts kk tpos) (.Call (.Name "enumerate" p) [e] [] pos) (iEnum K ta) := h ▸ pi_enum hg hm ha hs
def rDictP (K : PySem.W.Frag) : List V → Hp → VK → Prop := fun xs H Q => ∃ (a : Addr) (ps : List Addr) (kvs : List (Key × V)), xs = [.ref a] ∧ SqL K H a (ps.map V.ref) ∧ Paired (fun p kv => SqT K H p [kV kv.1, kv.2]) ps kvs ∧
    ∀ p, H p = none → Q (.ref p) (upd H p (.dK (mergeK [] kvs)))
theorem call_dictPK (h : X.K = K) (hc : X.calm = true) : CallR X (.type "dict") (rDictP K) := h ▸ call_dictP hc
theorem pe_listZipK (h : X.K = K) (hc : X.calm = true) (ha : PA X [e1, e2] ta) (hg : Gl X "list") (hm : X.mg "list" = none) (hg2 : Gl X "zip") (hm2 : X.mg "zip" = none)
    (hs : starEach [.Call (.Name "zip" p2) [e1, e2] [] pos2] X.env = (false, eval (.Call (.Name "zip" p2) [e1, e2] [] pos2) X.env) :: starEach [] X.env := by rfl)
    (hs2 : starEach [e1, e2] X.env = (false, eval e1 X.env) :: starEach [e2] X.env := by rfl) (hpl : (backTo pos2 (starEach [e2] X.env)).any (·.1) = false := by rfl) :
    PE X (.Call (.Name "list" p) [.Call (.Name "zip" p2) [e1, e2] [] pos2] [] pos) (tListZip K ta) := h ▸ pe_listZip hc ha hg hm hg2 hm2 hs hs2 hpl
end
/-! pairs of texts -/
def Pairs (H : Hp) : List Addr → List (Str × Str) → Prop := Paired fun t p => H t = some (.tup [.str p.1, .str p.2])
theorem Pairs.mono {H H' : Hp} {ts : List Addr} {l : List (Str × Str)} (h : Pairs H ts l) (k : ∀ t o, H t = some (.tup o) → H' t = some (.tup o)) : Pairs H' ts l := by
  unfold Pairs at h ⊢
  induction h with
  | nil => exact .nil
  | cons a _ ih => exact .cons (k _ _ a) ih
theorem Pairs.kv {K : PySem.W.Frag} {H : Hp} {ts : List Addr} {l : List (Str × Str)} (h : Pairs H ts l) : Paired (fun p kv => SqT K H p [kV kv.1, kv.2]) ts (kvOf l) := by
  unfold Pairs at h
  induction h with
  | nil => exact .nil
  | cons a _ ih => exact .cons (SqT.of a) ih
theorem Pairs.len {H : Hp} {ts : List Addr} {l : List (Str × Str)} (h : Pairs H ts l) : ts.length = l.length := by
  unfold Pairs at h
  induction h with
  | nil => rfl
  | cons _ _ ih => rw [List.length_cons, List.length_cons, ih]
theorem lc_pairs {J : It} {n : Nat} {G : Hp → Prop} {Y : Nat → Hp → V → Hp → Prop} (w : Walk J n G Y) {wi : TI} {g : TG} {te : TE} {vs : List Nat} {σ : L2.St} {H : Hp} {Q : VK} (l : List (Str × Str)) (hl : l.length = n) (hn : n ≤ 1000)
    (hi : ∀ R : It → Hp → Prop, R J H → wi σ H R) (hG : ∀ H', Same H H' → G H') (hq : ∀ D ts H', H D = none → Same H H' → H' D = some (.lst (ts.map V.ref)) → Pairs H' ts l → Q (.ref D) H')
    (hs : ∀ k x H1 H2 p, l[k]? = some p → Same H H1 → Y k H1 x H2 → Same H1 H2 ∧ ∀ Kt : VK, (∀ t H4, Same H2 H4 → H4 t = some (.tup [.str p.1, .str p.2]) → Kt (.ref t) H4) → g x (wipe σ vs) H2 fun σ2 H3 => wipe σ2 vs = wipe σ vs ∧ te σ2 H3 Kt) :
    tLc wi g tYes te vs σ H Q := by
  refine hi _ fun D hD => ?_
  refine lc_it w (Qd := fun H' => Q (.ref D) H') (fun k H' => Same H H' ∧ ∃ ts, H' D = some (.lst (ts.map V.ref)) ∧ Pairs H' ts (l.take k)) ⟨same_new (Same.refl H) hD, [], upd_same, .nil⟩ (fun k H' _ pv => hG H' pv.1) (fun k x H1 H2 hk pv y => ?_) fun H' pv => ?_
  · obtain ⟨sm, ts, eD, pr⟩ := pv
    have hk' : k < l.length := by omega
    have hp := List.getElem?_eq_getElem hk'
    obtain ⟨s12, h⟩ := hs k x H1 H2 _ hp sm y
    have tl := pr.len
    rw [List.length_take] at tl
    refine h (fun y H5 => ∃ acc, H5 D = some (.lst acc) ∧ acc.length < sizeLine ∧ Same H (upd H5 D (.lst (acc ++ [y]))) ∧ ∃ ts, (upd H5 D (.lst (acc ++ [y]))) D = some (.lst (ts.map V.ref)) ∧ Pairs (upd H5 D (.lst (acc ++ [y]))) ts (l.take (k + 1))) fun t H4 s4 e4 => ?_
    have eD4 := s4 _ _ (s12 _ _ eD)
    refine ⟨_, eD4, small1000 (by rw [List.length_map]; omega), same_put ((sm.trans s12).trans s4) hD, ts ++ [t], by rw [upd_same, List.map_append]; rfl, ?_⟩
    rw [show l.take (k + 1) = l.take k ++ [l[k]] from by rw [List.take_add_one, hp]; rfl]
    have nt : ∀ t o, H4 t = some (.tup o) → (upd H4 D (.lst (ts.map V.ref ++ [V.ref t]))) t = some (.tup o) := fun t o e => ku e fun z => by rw [z, eD4] at e; cases e
    refine Paired.snoc (Pairs.mono pr fun t' o e => ?_) (ku e4 fun z => by rw [z, eD4] at e4; cases e4)
    have e5 := s4 _ _ (s12 _ _ e)
    exact ku e5 fun z => by rw [z, eD4] at e5; cases e5
  · obtain ⟨sm, ts, eD, pr⟩ := pv
    rw [← hl, List.take_length] at pr
    exact hq D ts H' hD sm eD pr
/-! dicts of such, one for each of four -/
theorem lc_dicts {K : PySem.W.Frag} {wi : TI} {i : Nat} {te : TE} {σ : L2.St} {H : Hp} {Q : VK} (as : List Addr) (Iv : Hp → Prop) (a : Addr) (n : Nat → Addr) (P : Nat → List (Str × Str) → Prop)
    (hi : ∀ R : It → Hp → Prop, R (Itl K a) H → wi σ H R) (ha : H a = some (.lst [.ref (n 0), .ref (n 1), .ref (n 2), .ref (n 3)])) (na : a ∉ as) (das : ∀ b ∈ as, ∃ o, H b = some o) (iv0 : Iv H) (ivp : ∀ H1 D o, Iv H1 → H D = none → Iv (upd H1 D o))
    (hq : ∀ D (t : Nat → Addr) (l : Nat → List (Str × Str)) H', H D = none → But as H H' → Iv H' → H' D = some (.lst [.ref (t 0), .ref (t 1), .ref (t 2), .ref (t 3)]) → D ∉ as → (∀ j < 4, H' (t j) = some (.dK (kvOf (l j))) ∧ t j ∉ as ∧ P j (l j)) → Q (.ref D) H')
    (hs : ∀ j < 4, ∀ H1 (Kt : VK), But as H H1 → Iv H1 → (∀ d l H4, But as H1 H4 → Iv H4 → H4 d = some (.dK (kvOf l)) → d ∉ as → P j l → Kt (.ref d) H4) → te ((σ.set i none).set i (some (.ref (n j)))) H1 Kt) :
    tLc wi (gName i) tYes te [i] σ H Q := by
  refine hi _ fun D hD => ?_
  have nD : D ∉ as := fun z => by obtain ⟨o, h⟩ := das D z; rw [hD] at h; cases h
  refine lc_it (walk_list (K := K) (a := a) (xs := [.ref (n 0), .ref (n 1), .ref (n 2), .ref (n 3)])) (Qd := fun H' => Q (.ref D) H') (fun k H' => But as H H' ∧ Iv H' ∧ ∃ (ts : List Addr) (ls : List (List (Str × Str))), ts.length = k ∧ ls.length = k ∧ H' D = some (.lst (ts.map V.ref)) ∧
      ∀ j t l, ts[j]? = some t → ls[j]? = some l → H' t = some (.dK (kvOf l)) ∧ t ∉ as ∧ P j l)
    ⟨But.refl.new hD, ivp _ _ _ iv0 hD, [], [], rfl, rfl, upd_same, fun j t l h => (nomatch h)⟩ (fun k H' _ pv => SqL.of (pv.1 _ _ ha na)) (fun k x H1 H2 hk pv y => ?_) fun H' pv => ?_
  · obtain ⟨bt, iv, ts, ls, l1, l2, eD, all⟩ := pv
    obtain ⟨rfl, hx⟩ := y
    have hk4 : k < 4 := hk
    have ex : x = .ref (n k) := by
      match k, hk4, hx with
      | 0, _, hx => exact (Option.some.inj hx).symm
      | 1, _, hx => exact (Option.some.inj hx).symm
      | 2, _, hx => exact (Option.some.inj hx).symm
      | 3, _, hx => exact (Option.some.inj hx).symm
    subst ex
    refine ⟨wipe1 _ _ _, ?_⟩
    refine hs k hk4 H2 (fun y H5 => ∃ acc, H5 D = some (.lst acc) ∧ acc.length < sizeLine ∧ But as H (upd H5 D (.lst (acc ++ [y]))) ∧ Iv (upd H5 D (.lst (acc ++ [y]))) ∧ ∃ (ts : List Addr) (ls : List (List (Str × Str))), ts.length = k + 1 ∧ ls.length = k + 1 ∧ (upd H5 D (.lst (acc ++ [y]))) D = some (.lst (ts.map V.ref)) ∧
      ∀ j t l, ts[j]? = some t → ls[j]? = some l → (upd H5 D (.lst (acc ++ [y]))) t = some (.dK (kvOf l)) ∧ t ∉ as ∧ P j l) bt iv fun d l H4 b4 iv4 e4 nd p4 => ?_
    have eD4 := b4 _ _ eD nD
    refine ⟨_, eD4, small1000 (by rw [List.length_map]; omega), (bt.trans b4).put0 hD, ivp _ _ _ iv4 hD, ts ++ [d], ls ++ [l], by simp [l1], by simp [l2], by rw [upd_same, List.map_append]; rfl, fun j t l' h1 h2 => ?_⟩
    have dk : ∀ t kvs, H4 t = some (.dK kvs) → (upd H4 D (.lst (ts.map V.ref ++ [V.ref d]))) t = some (.dK kvs) := fun t kvs e => ku e fun z => by rw [z, eD4] at e; cases e
    rcases snoc_at h1 with ⟨z1, h1⟩ | ⟨z1, rfl⟩ <;> rcases snoc_at h2 with ⟨z2, h2⟩ | ⟨z2, rfl⟩
    · obtain ⟨q1, q2, q3⟩ := all j t l' h1 h2
      exact ⟨dk _ _ (b4 _ _ q1 q2), q2, q3⟩
    · omega
    · omega
    · exact ⟨dk _ _ e4, nd, by rw [z1, l1]; exact p4⟩
  · obtain ⟨bt, iv, ts, ls, l1, l2, eD, all⟩ := pv
    match ts, l1, ls, l2 with
    | [t0, t1, t2, t3], _, [s0, s1, s2, s3], _ =>
      refine hq D (fun j => match j with | 0 => t0 | 1 => t1 | 2 => t2 | _ => t3) (fun j => match j with | 0 => s0 | 1 => s1 | 2 => s2 | _ => s3) H' hD bt iv eD nD fun j hj => ?_
      match j, hj with
      | 0, _ => exact all 0 t0 s0 rfl rfl
      | 1, _ => exact all 1 t1 s1 rfl rfl
      | 2, _ => exact all 2 t2 s2 rfl rfl
      | 3, _ => exact all 3 t3 s3 rfl rfl
/-! over a tuple of texts -/
theorem lc_tupF {K : PySem.W.Frag} {wi : TI} {i : Nat} {te : TE} {σ : L2.St} {H : Hp} {Q : VK} (a : Addr) (xs : List Str) (F : Str → Str) (hi : ∀ R : It → Hp → Prop, R (Itt K a) H → wi σ H R) (hl : H a = some (.tup (xs.map V.str))) (hn : xs.length ≤ 1000)
    (hq : ∀ D H', H D = none → Same H H' → H' D = some (lstS (xs.map F)) → Q (.ref D) H')
    (he : ∀ (x : Str) (H' : Hp) (Q' : VK), x ∈ xs → Same H H' → Q' (.str (F x)) H' → te ((σ.set i none).set i (some (.str x))) H' Q') : tLc wi (gName i) tYes te [i] σ H Q := by
  refine hi _ fun D hD => ?_
  refine lc_it (walk_tup (K := K) (a := a) (xs := xs.map V.str)) (Qd := fun H' => Q (.ref D) H') (fun k H' => Same H H' ∧ H' D = some (lstS ((xs.take k).map F))) ⟨same_new (Same.refl H) hD, upd_same⟩ (fun k H' _ pv => SqT.of (pv.1 _ _ hl)) (fun k x H1 H2 hk pv y => ?_) fun H' pv => ?_
  · obtain ⟨rfl, hx⟩ := y
    rw [List.length_map] at hk
    rw [List.getElem?_map, List.getElem?_eq_getElem hk] at hx
    obtain rfl : x = .str xs[k] := (Option.some.inj hx).symm
    refine ⟨wipe1 _ _ _, ?_⟩
    refine he xs[k] H2 (fun y H5 => ∃ acc, H5 D = some (.lst acc) ∧ acc.length < sizeLine ∧ Same H (upd H5 D (.lst (acc ++ [y]))) ∧ (upd H5 D (.lst (acc ++ [y]))) D = some (lstS ((xs.take (k + 1)).map F))) (List.getElem_mem hk) pv.1 ?_
    refine ⟨_, pv.2, small1000 (by rw [List.length_map, List.length_map, List.length_take]; omega), same_put pv.1 hD, ?_⟩
    rw [upd_same, show xs.take (k + 1) = xs.take k ++ [xs[k]] from (List.take_append_getElem hk).symm, List.map_append]
    unfold lstS
    rw [List.map_append]
    rfl
  · rw [List.length_map, List.take_length] at pv
    exact hq D H' hD pv.1 pv.2
end K8
set_option Elab.async false
set_option linter.all false
set_option maxRecDepth 100000
set_option maxHeartbeats 4000000
/-! What stands on the heap while the law runs. -/
namespace K8
open PySem PyProof.Rows L2
/-- the script, whatever is done to the box -/
structure Sc (K : PySem.W.Frag) (H : Hp) (sc bx : Addr) (ns : List Int) : Prop where
  s : SqL K H sc (ns.map V.int)
  k : ∀ H', But [bx] H H' → SqL K H' sc (ns.map V.int)
theorem Sc.but {K : PySem.W.Frag} {H H' : Hp} {sc bx : Addr} {ns : List Int} (h : Sc K H sc bx ns) (b : But [bx] H H') : Sc K H' sc bx ns := ⟨h.k H' b, fun H'' b2 => h.k H'' (b.trans b2)⟩
theorem sc_new {K : PySem.W.Frag} {H H' : Hp} {sc bx : Addr} {ns : List Int} (h : SqL K H sc (ns.map V.int)) (n : H bx = none) (s : Same H H') : Sc K H' sc bx ns := by
  have go : ∀ H'', But [bx] H H'' → SqL K H'' sc (ns.map V.int) := fun H'' b => by
    rcases h with (h | ⟨o, h⟩) | h
    · exact .inl (.inl (b _ _ h (n1 (ne_of_none h n))))
    · exact .inl (.inr ⟨o, b _ _ h (n1 (ne_of_none h n))⟩)
    · exact .inr h
  exact ⟨go H' (But.same s), fun H'' b => go H'' ((But.same s).trans b)⟩
theorem texts_ne {H : Hp} {bx f : Addr} {rs : List Row} (b : BoxAt H bx) (e : H f = some (rtexts rs)) : f ≠ bx := box_strs (xs := rs.map Row.text) b (by rw [e]; unfold rtexts lstS; rw [texts_map])
/-- the two drawn programs -/
structure FA (K : PySem.W.Frag) (H : Hp) (sc bx : Addr) (ns : List Int) (f1 f2 : Addr) (L1 L2 : Lists) (ds1 ds2 : List Def) : Prop where
  s : Sc K H sc bx ns
  b : BoxAt H bx
  e1 : H f1 = some (rtexts (flat ds1))
  e2 : H f2 = some (rtexts (flat ds2))
  d1 : Drawn L1 ds1
  d2 : Drawn L2 ds2
theorem FA.but {K : PySem.W.Frag} {H H' : Hp} {sc bx f1 f2 : Addr} {ns : List Int} {L1 L2 : Lists} {ds1 ds2 : List Def} (h : FA K H sc bx ns f1 f2 L1 L2 ds1 ds2) (b : But [bx] H H') (hb : BoxAt H' bx) : FA K H' sc bx ns f1 f2 L1 L2 ds1 ds2 :=
  ⟨h.s.but b, hb, b _ _ h.e1 (n1 (texts_ne h.b h.e1)), b _ _ h.e2 (n1 (texts_ne h.b h.e2)), h.d1, h.d2⟩
theorem box_same {H H' : Hp} {bx : Addr} (h : BoxAt H bx) (s : Same H H') : BoxAt H' bx := let ⟨x, y, z, e⟩ := h; ⟨x, y, z, s _ _ e⟩
theorem FA.same {K : PySem.W.Frag} {H H' : Hp} {sc bx f1 f2 : Addr} {ns : List Int} {L1 L2 : Lists} {ds1 ds2 : List Def} (h : FA K H sc bx ns f1 f2 L1 L2 ds1 ds2) (s : Same H H') : FA K H' sc bx ns f1 f2 L1 L2 ds1 ds2 := h.but (But.same s) (box_same h.b s)
theorem but_drop {H H' : Hp} {a d : Addr} (b : But [a, d] H H') (n : H d = none) : But [a] H H' := fun c o e nc => b c o e (n2 (fun z => nc (by rw [z]; exact List.mem_singleton.mpr rfl)) (ne_of_none e n))
theorem but_up {H H' : Hp} {a d : Addr} (b : But [a] H H') : But [a, d] H H' := b.mono fun c hc => by rw [List.mem_singleton.mp hc]; exact List.mem_cons_self
def pick4 {α : Type} (a b c d : α) : Nat → α
  | 0 => a
  | 1 => b
  | 2 => c
  | _ => d
theorem all4 {p : Nat → Prop} (h0 : p 0) (h1 : p 1) (h2 : p 2) (h3 : p 3) : ∀ j < 4, p j := fun j hj => match j, hj with
  | 0, _ => h0
  | 1, _ => h1
  | 2, _ => h2
  | 3, _ => h3
/-- a table: four dicts -/
structure TbAt (H : Hp) (tb : Addr) (t : Nat → Addr) (l : Nat → List (Str × Str)) : Prop where
  e : H tb = some (.lst [.ref (t 0), .ref (t 1), .ref (t 2), .ref (t 3)])
  d : ∀ j < 4, H (t j) = some (.dK (kvOf (l j)))
theorem TbAt.but {H H' : Hp} {bx tb : Addr} {t : Nat → Addr} {l : Nat → List (Str × Str)} (h : TbAt H tb t l) (hb : BoxAt H bx) (b : But [bx] H H') : TbAt H' tb t l :=
  ⟨b _ _ h.e (n1 fun z => by obtain ⟨x, y, w, e⟩ := hb; rw [← z, h.e] at e; cases e), fun j hj => b _ _ (h.d j hj) (n1 (box_dict hb (h.d j hj)))⟩
theorem TbAt.same {H H' : Hp} {tb : Addr} {t : Nat → Addr} {l : Nat → List (Str × Str)} (h : TbAt H tb t l) (s : Same H H') : TbAt H' tb t l := ⟨s _ _ h.e, fun j hj => s _ _ (h.d j hj)⟩
theorem TbAt.tab {H : Hp} {tb : Addr} {t : Nat → Addr} {l : Nat → List (Str × Str)} (h : TbAt H tb t l) : TabAt H tb (tabF l) (t 0) (t 1) (t 2) (t 3) (kvOf (l 0)) (kvOf (l 1)) (kvOf (l 2)) (kvOf (l 3)) :=
  ⟨h.e, h.d 0 (by decide), h.d 1 (by decide), h.d 2 (by decide), h.d 3 (by decide), tabF_val l 0, tabF_val l 1, tabF_val l 2, tabF_val l 3⟩
theorem defs_nodef {jobs gates notes known : List Str} {ds : List Def} (h : Defs jobs gates notes known ds) : ∀ d ∈ ds, ∀ r ∈ d.body, r.isDef = false := by
  induction h with
  | nil => intro d hd; cases hd
  | cons _ hr _ _ ih =>
    intro d hd
    rcases List.mem_cons.mp hd with rfl | hd
    · exact rows_nodef hr
    · exact ih d hd
theorem getElem?_at {α β : Type} {p : α → β → Prop} : ∀ {xs : List α} {ys : List β}, xs.length = ys.length → (∀ (i : Nat) (x : α) (y : β), xs[i]? = some x → ys[i]? = some y → p x y) → Paired p xs ys
  | [], [], _, _ => .nil
  | x :: xs, y :: ys, h, a => .cons (a 0 x y rfl rfl) (getElem?_at (Nat.succ.inj h) fun i x y h1 h2 => a (i + 1) x y h1 h2)
theorem paired_at {α β : Type} {p : α → β → Prop} {xs : List α} {ys : List β} (h : Paired p xs ys) : ∀ (i : Nat) (x : α) (y : β), xs[i]? = some x → ys[i]? = some y → p x y := by
  induction h with
  | nil => intro i x y h; cases h
  | cons a _ ih =>
    intro i x y h1 h2
    cases i with
    | zero => cases h1; cases h2; exact a
    | succ i => exact ih i x y h1 h2
theorem paired_app {α β : Type} {p : α → β → Prop} {xs xs' : List α} {ys ys' : List β} (h : Paired p xs ys) (k : Paired p xs' ys') : Paired p (xs ++ xs') (ys ++ ys') := by
  induction h with
  | nil => exact k
  | cons a _ ih => exact .cons a ih
theorem paired_imp {α β : Type} {p q : α → β → Prop} {xs : List α} {ys : List β} (h : Paired p xs ys) (k : ∀ x y, p x y → q x y) : Paired q xs ys := by
  induction h with
  | nil => exact .nil
  | cons a _ ih => exact .cons (k _ _ a) ih
theorem paired_take {α β : Type} {p : α → β → Prop} {xs : List α} {ys : List β} (h : Paired p xs ys) (m : Nat) : Paired p (xs.take m) (ys.take m) ∧ Paired p (xs.drop m) (ys.drop m) := by
  induction h generalizing m with
  | nil => exact ⟨by rw [List.take_nil, List.take_nil]; exact .nil, by rw [List.drop_nil, List.drop_nil]; exact .nil⟩
  | cons a r ih =>
    cases m with
    | zero => exact ⟨.nil, .cons a r⟩
    | succ m => exact ⟨.cons a (ih m).1, (ih m).2⟩
theorem paired_len {α β : Type} {p : α → β → Prop} {xs : List α} {ys : List β} (h : Paired p xs ys) : xs.length = ys.length := by
  induction h with
  | nil => rfl
  | cons _ _ ih => rw [List.length_cons, List.length_cons, ih]
theorem flat_take {α : Type} (Gs : List (List α)) (i : Nat) : (Gs.take i).flatten.length ≤ Gs.flatten.length ∧ ∀ g, Gs[i]? = some g → (Gs.take i).flatten.length + g.length ≤ Gs.flatten.length ∧ (Gs.take (i + 1)).flatten = (Gs.take i).flatten ++ g := by
  have e : Gs.flatten = (Gs.take i).flatten ++ (Gs.drop i).flatten := by rw [← List.flatten_append, List.take_append_drop]
  have l := congrArg List.length e
  rw [List.length_append] at l
  refine ⟨by omega, fun g hg => ?_⟩
  obtain ⟨hi, rfl⟩ := List.getElem?_eq_some_iff.mp hg
  rw [List.drop_eq_getElem_cons hi, List.flatten_cons, List.length_append] at l
  refine ⟨by omega, ?_⟩
  rw [← List.take_append_getElem hi, List.flatten_append]
  simp
/-- a program that was read -/
structure PgAt (CP : Addr) (H : Hp) (p : Addr) (rs : List Row) (s : S) (js ws gs J W : List Str) : Prop where
  r : Rd rs s J W
  o : Sorts s js ws gs
  a : PAt CP H p (rowsText rs) js ws gs
theorem PAt.but {CP bx : Addr} {H H' : Hp} {p : Addr} {t : Str} {js ws gs : List Str} (h : PAt CP H p t js ws gs) (hb : BoxAt H bx) (b : But [bx] H H') : PAt CP H' p t js ws gs := by
  obtain ⟨dx, tj, tw, pj, pw, pg, e1, e2, e3, e4⟩ := h
  have ne : ∀ {a : Addr} {o : HO}, H a = some o → (∀ xs, o ≠ .lst xs) → a ∉ [bx] := fun {a o} e no => n1 fun z => by
    obtain ⟨x, y, w, e'⟩ := hb
    rw [z, e'] at e
    exact no _ (Option.some.inj e).symm
  exact ⟨dx, tj, tw, pj, pw, pg, b _ _ e1 (ne e1 fun _ => by simp), b _ _ e2 (ne e2 fun _ => by simp), b _ _ e3 (ne e3 fun _ => by simp), b _ _ e4 (ne e4 fun _ => by simp)⟩
theorem PgAt.same {CP : Addr} {H H' : Hp} {p : Addr} {rs : List Row} {s : S} {js ws gs J W : List Str} (h : PgAt CP H p rs s js ws gs J W) (sm : Same H H') : PgAt CP H' p rs s js ws gs J W := ⟨h.r, h.o, h.a.same sm⟩
theorem PgAt.but {CP bx : Addr} {H H' : Hp} {p : Addr} {rs : List Row} {s : S} {js ws gs J W : List Str} (h : PgAt CP H p rs s js ws gs J W) (hb : BoxAt H bx) (b : But [bx] H H') : PgAt CP H' p rs s js ws gs J W := ⟨h.r, h.o, h.a.but hb b⟩
theorem sq_texts {K : PySem.W.Frag} {H : Hp} {f : Addr} {rs : List Row} (e : H f = some (rtexts rs)) : SqL K H f ((rs.map Row.text).map V.str) := SqL.of (by rw [e]; unfold rtexts; rw [texts_map])
theorem eqv_strs (l : List Str) : PyData.eqv (.tuple (l.map PyData.str)) (.tuple (l.map PyData.str)) = true := by
  have go : ∀ l : List Str, PyData.eqvAll (l.map PyData.str) (l.map PyData.str) = true := by
    intro l
    induction l with
    | nil => rfl
    | cons x l ih =>
      show ((x == x) && PyData.eqvAll (l.map PyData.str) (l.map PyData.str)) = true
      rw [ih, beq_self_eq_true]; rfl
  exact go l
theorem tab_in {l : Nat → List (Str × Str)} {j : Nat} {x : Str} (h : x ∈ (l j).map Prod.fst) : valV (kvOf (l j)) (.inr x) = some (.str (tabF l j x)) := by
  rw [valV_kvOf]
  unfold tabF
  have go : ∀ m : List (Str × Str), x ∈ m.map Prod.fst → ∃ v, m.lookup x = some v := by
    intro m
    induction m with
    | nil => intro h; cases h
    | cons p m ih =>
      intro h
      rw [show p :: m = (p.1, p.2) :: m from rfl, List.lookup_cons]
      cases q : x == p.1 with
      | true => exact ⟨_, rfl⟩
      | false =>
        rw [List.map_cons] at h
        rcases List.mem_cons.mp h with h | h
        · rw [h, beq_self_eq_true] at q; cases q
        · exact ih h
  obtain ⟨v, e⟩ := go _ h
  rw [e]; rfl
theorem strs_nm {l : List Str} (h : ∀ x ∈ l, Nm x) : ∀ t ∈ l, PyData.strOk t = true := fun t ht => strOk_nm (h t ht)
theorem mid_perm {a b m j1 j2 : List Str} (h : j1.Perm (a ++ b)) (k : j2.Perm m) : (a ++ (m ++ b)).Perm (j1 ++ j2) := by
  have e1 : (a ++ (m ++ b)).Perm ((a ++ b) ++ m) := by
    rw [List.append_assoc]
    exact List.Perm.append_left a List.perm_append_comm
  exact e1.trans (List.Perm.append h.symm k.symm)
theorem gates_nm {rs : List Row} {s : S} (h : Run {} rs s) : ∀ x ∈ s.gates, Nm x := fun x hx => by
  rcases ((h.gates .nil).2 x).mp hx with hx | hx
  · cases hx
  · obtain ⟨l, hl, hxl⟩ := List.mem_flatten.mp hx
    obtain ⟨r, hr, rfl⟩ := List.mem_map.mp hl
    have ok := h.ok r hr
    cases r with
    | named k n =>
      cases k with
      | wait => rw [List.mem_singleton.mp hxl]; exact ok
      | opn => rw [List.mem_singleton.mp hxl]; exact ok
      | _ => cases hxl
    | _ => cases hxl
/-- what reading a program asks -/
theorem pread_ok {CB CR CP CE CU : Addr} {rs : List Row} {s : S} {J W : List Str} {H : Hp} {Q : VK} {E : XK} (r : Rd rs s J W) (cc : CB ≠ CR) (cp : CP ≠ CR) (q : ∀ p js ws gs H', Same H H' → PgAt CP H' p rs s js ws gs J W → Q (.ref p) H') : spPread CB CR CP CE CU [.str (rowsText rs)] H Q E :=
  ⟨rs, s, rfl, r.ne, r.len, r.run, cc, cp, fun h => absurd r.cur h, fun _ pre x post es h1 h2 => absurd (r.all x (by rw [es]; simp)) h2, fun _ _ => ⟨r.sz.1, r.sz.2, r.deep, r.gat, fun p js ws gs H' so sm pa => q p js ws gs H' sm ⟨r, so, pa⟩⟩⟩
end K8
set_option Elab.async false
set_option linter.all false
set_option maxRecDepth 100000
set_option maxHeartbeats 4000000
/-! The walk of the law. -/
namespace K8
open PySem PyProof.Rows L2
theorem for_rangeD {lo : Int} {n : Nat} {g : TG} {tb : TS} {D : Ends} {σ : L2.St} {H : Hp} (Pv : Nat → L2.St → Hp → Prop) (h0 : Pv 0 σ H)
    (hs : ∀ i σ H (D' : Ends), i < n → Pv i σ H → (∀ σ H, Pv (i + 1) σ H → D'.nx σ H) → g (.int (lo + i)) σ H fun σ2 H2 => tb D' σ2 H2) (hd : ∀ σ H, Pv n σ H → D.nx σ H) :
    ∃ W : Nat → Nat → L2.St → Hp → Prop, (∃ m, W 0 m σ H) ∧ ∀ i m σ H, W i m σ H →
      ((Itr lo n).stop i H ∧ D.nx σ H) ∨ ((Itr lo n).go i H ∧ ∃ N : L2.St → Hp → Prop, (∀ σ' H', N σ' H' → ∃ m', m' < m ∧ W (i + 1) m' σ' H') ∧ ∀ x H', (Itr lo n).yld i H x H' → g x σ H' fun σ2 H2 => tb { D with nx := N, ct := N, bk := D.nx } σ2 H2) :=
  for_range Pv h0 (fun i σ H hi p => hs i σ H _ hi p fun _ _ h => h) hd
def scTab : Scope := { kind := .function, names := [(".0", .local), ("_law_some", .local), ("dict", .globalImplicit), ("enumerate", .globalImplicit)], isGenerator := false, isCoroutine := false, more := [] }
def scBack : Scope := { kind := .function, names := [(".0", .local), ("_law_some", .local), ("dict", .globalImplicit)], isGenerator := false, isCoroutine := false, more := [] }
section
variable {P : Program} {w : World} {K : PySem.W.Frag} {mg : Str → Option Value} {base : Heap} {f fr fs fl fe fb : Addr} {fd : FuncData} {CB CR CP CE CU pr : Addr}
abbrev sLaw : Stmt := top 48
theorem scLaw : FnScope ["_law_script", "_law_k", "_law_box_here", "_law_first", "_law_second", "_law_names_here", "_law_table", "_law_at", "_law_name", "_law_some", "_law_other", "_law_parts", "_law_rows_here", "_law_one", "_law_two", "_law_both", "_law_jobs", "_law_walks", "_law_back", "_law_fresh", "_law_turned", "_law_found"] ["_law_script"] (defScope sLaw) := ⟨rfl, rfl, rfl, by decide +kernel, rfl, by decide +kernel, by decide +kernel⟩
def spLaw (K : PySem.W.Frag) : Sp := fun vs H Q _ => ∃ (p : Addr) (ns : List Int), vs = [.ref p] ∧ SqL K H p (ns.map V.int) ∧ ns.length ≤ 63 ∧ ∀ H', Q (.bl true) H'
def MidA (K : PySem.W.Frag) (sc : Addr) (ns : List Int) (k : Nat) : L2.St → Hp → Prop := fun σ H => ∃ (bx f1 f2 : Addr) (L1 L2 : Lists) (ds1 ds2 : List Def) (u5 u6 u7 u8 u9 u10 u11 u12 u13 u14 u15 u16 u17 u18 u19 u20 u21 : Option V), σ = [some (.ref sc), some (.int k), some (.ref bx), some (.ref f1), some (.ref f2), u5, u6, u7, u8, u9, u10, u11, u12, u13, u14, u15, u16, u17, u18, u19, u20, u21] ∧ FA K H sc bx ns f1 f2 L1 L2 ds1 ds2
def MidB (K : PySem.W.Frag) (sc : Addr) (ns : List Int) (k : Nat) : L2.St → Hp → Prop := fun σ H => ∃ (bx f1 f2 : Addr) (L1 L2 : Lists) (ds1 ds2 : List Def) (tb : Addr) (t : Nat → Addr) (y : Nat → List Str) (u5 u7 u8 u9 u10 u11 u12 u13 u14 u15 u16 u17 u18 u19 u20 u21 : Option V), σ = [some (.ref sc), some (.int k), some (.ref bx), some (.ref f1), some (.ref f2), u5, some (.ref tb), u7, u8, u9, u10, u11, u12, u13, u14, u15, u16, u17, u18, u19, u20, u21] ∧ FA K H sc bx ns f1 f2 L1 L2 ds1 ds2 ∧ NmsOk ds2 y ∧ TbAt H tb t (fun j => (y j).zip (frs (y j)))
def MidC (K : PySem.W.Frag) (sc : Addr) (ns : List Int) (k : Nat) : L2.St → Hp → Prop := fun σ H => ∃ (bx f1 f2 : Addr) (L1 L2 : Lists) (ds1 ds2 : List Def) (tb : Addr) (t : Nat → Addr) (y : Nat → List Str) (ot : Addr) (u5 u7 u8 u9 u11 u12 u13 u14 u15 u16 u17 u18 u19 u20 u21 : Option V), σ = [some (.ref sc), some (.int k), some (.ref bx), some (.ref f1), some (.ref f2), u5, some (.ref tb), u7, u8, u9, some (.ref ot), u11, u12, u13, u14, u15, u16, u17, u18, u19, u20, u21] ∧ FA K H sc bx ns f1 f2 L1 L2 ds1 ds2 ∧ NmsOk ds2 y ∧ TbAt H tb t (fun j => (y j).zip (frs (y j))) ∧
  H ot = some (rtexts ((flat ds2).map (Row.ren (tabF fun j => (y j).zip (frs (y j))))))
def MidD (K : PySem.W.Frag) (sc : Addr) (ns : List Int) (k : Nat) : L2.St → Hp → Prop := fun σ H => ∃ (bx f1 f2 : Addr) (L1 L2 : Lists) (a b ds2 : List Def) (tb : Addr) (t : Nat → Addr) (y : Nat → List Str) (ot rh : Addr) (u5 u7 u8 u9 u11 u13 u14 u15 u16 u17 u18 u19 u20 u21 : Option V), σ = [some (.ref sc), some (.int k), some (.ref bx), some (.ref f1), some (.ref f2), u5, some (.ref tb), u7, u8, u9, some (.ref ot), u11, some (.ref rh), u13, u14, u15, u16, u17, u18, u19, u20, u21] ∧ FA K H sc bx ns f1 f2 L1 L2 (a ++ b) ds2 ∧ NmsOk ds2 y ∧ TbAt H tb t (fun j => (y j).zip (frs (y j))) ∧
  H ot = some (rtexts ((flat ds2).map (Row.ren (tabF fun j => (y j).zip (frs (y j)))))) ∧ H rh = some (rtexts (flat a ++ ((flat ds2).map (Row.ren (tabF fun j => (y j).zip (frs (y j)))) ++ flat b)))
def MidE (K : PySem.W.Frag) (CP : Addr) (sc : Addr) (ns : List Int) (k : Nat) : L2.St → Hp → Prop := fun σ H => ∃ (bx f1 f2 : Addr) (L1 L2 : Lists) (a b ds2 : List Def) (tb : Addr) (t : Nat → Addr) (y : Nat → List Str) (ot p1 p2 p3 : Addr) (s1 s2 s3 : S) (j1 w1 g1 j2 w2 g2 j3 w3 g3 : List Str) (u5 u7 u8 u9 u11 u12 u16 u17 u18 u19 u20 u21 : Option V), σ = [some (.ref sc), some (.int k), some (.ref bx), some (.ref f1), some (.ref f2), u5, some (.ref tb), u7, u8, u9, some (.ref ot), u11, u12, some (.ref p1), some (.ref p2), some (.ref p3), u16, u17, u18, u19, u20, u21] ∧ FA K H sc bx ns f1 f2 L1 L2 (a ++ b) ds2 ∧ NmsOk ds2 y ∧ TbAt H tb t (fun j => (y j).zip (frs (y j))) ∧
  H ot = some (rtexts ((flat ds2).map (Row.ren (tabF fun j => (y j).zip (frs (y j)))))) ∧ PgAt CP H p1 (flat (a ++ b)) s1 j1 w1 g1 (jnames (a ++ b)) (wnames (a ++ b)) ∧ PgAt CP H p2 (flat ds2) s2 j2 w2 g2 (jnames ds2) (wnames ds2) ∧
  PgAt CP H p3 (flat a ++ ((flat ds2).map (Row.ren (tabF fun j => (y j).zip (frs (y j)))) ++ flat b)) s3 j3 w3 g3 (jnames a ++ ((jnames ds2).map (tabF (fun j => (y j).zip (frs (y j))) 0) ++ jnames b)) (wnames a ++ ((wnames ds2).map (tabF (fun j => (y j).zip (frs (y j))) 1) ++ wnames b))
def MidG (K : PySem.W.Frag) (CP : Addr) (sc : Addr) (ns : List Int) (k : Nat) : L2.St → Hp → Prop := fun σ H => ∃ (bx f1 f2 : Addr) (L1 L2 : Lists) (ds1 ds2 : List Def) (p1 : Addr) (s1 : S) (j1 w1 g1 : List Str) (u5 u6 u7 u8 u9 u10 u11 u12 u14 u15 u16 u17 u18 u19 u20 u21 : Option V), σ = [some (.ref sc), some (.int k), some (.ref bx), some (.ref f1), some (.ref f2), u5, u6, u7, u8, u9, u10, u11, u12, some (.ref p1), u14, u15, u16, u17, u18, u19, u20, u21] ∧ FA K H sc bx ns f1 f2 L1 L2 ds1 ds2 ∧ PgAt CP H p1 (flat ds1) s1 j1 w1 g1 (jnames ds1) (wnames ds1)
def MidH (K : PySem.W.Frag) (CP : Addr) (sc : Addr) (ns : List Int) (k : Nat) : L2.St → Hp → Prop := fun σ H => ∃ (bx f1 f2 : Addr) (L1 L2 : Lists) (ds1 ds2 : List Def) (p1 : Addr) (s1 : S) (j1 w1 g1 : List Str) (tu : Addr) (t : Nat → Addr) (z p : Nat → List Str) (u5 u6 u7 u8 u9 u10 u11 u12 u14 u15 u16 u17 u18 u19 u21 : Option V), σ = [some (.ref sc), some (.int k), some (.ref bx), some (.ref f1), some (.ref f2), u5, u6, u7, u8, u9, u10, u11, u12, some (.ref p1), u14, u15, u16, u17, u18, u19, some (.ref tu), u21] ∧ FA K H sc bx ns f1 f2 L1 L2 ds1 ds2 ∧ PgAt CP H p1 (flat ds1) s1 j1 w1 g1 (jnames ds1) (wnames ds1) ∧
  NmsOk ds1 z ∧ p 0 = z 0 ∧ (∀ j < 4, (p j).Perm (z j)) ∧ TbAt H tu t (fun j => (z j).zip (p j))
theorem ok_law (F : Fun K "law" "law" sLaw f fd) (bd : Binds K fd ["_law_script"] []) (cc : CB ≠ CR) (cp : CP ≠ CR) (OP : OwnC K CP fProg)
    (c_box : C8.Cal P w K mg base 1 "_law_box" (spLbox K) []) (c_take : C8.Cal P w K mg base 1 "_law_take" spTake []) (c_mixed : C8.Cal P w K mg base 3 "_law_mixed" (spMixed K) []) (c_world : C8.Cal P w K mg base 5 "_law_world" spWorld []) (c_program : C8.Cal P w K mg base 17 "_law_program" spProgram [])
    (c_all_names : C8.Cal P w K mg base 1 "_law_all_names" spLall []) (c_named : C8.Cal P w K mg base 1 "_law_named" spLnamed []) (c_definitions : C8.Cal P w K mg base 1 "_law_definitions" spLdefs [])
    (Fbegins : FnG P w K mg base CX0 9 fb spBegins) (m_begins : mg "_law_begins_right" = some (.ref fb)) (k_begins : PySem.W.keepIn K (.ref fb) = true)
    (S : SMet K CP "read" pr fr) (Fread : FnR P w K mg base (L2.CX P w) 7 fr (spPread CB CR CP CE CU)) (g_Program : ∃ u, mg "Program" = some u ∧ RelV (.ref CP) u)
    (Flen : FnR P w K mg base CX0 1 fl (spPlen CP)) (hlen : PySem.W.findIn K (.ref CP) "__len__" = some (some (.ref fl))) (hlf : PySem.W.isFn K (.ref fl) = true)
    (Feq : FnR P w K mg base CX0 1 fe (spPeq CP)) (hne : PySem.W.findIn K (.ref CP) "__ne__" = some (some (.builtin "object.__ne__"))) (heq : PySem.W.findIn K (.ref CP) "__eq__" = some (some (.ref fe))) (hef : PySem.W.isFn K (.ref fe) = true) (hmo : PySem.W.mroIn K CP (.type "object") = some true)
    (m_range : mg "range" = none) (m_max : mg "max" = none) (m_min : mg "min" = none) (m_len : mg "len" = none) (m_dict : mg "dict" = none) (m_list : mg "list" = none) (m_tuple : mg "tuple" = none) (m_sorted : mg "sorted" = none) (m_enumerate : mg "enumerate" = none) (m_zip : mg "zip" = none) :
    FnG P w K mg base CX0 18 f (spLaw K) := by
  refine okG0 F scLaw bd (fun vs H Q E h => ?_) (fun cdv A outer s H vs Q E hG hr h => ?_)
  · obtain ⟨_, _, rfl, _⟩ := h
    rfl
  obtain ⟨sc, ns, rfl, hsc, h63, q⟩ := h
  have nd := scLaw.nd
  have hu := hu_of hr
  refine ⟨_, (pss_cons (ps_for PassesOwn.never rfl (pi_range1 (by rfl) m_range (pa_cons (pe_callB (call_max2 rfl) (by rfl) m_max (by decide +kernel) (pa_cons pe_int (pa_cons (pe_callB (call_min2 rfl) (by rfl) m_min (by decide +kernel) (pa_cons pe_int (pa_cons (pe_callB call_len_seq (by rfl) m_len (by decide +kernel) (pa_cons (pv 0) pa_nil)) pa_nil))) pa_nil))) pa_nil)) (pg_name (i := 1) nd rfl (.inl rfl))
    (pss_cons (ps_set (i := 2) nd rfl (.inr rfl) (C8.pe_c c_box hr (by omega) rfl (pa_cons (pv 0) (pa_cons (pv 1) (pa_cons pe_int pa_nil)))))
    (pss_cons (ps_set (i := 3) nd rfl (.inl rfl) (C8.pe_c c_program hr (by omega) rfl (pa_cons (pv 2) (pa_cons (C8.pe_c c_world hr (by omega) rfl (pa_cons (pv 2) (pa_cons pe_int (pa_cons pe_int pa_nil)))) (pa_cons (pe_op op_add pe_int (C8.pe_c c_take hr (by omega) rfl (pa_cons (pv 2) (pa_cons pe_int pa_nil)))) pa_nil)))))
    (C8.pss_cut (ps_set (i := 4) nd rfl (.inl rfl) (C8.pe_c c_program hr (by omega) rfl (pa_cons (pv 2) (pa_cons (C8.pe_c c_world hr (by omega) rfl (pa_cons (pv 2) (pa_cons pe_int (pa_cons pe_int pa_nil)))) (pa_cons (pe_op op_add pe_int (C8.pe_c c_take hr (by omega) rfl (pa_cons (pv 2) (pa_cons pe_int pa_nil)))) pa_nil)))))
    (pss_cons (ps_set (i := 5) nd rfl (.inl rfl) (C8.pe_c c_all_names hr (by omega) rfl (pa_cons (pv 4) pa_nil)))
    (C8.pss_cut (ps_set (i := 6) nd rfl (.inr rfl) (pe_lc  (own := [("_law_some", 9)]) (g := gName 9) (tt := tYes) rfl nd (pi_list (pv 5)) (blkOk_by (own := [("_law_some", 9)]) (N := ["_law_script", "_law_k", "_law_box_here", "_law_first", "_law_second", "_law_names_here", "_law_table", "_law_at", "_law_name", "_law_some", "_law_other", "_law_parts", "_law_rows_here", "_law_one", "_law_two", "_law_both", "_law_jobs", "_law_walks", "_law_back", "_law_fresh", "_law_turned", "_law_found"]) (sc := defScope (top 48)) (by decide +kernel)) (fun _ _ _ _ _ => (pg_name (i := 9) nd rfl (.inl rfl))) (fun _ _ _ _ _ => pts_nil) (fun _ _ _ _ _ => (pe_callTy (K8.call_dictPK (K := K) rfl rfl) (by rfl) m_dict (by decide +kernel) (pa_cons (pe_lc  (own := [("_law_at", 7), ("_law_name", 8)]) (g := gTup K 2 (gCons (gName 7) (gCons (gName 8) gNil))) (tt := tYes) rfl nd (K8.pi_enumK (K := K) rfl (by rfl) m_enumerate (pa_cons (pv 9) pa_nil)) (blkOk_by (own := [("_law_at", 7), ("_law_name", 8)]) (N := ["_law_script", "_law_k", "_law_box_here", "_law_first", "_law_second", "_law_names_here", "_law_table", "_law_at", "_law_name", "_law_some", "_law_other", "_law_parts", "_law_rows_here", "_law_one", "_law_two", "_law_both", "_law_jobs", "_law_walks", "_law_back", "_law_fresh", "_law_turned", "_law_found"]) (sc := relS K8.scTab (defScope (top 48))) (by decide +kernel)) (fun _ _ _ _ _ => (K8.pg_tupK (K := K) (n := 2) rfl rfl (pgs_cons (pg_name (i := 7) nd rfl (.inl rfl)) (pgs_cons (pg_name (i := 8) nd rfl (.inl rfl)) pgs_nil)))) (fun _ _ _ _ _ => pts_nil) (fun _ _ _ _ _ => (pe_tup (pa_cons (pv 8) (pa_cons (pe_op op_add_str pe_str (pe_ix ix_str pe_str (pv 7) (fun _ _ => rfl))) pa_nil))))) pa_nil)))))
    (pss_cons (ps_set (i := 10) nd rfl (.inl rfl) (C8.pe_c c_named hr (by omega) rfl (pa_cons (pv 4) (pa_cons (pv 6) pa_nil))))
    (C8.pss_cut (ps_if (pt_not (pt_val (K8.pe_callG Fbegins hG (hr.mono (by decide)) rfl m_begins k_begins (pa_cons (pv 3) pa_nil)))) (pss_one (ps_ret pe_bl)) pss_nil)
    (pss_cons (ps_par (i := 11) (j := 12) rfl nd rfl rfl (by decide) rfl rfl (pa_cons (C8.pe_c c_definitions hr (by omega) rfl (pa_cons (pv 3) pa_nil)) (pa_cons (pe_lst pa_nil) pa_nil)) (by rfl))
    (pss_cons (ps_set (i := 7) nd rfl (.inl rfl) (C8.pe_c c_take hr (by omega) rfl (pa_cons (pv 2) (pa_cons (pe_op op_add (pe_callB call_len_seq (by rfl) m_len (by decide +kernel) (pa_cons (pv 11) pa_nil)) pe_int) pa_nil))))
    (C8.pss_cut (ps_for PassesOwn.never rfl (pi_list (pe_op op_cat (pe_op op_cat (pe_slice sl_list (pv 11) po_none (po_some (pv 7))) (pe_lst (pa_cons (pv 10) pa_nil))) (pe_slice sl_list (pv 11) (po_some (pv 7)) po_none))) (pg_name (i := 9) nd rfl (.inl rfl))
    (pss_one (ps_expr (pe_bm PySem.F.plainAttrs_list PySem.F.slot_list_extend PySem.F.type_list_extend mt_extend (pv 12) (pa_cons (pv 9) pa_nil)))))
    (pss_cons (ps_par (i := 13) (j := 14) rfl nd rfl rfl (by decide) rfl rfl (pa_cons (pe_sm (C8.pe_gc rfl g_Program) S Fread (hr.mono (by decide)) (fun σ => passAt takes0 σ) (pa_cons (pe_join pe_str (pv 3)) pa_nil)) (pa_cons (pe_sm (C8.pe_gc rfl g_Program) S Fread (hr.mono (by decide)) (fun σ => passAt takes0 σ) (pa_cons (pe_join pe_str (pv 4)) pa_nil)) pa_nil)) (by rfl))
    (C8.pss_cut (ps_set (i := 15) nd rfl (.inl rfl) (pe_sm (C8.pe_gc rfl g_Program) S Fread (hr.mono (by decide)) (fun σ => passAt takes0 σ) (pa_cons (pe_join pe_str (pv 12)) pa_nil)))
    (pss_cons (ps_setLc (i := 16) (own := [("_law_name", 8)]) (g := gName 8) (tt := tYes) rfl nd rfl rfl (sw_true rfl rfl rfl (by decide +kernel)) (pi_tup (pe_fld (pv 14) rfl)) (blkOk_by (own := [("_law_name", 8)]) (N := ["_law_script", "_law_k", "_law_box_here", "_law_first", "_law_second", "_law_names_here", "_law_table", "_law_at", "_law_name", "_law_some", "_law_other", "_law_parts", "_law_rows_here", "_law_one", "_law_two", "_law_both", "_law_jobs", "_law_walks", "_law_back", "_law_fresh", "_law_turned", "_law_found"]) (sc := defScope (top 48)) (by decide +kernel)) (fun _ _ _ _ _ => (pg_name (i := 8) nd rfl (.inl rfl))) (fun _ _ _ _ _ => pts_nil) (fun _ _ _ _ _ => (pe_dget hu (pe_ix (K8.ix_listK (K := K) rfl) (pv 6) pe_int (fun _ _ => rfl)) (pv 8) (fun _ _ => rfl))))
    (pss_cons (ps_setLc (i := 17) (own := [("_law_name", 8)]) (g := gName 8) (tt := tYes) rfl nd rfl rfl (sw_true rfl rfl rfl (by decide +kernel)) (pi_tup (pe_fld (pv 14) rfl)) (blkOk_by (own := [("_law_name", 8)]) (N := ["_law_script", "_law_k", "_law_box_here", "_law_first", "_law_second", "_law_names_here", "_law_table", "_law_at", "_law_name", "_law_some", "_law_other", "_law_parts", "_law_rows_here", "_law_one", "_law_two", "_law_both", "_law_jobs", "_law_walks", "_law_back", "_law_fresh", "_law_turned", "_law_found"]) (sc := defScope (top 48)) (by decide +kernel)) (fun _ _ _ _ _ => (pg_name (i := 8) nd rfl (.inl rfl))) (fun _ _ _ _ _ => pts_nil) (fun _ _ _ _ _ => (pe_dget hu (pe_ix (K8.ix_listK (K := K) rfl) (pv 6) pe_int (fun _ _ => rfl)) (pv 8) (fun _ _ => rfl))))
    (pss_cons (ps_if (PW.pt (pw_or (pt_cmpR (op_neD hr.units) (pe_fld (pv 15) rfl) (pe_callTy call_tuple_of (by rfl) m_tuple (by decide +kernel) (pa_cons (pe_callB cr_sortedS (by rfl) m_sorted (by decide +kernel) (pa_cons (pe_op op_cat (pe_callTy call_list_of (by rfl) m_list (by decide +kernel) (pa_cons (pe_fld (pv 13) rfl) pa_nil)) (pv 16)) pa_nil)) pa_nil)) (nomark _)) (pw_or1 (pt_cmpR op_ne (pe_callB (call_lenO Flen hlen hlf (hr.mono (by decide))) (by rfl) m_len (by decide +kernel) (pa_cons (pv 15) pa_nil)) (pe_op op_add (pe_callB (call_lenO Flen hlen hlf (hr.mono (by decide))) (by rfl) m_len (by decide +kernel) (pa_cons (pv 13) pa_nil)) (pe_callB (call_lenO Flen hlen hlf (hr.mono (by decide))) (by rfl) m_len (by decide +kernel) (pa_cons (pv 14) pa_nil))) (nomark _))))) (pss_one (ps_ret pe_bl)) pss_nil)
    (C8.pss_cut (ps_if (pt_cmpR (op_neD hr.units) (pe_fld (pv 15) rfl) (pe_callTy call_tuple_of (by rfl) m_tuple (by decide +kernel) (pa_cons (pe_callB cr_sortedS (by rfl) m_sorted (by decide +kernel) (pa_cons (pe_op op_cat (pe_callTy call_list_of (by rfl) m_list (by decide +kernel) (pa_cons (pe_fld (pv 13) rfl) pa_nil)) (pv 17)) pa_nil)) pa_nil)) (nomark _)) (pss_one (ps_ret pe_bl)) pss_nil)
    (pss_cons (ps_setLc (i := 18) (own := [("_law_some", 9)]) (g := gName 9) (tt := tYes) rfl nd rfl rfl (sw_true rfl rfl rfl (by decide +kernel)) (pi_list (pv 6)) (blkOk_by (own := [("_law_some", 9)]) (N := ["_law_script", "_law_k", "_law_box_here", "_law_first", "_law_second", "_law_names_here", "_law_table", "_law_at", "_law_name", "_law_some", "_law_other", "_law_parts", "_law_rows_here", "_law_one", "_law_two", "_law_both", "_law_jobs", "_law_walks", "_law_back", "_law_fresh", "_law_turned", "_law_found"]) (sc := defScope (top 48)) (by decide +kernel)) (fun _ _ _ _ _ => (pg_name (i := 9) nd rfl (.inl rfl))) (fun _ _ _ _ _ => pts_nil) (fun _ _ _ _ _ => (pe_callTy (K8.call_dictPK (K := K) rfl rfl) (by rfl) m_dict (by decide +kernel) (pa_cons (pe_lock (pe_lc  (own := [("_law_name", 8), ("_law_fresh", 19)]) (g := gTup K 2 (gCons (gName 8) (gCons (gName 19) gNil))) (tt := tYes) rfl nd (pi_items (pv 9)) (blkOk_by (own := [("_law_name", 8), ("_law_fresh", 19)]) (N := ["_law_script", "_law_k", "_law_box_here", "_law_first", "_law_second", "_law_names_here", "_law_table", "_law_at", "_law_name", "_law_some", "_law_other", "_law_parts", "_law_rows_here", "_law_one", "_law_two", "_law_both", "_law_jobs", "_law_walks", "_law_back", "_law_fresh", "_law_turned", "_law_found"]) (sc := relS K8.scBack (defScope (top 48))) (by decide +kernel)) (fun _ _ _ _ _ => (K8.pg_tupK (K := K) (n := 2) rfl rfl (pgs_cons (pg_name (i := 8) nd rfl (.inl rfl)) (pgs_cons (pg_name (i := 19) nd rfl (.inl rfl)) pgs_nil)))) (fun _ _ _ _ _ => pts_nil) (fun _ _ _ _ _ => (pe_tup (pa_cons (pv 19) (pa_cons (pv 8) pa_nil)))))) pa_nil))))
    (C8.pss_cut (ps_if (pt_cmpR (op_neO Feq hne heq hef hmo (hr.mono (by decide))) (pe_sm (C8.pe_gc rfl g_Program) S Fread (hr.mono (by decide)) (fun σ => passAt takes0 σ) (pa_cons (pe_join pe_str (C8.pe_c c_named hr (by omega) rfl (pa_cons (pv 10) (pa_cons (pv 18) pa_nil)))) pa_nil)) (pv 14) (nomark _)) (pss_one (ps_ret pe_bl)) pss_nil)
    (pss_cons (ps_set (i := 9) nd rfl (.inl rfl) (C8.pe_c c_all_names hr (by omega) rfl (pa_cons (pv 3) pa_nil)))
    (pss_cons (ps_setLc (i := 20) (own := [("_law_names_here", 5)]) (g := gName 5) (tt := tYes) rfl nd rfl rfl (sw_true rfl rfl rfl (by decide +kernel)) (pi_list (pv 9)) (blkOk_by (own := [("_law_names_here", 5)]) (N := ["_law_script", "_law_k", "_law_box_here", "_law_first", "_law_second", "_law_names_here", "_law_table", "_law_at", "_law_name", "_law_some", "_law_other", "_law_parts", "_law_rows_here", "_law_one", "_law_two", "_law_both", "_law_jobs", "_law_walks", "_law_back", "_law_fresh", "_law_turned", "_law_found"]) (sc := defScope (top 48)) (by decide +kernel)) (fun _ _ _ _ _ => (pg_name (i := 5) nd rfl (.inl rfl))) (fun _ _ _ _ _ => pts_nil) (fun _ _ _ _ _ => (pe_callTy (K8.call_dictPK (K := K) rfl rfl) (by rfl) m_dict (by decide +kernel) (pa_cons (K8.pe_listZipK (K := K) rfl rfl (pa_cons (pv 5) (pa_cons (C8.pe_c c_mixed hr (by omega) rfl (pa_cons (pv 2) (pa_cons (pv 5) pa_nil))) pa_nil)) (by rfl) m_list (by rfl) m_zip) pa_nil))))
    (C8.pss_cut (ps_asg (pe_callTy (K8.call_dictPK (K := K) rfl rfl) (by rfl) m_dict (by decide +kernel) (pa_cons (pe_lc  (own := [("_law_name", 8)]) (g := gName 8) (tt := tYes) rfl nd (pi_list (pe_ix ix_list (pv 9) pe_int (fun _ _ => rfl))) (blkOk_by (own := [("_law_name", 8)]) (N := ["_law_script", "_law_k", "_law_box_here", "_law_first", "_law_second", "_law_names_here", "_law_table", "_law_at", "_law_name", "_law_some", "_law_other", "_law_parts", "_law_rows_here", "_law_one", "_law_two", "_law_both", "_law_jobs", "_law_walks", "_law_back", "_law_fresh", "_law_turned", "_law_found"]) (sc := defScope (top 48)) (by decide +kernel)) (fun _ _ _ _ _ => (pg_name (i := 8) nd rfl (.inl rfl))) (fun _ _ _ _ _ => pts_nil) (fun _ _ _ _ _ => (pe_tup (pa_cons (pv 8) (pa_cons (pv 8) pa_nil))))) pa_nil)) (pg_sub (pv 20) pe_int set_list))
    (pss_cons (ps_set (i := 21) nd rfl (.inl rfl) (pe_sm (C8.pe_gc rfl g_Program) S Fread (hr.mono (by decide)) (fun σ => passAt takes0 σ) (pa_cons (pe_join pe_str (C8.pe_c c_named hr (by omega) rfl (pa_cons (pv 3) (pa_cons (pv 20) pa_nil)))) pa_nil)))
    (pss_one (ps_if (PW.pt (pw_or (pt_cmpR (op_neD hr.units) (pe_fld (pv 21) rfl) (pe_fld (pv 13) rfl) (nomark _)) (pw_or (pt_cmpR (op_neD hr.units) (pe_fld (pv 21) rfl) (pe_fld (pv 13) rfl) (nomark _)) (pw_or1 (pt_cmpR (op_neD hr.units) (pe_fld (pv 21) rfl) (pe_fld (pv 13) rfl) (nomark _)))))) (pss_one (ps_ret pe_bl)) pss_nil)))))))))))))))))))))))))
    (pss_one (ps_ret pe_bl))), ?_⟩
  rw [show (cxOf CX0 P w K mg base ["_law_script", "_law_k", "_law_box_here", "_law_first", "_law_second", "_law_names_here", "_law_table", "_law_at", "_law_name", "_law_some", "_law_other", "_law_parts", "_law_rows_here", "_law_one", "_law_two", "_law_both", "_law_jobs", "_law_walks", "_law_back", "_law_fresh", "_law_turned", "_law_found"] "law" (defScope sLaw) f cdv A outer s H E).nox.K = K from rfl]
  refine ⟨_, rfl, sc, _, rfl, .inl hsc, _, _, rfl, _, _, rfl, ?_⟩
  rw [List.length_map]
  generalize hN : (if (if ((ns.length : Nat) : Int) < 4 then ((ns.length : Nat) : Int) else 4) > 2 then (if ((ns.length : Nat) : Int) < 4 then ((ns.length : Nat) : Int) else 4) else 2) = N
  have hN4 : 2 ≤ N ∧ N ≤ 4 := by rw [← hN]; split <;> split <;> omega
  refine ⟨N, rfl, by omega, by omega, ?_⟩
  refine for_rangeD (lo := 0) (n := N.toNat) (fun k σ H' => (∃ u1 u2 u3 u4 u5 u6 u7 u8 u9 u10 u11 u12 u13 u14 u15 u16 u17 u18 u19 u20 u21 : Option V, σ = [some (.ref sc), u1, u2, u3, u4, u5, u6, u7, u8, u9, u10, u11, u12, u13, u14, u15, u16, u17, u18, u19, u20, u21]) ∧ SqL K H' sc (ns.map V.int)) ⟨⟨_, _, _, _, _, _, _, _, _, _, _, _, _, _, _, _, _, _, _, _, _, rfl⟩, hsc⟩ (fun k σ H' D hk pv qD => ?_) (fun σ H' pv => q H')
  obtain ⟨⟨u1, u2, u3, u4, u5, u6, u7, u8, u9, u10, u11, u12, u13, u14, u15, u16, u17, u18, u19, u20, u21, rfl⟩, hs⟩ := pv
  have hk4 : k < 4 := by omega
  rw [Int.zero_add]
  -- the box, the first
  refine ⟨_, rfl, _, rfl, sc, ns, k, rfl, hs, h63, by omega, fun bx G1 s1 nb b1 => ?_⟩
  have S1 : Sc K G1 sc bx ns := sc_new hs nb s1
  refine ⟨_, rfl, _, rfl, bx, rfl, b1, fun d M1 A1 kl G2 LO W2 bt2 b2 nd2 => ?_⟩
  refine ⟨_, rfl, bx, 2, rfl, b2, by decide, by decide, fun r G3 r0 r1 bt3 b3 => ?_⟩
  obtain ⟨m, rfl⟩ : ∃ m : Nat, r = m := ⟨r.toNat, by omega⟩
  have W3 := W2.box b2 bt3
  refine ⟨_, _, rfl, rfl, bx, d, M1, A1, kl, 1 + m, rfl, b3, W3, LO, by omega, fun f1 ds1 G4 D1 bt4 b4 nf1 ef1 => ?_⟩
  have B14 : But [bx] G1 G4 := but_drop (((but_up bt2).trans (but_up bt3)).trans bt4) nd2
  -- the second
  refine ⟨MidA K sc ns k, ?_, fun σ2 G pv => ?_⟩
  · refine ⟨_, rfl, _, rfl, bx, rfl, b4, fun d2 M2 A2 kl2 G5 LO2 W5 bt5 b5 nd5 => ?_⟩
    refine ⟨_, rfl, bx, 2, rfl, b5, by decide, by decide, fun r G6 r0 r1 bt6 b6 => ?_⟩
    obtain ⟨m2, rfl⟩ : ∃ m : Nat, r = m := ⟨r.toNat, by omega⟩
    refine ⟨_, _, rfl, rfl, bx, d2, M2, A2, kl2, 1 + m2, rfl, b6, W5.box b5 bt6, LO2, by omega, fun f2 ds2 G7 D2 bt7 b7 nf2 ef2 => ?_⟩
    have B47 : But [bx] G4 G7 := but_drop (((but_up bt5).trans (but_up bt6)).trans bt7) nd5
    exact ⟨bx, f1, f2, M1, M2, ds1, ds2, _, _, _, _, _, _, _, _, _, _, _, _, _, _, _, _, _, rfl, S1.but (B14.trans B47), b7, B47 _ _ ef1 (n1 (texts_ne b4 ef1)), ef2, D1, D2⟩
  clear S1 B14 bt4 W3 W2 ef1 D1 b1 b2 b3 b4
  obtain ⟨bx, f1, f2, M1, M2, ds1, ds2, u5, u6, u7, u8, u9, u10, u11, u12, u13, u14, u15, u16, u17, u18, u19, u20, u21, rfl, FA0⟩ := pv
  -- the names, the table
  have l2 := FA0.d2.lens
  obtain ⟨sd2, R2⟩ := rd_drawn FA0.d2
  refine ⟨_, rfl, flat ds2, f2, rfl, FA0.e2, R2.run.ok, by omega, fun nh n0 n1' n2' n3 y0 y1 y2 y3 G8 s8 enh a0 a1 a2 a3 => ?_⟩
  have AA : ∀ j < 4, AllAt G8 (flat ds2) j (pick4 n0 n1' n2' n3 j) (pick4 y0 y1 y2 y3 j) := all4 a0 a1 a2 a3
  have enh' : G8 nh = some (.lst [.ref (pick4 n0 n1' n2' n3 0), .ref (pick4 n0 n1' n2' n3 1), .ref (pick4 n0 n1' n2' n3 2), .ref (pick4 n0 n1' n2' n3 3)]) := enh
  revert AA enh'
  generalize pick4 n0 n1' n2' n3 = n
  generalize pick4 y0 y1 y2 y3 = y
  intro AA enh'
  clear a0 a1 a2 a3 enh
  have NO : NmsOk ds2 y := nms_len FA0.d2 (fun j hj => (AA j hj).nd) fun j hj => (AA j hj).mem
  replace FA0 := FA0.same s8
  refine ⟨MidB K sc ns k, ?_, fun σ2 G pv => ?_⟩
  · refine asg1 (lc_dicts (K := K) [] (fun _ => True) nh n (fun j l => l = (y j).zip (frs (y j))) (fun R hR => ⟨_, rfl, nh, rfl, ⟨_, SqL.of enh'⟩, hR⟩) enh' K8.n0 (fun b hb => (nomatch hb)) trivial (fun _ _ _ _ _ => trivial) (fun tb t l G9 ntb b9 _ etb _ all => ?_) fun j hj G9 Kt b9 _ kq => ?_)
    · have s9 := same_of b9
      exact ⟨bx, f1, f2, M1, M2, ds1, ds2, tb, t, y, _, _, _, _, _, _, _, _, _, _, _, _, _, _, _, _, rfl, FA0.same s9, NO, ⟨etb, fun j hj => by rw [← (all j hj).2.2]; exact (all j hj).1⟩⟩
    · have Aj := AA j hj
      have ej := (same_of b9) _ _ Aj.e
      have l8 := NO.len j hj
      have fl := frs_len l8
      unfold tCB tCons tNil
      dsimp only [List.map]
      refine lc_pairs (walk_enum (K := K) (a := n j) (xs := (y j).map V.str)) ((y j).zip (frs (y j))) (by rw [List.length_zip, List.length_map]; omega) (by rw [List.length_map]; omega) (fun R hR => ⟨_, rfl, n j, _, rfl, SqL.of ej, hR⟩) (fun H' s => SqL.of (s _ _ ej)) (fun D ts G10 nD s10 eD pr => ?_) (fun i x G10 G11 p hp s10 yp => ?_)
      · refine ⟨D, ts, _, rfl, SqL.of eD, pr.kv, fun d nd => ?_⟩
        rw [merge_kv (by rw [fst_zip (Nat.le_of_eq fl)]; exact NO.nd j hj)]
        exact kq d _ _ (But.same (s10.trans (same_ext nd))) trivial upd_same K8.n0 rfl
      · obtain ⟨T, a, b, rfl, nT, rfl, ea, eb⟩ := yp
        obtain rfl := Option.some.inj ea
        replace eb : ((y j).map V.str)[i]? = some b := eb
        rw [List.getElem?_map] at eb
        have hi : i < (y j).length := by
          have := (List.getElem?_eq_some_iff.mp hp).1
          rw [List.length_zip] at this
          omega
        rw [List.getElem?_eq_getElem hi] at eb
        obtain rfl := Option.some.inj eb
        rw [frs_at hi l8] at hp
        obtain rfl := Option.some.inj hp
        refine ⟨same_ext nT, fun Kt kq => ⟨T, _, rfl, SqT.of upd_same, rfl, _, _, rfl, _, _, rfl, rfl, rfl, ?_⟩⟩
        have fa := fresh_at i (by omega)
        refine ⟨_, rfl, _, rfl, _, (i : Int), 97 + i, rfl, rfl, by show 8 ≤ sizeLine; decide, ?_, _, _, rfl, rfl, by show 2 + 1 ≤ sizeLine; decide, by show 2 ≤ sizeLine; decide, fun t nt => kq t _ (same_ext nt) upd_same⟩
        exact atI_nat (j := i) (by rw [Array.getElem?_toList]; exact fa.2)
  clear NO AA FA0 s8 enh' R2 l2
  obtain ⟨bx, f1, f2, M1, M2, ds1, ds2, tb, t, y, u5, u7, u8, u9, u10, u11, u12, u13, u14, u15, u16, u17, u18, u19, u20, u21, rfl, FA0, NO, TB⟩ := pv
  -- the second with other names
  have FR := frs_of NO
  have l1 := FA0.d1.lens
  have l2 := FA0.d2.lens
  obtain ⟨sd1, R1⟩ := rd_drawn FA0.d1
  obtain ⟨sd2, R2⟩ := rd_drawn FA0.d2
  have ok2 := (rd_both (a := ds1) (b := []) (by rw [List.append_nil]; exact FA0.d1) FA0.d2 FR).1
  refine ⟨_, rfl, _, rfl, flat ds2, f2, tb, _, t 0, t 1, t 2, t 3, _, _, _, _, rfl, FA0.e2, R2.run.ok, fun r hr => ok2 _ (List.mem_map_of_mem hr), by omega, TB.tab, fun ot G1 s1 not e1 => ?_⟩
  replace FA0 := FA0.same s1
  replace TB := TB.same s1
  refine ⟨MidC K sc ns k, ?_, fun σ2 G2 pv => ?_⟩
  · refine ⟨_, rfl, flat ds1, sd1, _, _, f1, rfl, FA0.e1, R1, by omega, fun G2 s2 => ⟨_, rfl, iteF ?_⟩⟩
    exact ⟨bx, f1, f2, M1, M2, ds1, ds2, tb, t, y, ot, u5, _, _, _, _, _, _, _, _, _, _, _, _, _, _, rfl, FA0.same s2, NO, TB.same s2, s2 _ _ e1⟩
  clear R1 R2 l1 l2 ok2 FR FA0 NO TB s1 e1 not
  obtain ⟨bx, f1, f2, M1, M2, ds1, ds2, tb, t, y, ot, u5, u7, u8, u9, u11, u12, u13, u14, u15, u16, u17, u18, u19, u20, u21, rfl, FA0, NO, TB, eo⟩ := pv
  -- the definitions, the place
  have l1 := FA0.d1.lens
  have l2 := FA0.d2.lens
  obtain ⟨sd1, R1⟩ := rd_drawn FA0.d1
  refine ⟨_, rfl, ds1, f1, rfl, FA0.e1, R1.run.ok, defs_nodef FA0.d1.df, by omega, fun pl as G3 gr => ⟨by show 0 ≤ sizeLine; decide, fun rh nrh => ⟨_, _, rfl, ?_⟩⟩⟩
  have P3 : Paired (fun (x : Addr) (g : List Row) => G3 x = some (rtexts g)) as (ds1.map Def.rows) := getElem?_at gr.len fun i x g h1 h2 => (gr.at_ i g x h2 h1).1
  have epl := gr.e_fl
  have la : as.length = ds1.length := by rw [gr.len, List.length_map]
  have FA3 := (FA0.same gr.sm).same (same_ext (o := .lst []) nrh)
  have TB3 := (TB.same gr.sm).same (same_ext (o := .lst []) nrh)
  have eo3 := kn (u := .lst []) (gr.sm _ _ eo) nrh
  have epl3 := kn (u := .lst []) epl nrh
  have P3' : Paired (fun (x : Addr) (g : List Row) => upd G3 rh (.lst []) x = some (rtexts g)) as (ds1.map Def.rows) := paired_imp P3 fun x g e => kn e nrh
  have erh : upd G3 rh (.lst []) rh = some (rtexts ([] : List Row)) := upd_same
  have ne3 : ∀ {x : Addr} {o : HO}, G3 x = some o → x ≠ rh := fun e => ne_of_none e nrh
  have rpl : pl ≠ rh := ne3 epl
  have rot : ot ≠ rh := ne3 (gr.sm _ _ eo)
  have ras : ∀ x ∈ as, x ≠ rh := fun x hx => by
    obtain ⟨i, hi, e⟩ := List.getElem_of_mem hx
    have hi' : i < (ds1.map Def.rows).length := by rw [List.length_map]; omega
    exact ne3 (paired_at P3 i x _ (by rw [List.getElem?_eq_getElem hi, e]) (List.getElem?_eq_getElem hi'))
  have FAo := FA0.same gr.sm
  have TBo := TB.same gr.sm
  have eoo := gr.sm _ _ eo
  have b34 : But [bx, rh] G3 (upd G3 rh (.lst [])) := But.same (same_ext nrh)
  clear P3 epl ne3 FA0 TB eo gr
  revert FA3 TB3 eo3 epl3 P3' erh b34
  generalize upd G3 rh (.lst []) = G4
  intro FA3 TB3 eo3 epl3 P3' erh b34
  refine ⟨_, rfl, _, rfl, pl, _, rfl, .inl (SqL.of epl3), _, _, rfl, rfl, bx, _, rfl, FA3.b, by omega, by rw [List.length_map]; omega, fun r G5 r0 r1 b5 hb5 => ?_⟩
  obtain ⟨m, rfl⟩ : ∃ m : Nat, r = m := ⟨r.toNat, by omega⟩
  have bl : ∀ {x : Addr} {xs : List Addr}, G4 x = some (.lst (xs.map V.ref)) → x ≠ bx := fun {x xs} e z => by
    obtain ⟨i, j, k, e'⟩ := FA3.b
    rw [z, e'] at e
    cases xs <;> cases e
  have epl5 := b5 _ _ epl3 (n1 (bl epl3))
  have P5 : Paired (fun (x : Addr) (g : List Row) => G5 x = some (rtexts g)) as (ds1.map Def.rows) := paired_imp P3' fun x g e => b5 _ _ e (n1 (texts_ne FA3.b e))
  have eo5 := b5 _ _ eo3 (n1 (texts_ne FA3.b eo3))
  have erh5 := b5 _ _ erh (n1 (texts_ne FA3.b erh))
  have FA5 := FA3.but b5 hb5
  have TB5 := TB3.but FA3.b b5
  clear TB3 eo3 epl3 P3' erh bl
  refine ⟨MidD K sc ns k, ?_, fun σ2 G pv => ?_⟩
  · refine ⟨_, rfl, _, rfl, _, rfl, pl, _, rfl, SqL.of epl5, fun x1 nx1 => ?_⟩
    rw [cut_to, ← List.map_take]
    refine ⟨_, rfl, by show 1 ≤ sizeLine; decide, fun x2 nx2 => ⟨x1, x2, _, _, rfl, rfl, kn upd_same nx2, upd_same, ?_, fun x3 nx3 => ?_⟩⟩
    · rw [List.length_map, List.length_take, sizeLine_eq]; show _ + 1 ≤ _; omega
    refine ⟨_, rfl, _, rfl, _, rfl, pl, _, rfl, SqL.of (kn (kn (kn epl5 nx1) nx2) nx3), fun x4 nx4 => ?_⟩
    rw [cut_from, ← List.map_drop]
    refine ⟨x3, x4, _, _, rfl, rfl, kn upd_same nx4, upd_same, ?_, fun x5 nx5 => ?_⟩
    · rw [List.length_append, List.length_map, List.length_map, List.length_take, List.length_drop, sizeLine_eq]; show _ + 1 + _ ≤ _; omega
    have eL : (as.take m).map V.ref ++ [V.ref ot] ++ (as.drop m).map V.ref = (as.take m ++ ([ot] ++ as.drop m)).map V.ref := by simp
    rw [eL]
    refine ⟨x5, rfl, ⟨_, SqL.of upd_same⟩, ?_⟩
    have s6 : Same G5 (upd (upd (upd (upd (upd G5 x1 (.lst ((as.take m).map V.ref))) x2 (.lst [V.ref ot])) x3 (.lst ((as.take m).map V.ref ++ [V.ref ot]))) x4 (.lst ((as.drop m).map V.ref))) x5 (.lst ((as.take m ++ ([ot] ++ as.drop m)).map V.ref))) := ((((same_ext nx1).trans (same_ext nx2)).trans (same_ext nx3)).trans (same_ext nx4)).trans (same_ext nx5)
    have e5 : (upd (upd (upd (upd (upd G5 x1 (.lst ((as.take m).map V.ref))) x2 (.lst [V.ref ot])) x3 (.lst ((as.take m).map V.ref ++ [V.ref ot]))) x4 (.lst ((as.drop m).map V.ref))) x5 (.lst ((as.take m ++ ([ot] ++ as.drop m)).map V.ref))) x5 = some (.lst ((as.take m ++ ([ot] ++ as.drop m)).map V.ref)) := upd_same
    have r5 : x5 ≠ rh := Ne.symm (ne_of_none (kn (kn (kn (kn erh5 nx1) nx2) nx3) nx4) nx5)
    clear nx1 nx2 nx3 nx4 nx5
    revert s6 e5
    generalize (upd (upd (upd (upd (upd G5 x1 (.lst ((as.take m).map V.ref))) x2 (.lst [V.ref ot])) x3 (.lst ((as.take m).map V.ref ++ [V.ref ot]))) x4 (.lst ((as.drop m).map V.ref))) x5 (.lst ((as.take m ++ ([ot] ++ as.drop m)).map V.ref))) = G6
    intro s6 e5
    have eM : (ds1.map Def.rows).take m = (ds1.take m).map Def.rows ∧ (ds1.map Def.rows).drop m = (ds1.drop m).map Def.rows := ⟨List.map_take.symm, List.map_drop.symm⟩
    have PT := paired_take P5 m
    rw [eM.1, eM.2] at PT
    have P6 := paired_imp (paired_app PT.1 (paired_app (.cons eo5 .nil) PT.2)) fun x g e => s6 _ _ e
    have rbs : ∀ x ∈ as.take m ++ ([ot] ++ as.drop m), x ≠ rh := fun x hx => by
      rcases List.mem_append.mp hx with hx | hx
      · exact ras x (List.mem_of_mem_take hx)
      · rcases List.mem_append.mp hx with hx | hx
        · rw [List.mem_singleton.mp hx]; exact rot
        · exact ras x (List.mem_of_mem_drop hx)
    have fl : ((ds1.take m).map Def.rows ++ ([(flat ds2).map (Row.ren (tabF fun j => (y j).zip (frs (y j))))] ++ (ds1.drop m).map Def.rows)).flatten = flat (ds1.take m) ++ ((flat ds2).map (Row.ren (tabF fun j => (y j).zip (frs (y j)))) ++ flat (ds1.drop m)) := by
      unfold flat
      simp
    have fll : (flat (ds1.take m) ++ ((flat ds2).map (Row.ren (tabF fun j => (y j).zip (frs (y j)))) ++ flat (ds1.drop m))).length ≤ 80 := by
      have z := congrArg List.length (flat_app (ds1.take m) (ds1.drop m))
      rw [List.take_append_drop, List.length_append] at z
      simp only [List.length_append, List.length_map]
      omega
    have erh6 := s6 _ _ erh5
    have FA6 := FA5.same s6
    have TB6 := TB5.same s6
    have eo6 := s6 _ _ eo5
    rw [← fl] at fll
    have plen := paired_len P6
    revert P6 rbs fl fll plen e5
    generalize as.take m ++ ([ot] ++ as.drop m) = bs
    generalize (ds1.take m).map Def.rows ++ ([(flat ds2).map (Row.ren (tabF fun j => (y j).zip (frs (y j))))] ++ (ds1.drop m).map Def.rows) = Gs
    intro e5 P6 rbs fl fll plen
    refine for_it (walk_list (K := K) (a := x5) (xs := bs.map V.ref)) (fun i σ H' => (∃ u8 u9 : Option V, σ = [some (.ref sc), some (.int k), some (.ref bx), some (.ref f1), some (.ref f2), u5, some (.ref tb), some (.int m), u8, u9, some (.ref ot), some (.ref pl), some (.ref rh), u13, u14, u15, u16, u17, u18, u19, u20, u21]) ∧ But [rh] G6 H' ∧ H' rh = some (rtexts (Gs.take i).flatten)) ⟨⟨_, _, rfl⟩, But.refl, erh6⟩ (fun i σ H' _ pv => SqL.of (pv.2.1 _ _ e5 (n1 r5))) (fun i x σ H1 H2 hi pv yp => ?_) (fun σ H' pv => ?_)
    · obtain ⟨⟨u8, u9, rfl⟩, bt, er⟩ := pv
      obtain ⟨rfl, hx⟩ := yp
      rw [List.length_map] at hi
      rw [List.getElem?_map, List.getElem?_eq_getElem hi] at hx
      obtain rfl := Option.some.inj hx
      have hg : i < Gs.length := by omega
      have eb := bt _ _ (paired_at P6 i _ _ (List.getElem?_eq_getElem hi) (List.getElem?_eq_getElem hg)) (n1 (rbs _ (List.getElem_mem hi)))
      obtain ⟨z1, z2⟩ := (flat_take Gs i).2 _ (List.getElem?_eq_getElem hg)
      refine ⟨_, rfl, .inl ⟨rfl, _, SqL.of er⟩, _, rfl, rh, _, _, _, rfl, rfl, er, eb, ?_, ?_⟩
      · rw [List.length_map, List.length_map, sizeLine_eq]; omega
      · refine ⟨⟨_, _, rfl⟩, bt.put m1, ?_⟩
        rw [upd_same, z2]
        unfold rtexts
        rw [List.map_append]
    · obtain ⟨⟨u8, u9, rfl⟩, bt, er⟩ := pv
      rw [List.length_map, plen, List.take_length, fl] at er
      have b3 : But [bx] G3 H' := but_drop ((b34.trans (but_up b5)).trans ((But.same s6).trans (bt.mono fun c hc => by rw [List.mem_singleton.mp hc]; exact List.mem_cons_of_mem _ List.mem_cons_self))) nrh
      have hb7 : BoxAt H' bx := FA6.b.but bt (n1 (FAo.b.ne nrh))
      exact ⟨bx, f1, f2, M1, M2, ds1.take m, ds1.drop m, ds2, tb, t, y, ot, rh, u5, _, _, _, _, _, _, _, _, _, _, _, _, _, rfl, by rw [List.take_append_drop]; exact FAo.but b3 hb7, NO, TBo.but FAo.b b3, b3 _ _ eoo (n1 (texts_ne FAo.b eoo)), er⟩
  · obtain ⟨bx, f1, f2, M1, M2, a, b, ds2, tb, t, y, ot, rh, u5, u7, u8, u9, u11, u13, u14, u15, u16, u17, u18, u19, u20, u21, rfl, FA0, NO, TB, eo, er⟩ := pv
    -- three programs are read
    obtain ⟨sd1, R1⟩ := rd_drawn FA0.d1
    obtain ⟨sd2, R2⟩ := rd_drawn FA0.d2
    obtain ⟨_, sd3, R3⟩ := rd_both FA0.d1 FA0.d2 (frs_of NO)
    have l1 := R1.len
    have l2 := R2.len
    have l3 := R3.len
    refine ⟨rfl, ⟨_, rfl⟩, _, rfl, "\n", f1, _, rfl, rfl, .inl (sq_texts FA0.e1), rows_small R1.run.ok (by omega), ?_⟩
    rw [TL.join_eq]
    dsimp only [tNil]
    refine pread_ok R1 cc cp fun p1 js1 ws1 gs1 G1 q1 pg1 => ?_
    refine ⟨rfl, ⟨_, rfl⟩, _, rfl, "\n", f2, _, rfl, rfl, .inl (sq_texts (q1 _ _ FA0.e2)), rows_small R2.run.ok (by omega), ?_⟩
    rw [TL.join_eq]
    dsimp only [tNil]
    refine pread_ok R2 cc cp fun p2 js2 ws2 gs2 G2 q2 pg2 => ⟨_, _, rfl, ?_⟩
    refine ⟨MidE K CP sc ns k, ?_, fun σ2 G pv => ?_⟩
    · refine ⟨rfl, ⟨_, rfl⟩, _, rfl, "\n", rh, _, rfl, rfl, .inl (sq_texts (q2 _ _ (q1 _ _ er))), rows_small R3.run.ok (by omega), ?_⟩
      rw [TL.join_eq]
      dsimp only [tNil]
      refine pread_ok R3 cc cp fun p3 js3 ws3 gs3 G3 q3 pg3 => ?_
      have q := (q1.trans q2).trans q3
      exact ⟨bx, f1, f2, M1, M2, a, b, ds2, tb, t, y, ot, p1, p2, p3, sd1, sd2, sd3, js1, ws1, gs1, js2, ws2, gs2, js3, ws3, gs3, u5, _, _, _, _, _, _, _, _, _, _, _, rfl, FA0.same q, NO, TB.same q, q _ _ eo, pg1.same (q2.trans q3), pg2.same q3, pg3⟩
    clear R1 R2 R3 l1 l2 l3 pg1 pg2 q1 q2 FA0 NO TB eo er
    obtain ⟨bx, f1, f2, M1, M2, a, b, ds2, tb, t, y, ot, p1, p2, p3, s1, s2, s3, j1, w1, g1, j2, w2, g2, j3, w3, g3, u5, u7, u8, u9, u11, u12, u16, u17, u18, u19, u20, u21, rfl, FA0, NO, TB, eo, pg1, pg2, pg3⟩ := pv
    -- jobs, walks
    obtain ⟨dx1, tj1, tw1, pj1, pw1, pz1, e11, e12, e13, e14⟩ := id pg1.a
    obtain ⟨dx2, tj2, tw2, pj2, pw2, pz2, e21, e22, e23, e24⟩ := id pg2.a
    obtain ⟨dx3, tj3, tw3, pj3, pw3, pz3, e31, e32, e33, e34⟩ := id pg3.a
    have m1j : j1.Perm (jnames (a ++ b)) := pg1.r.jobs ▸ pg1.o.j
    have m1w : w1.Perm (wnames (a ++ b)) := pg1.r.walks ▸ pg1.o.w
    have m2j : j2.Perm (jnames ds2) := pg2.r.jobs ▸ pg2.o.j
    have m2w : w2.Perm (wnames ds2) := pg2.r.walks ▸ pg2.o.w
    have m3j := pg3.r.jobs ▸ pg3.o.j
    have m3w := pg3.r.walks ▸ pg3.o.w
    have L1 := FA0.d1.lens
    have L2 := FA0.d2.lens
    have c1j := m1j.length_eq
    have c1w := m1w.length_eq
    have c2j := m2j.length_eq
    have c2w := m2w.length_eq
    have fz : ∀ j < 4, ((y j).zip (frs (y j))).map Prod.fst = y j := fun j hj => fst_zip (Nat.le_of_eq (frs_len (NO.len j hj)))
    have i2j : ∀ x ∈ j2, x ∈ ((y 0).zip (frs (y 0))).map Prod.fst := fun x hx => by rw [fz 0 (by decide)]; exact (NO.mem 0 (by decide) x).mpr (FA0.d2.names0.mpr (m2j.mem_iff.mp hx))
    have i2w : ∀ x ∈ w2, x ∈ ((y 1).zip (frs (y 1))).map Prod.fst := fun x hx => by rw [fz 1 (by decide)]; exact (NO.mem 1 (by decide) x).mpr (FA0.d2.names1.mpr (m2w.mem_iff.mp hx))
    refine seq_asg (lc_tupF (K := K) pj2 j2 (tabF (fun j => (y j).zip (frs (y j))) 0) (fun R hR => ⟨_, rfl, p2, CP, dx2, _, _, rfl, e21, OP.cl, OP.na _ (by decide), rfl, pj2, rfl, ⟨_, SqT.of e22⟩, hR⟩) e22 (by omega) (fun jl G1 njl q1 ejl => ?_) (fun x H' Q' hx sx kq => ⟨_, rfl, tb, _, 0, _, rfl, rfl, SqL.of (sx _ _ TB.e), atI_nat (j := 0) rfl, _, rfl, t 0, _, rfl, dg (sx _ _ (TB.d 0 (by decide))) (tab_in (l := fun j => (y j).zip (frs (y j))) (j := 0) (i2j x hx)), kq⟩))
    refine seq_asg (lc_tupF (K := K) pw2 w2 (tabF (fun j => (y j).zip (frs (y j))) 1) (fun R hR => ⟨_, rfl, p2, CP, dx2, _, _, rfl, q1 _ _ e21, OP.cl, OP.na _ (by decide), rfl, pw2, rfl, ⟨_, SqT.of (q1 _ _ e23)⟩, hR⟩) (q1 _ _ e23) (by omega) (fun wl G2 nwl q2 ewl => ?_) (fun x H' Q' hx sx kq => ⟨_, rfl, tb, _, 1, _, rfl, rfl, SqL.of (sx _ _ (q1 _ _ TB.e)), atI_nat (j := 1) rfl, _, rfl, t 1, _, rfl, dg (sx _ _ (q1 _ _ (TB.d 1 (by decide)))) (tab_in (l := fun j => (y j).zip (frs (y j))) (j := 1) (i2w x hx)), kq⟩))
    have q12 := q1.trans q2
    have ejl2 := q2 _ _ ejl
    have FR := frs_of NO
    have nmF : ∀ {j : Nat}, j < 4 → ∀ x, Nm x → Nm (tabF (fun j => (y j).zip (frs (y j))) j x) := fun hj x hx => FR.nm (L := M2) hj hx
    have nm3j : ∀ x ∈ j3, Nm x := fun x hx => by
      have z := m3j.mem_iff.mp hx
      have n1 := FA0.d1.nmj
      rw [jnames_app] at n1
      rcases List.mem_append.mp z with z | z
      · exact (n1 x (List.mem_append_left _ z)).nm
      · rcases List.mem_append.mp z with z | z
        · obtain ⟨u, hu, rfl⟩ := List.mem_map.mp z
          exact nmF (by decide) _ (FA0.d2.nmj u hu).nm
        · exact (n1 x (List.mem_append_right _ z)).nm
    have nm3w : ∀ x ∈ w3, Nm x := fun x hx => by
      have z := m3w.mem_iff.mp hx
      have n1 := FA0.d1.nmw
      rw [wnames_app] at n1
      rcases List.mem_append.mp z with z | z
      · exact (n1 x (List.mem_append_left _ z)).nm
      · rcases List.mem_append.mp z with z | z
        · obtain ⟨u, hu, rfl⟩ := List.mem_map.mp z
          exact nmF (by decide) _ (FA0.d2.nmw u hu).nm
        · exact (n1 x (List.mem_append_right _ z)).nm
    have pj : (jnames a ++ ((jnames ds2).map (tabF (fun j => (y j).zip (frs (y j))) 0) ++ jnames b)).Perm (j1 ++ j2.map (tabF (fun j => (y j).zip (frs (y j))) 0)) := mid_perm (jnames_app a b ▸ m1j) (m2j.map _)
    have pw : (wnames a ++ ((wnames ds2).map (tabF (fun j => (y j).zip (frs (y j))) 1) ++ wnames b)).Perm (w1 ++ w2.map (tabF (fun j => (y j).zip (frs (y j))) 1)) := mid_perm (wnames_app a b ▸ m1w) (m2w.map _)
    refine ⟨_, rfl, p3, CP, dx3, _, _, rfl, q12 _ _ e31, OP.cl, OP.na _ (by decide), rfl, _, rfl, p1, CP, dx1, _, _, rfl, q12 _ _ e11, OP.cl, OP.na _ (by decide), rfl, pj1, _, rfl, .inr (SqT.of (q12 _ _ e12)), fun l1 nl1 => ⟨_, rfl, l1, jl, _, _, rfl, rfl, upd_same, kn ejl2 nl1, ?_, fun l2 nl2 => ⟨l2, j1 ++ j2.map (tabF (fun j => (y j).zip (frs (y j))) 0), rfl, SqL.of (by rw [upd_same, List.map_append]), ?_, fun zs l3 pm so nl3 => ?_⟩⟩⟩
    · rw [List.length_map, List.length_map, List.length_map, sizeLine_eq]; omega
    · rw [List.length_append, List.length_map]; omega
    obtain rfl : j3 = zs := sort_uniq pg3.o.sj so (m3j.trans (pj.trans pm.symm))
    refine ⟨l3, _, rfl, .inl ⟨SqL.of upd_same, fun l4 nl4 => ?_⟩⟩
    refine ⟨.tuple (j3.map PyData.str), .tuple (j3.map PyData.str), .tup (SqT.of (kn (kn (kn (kn (q12 _ _ e32) nl1) nl2) nl3) nl4)) (dpS j3), .tup (SqT.of upd_same) (dpS j3), shapedT (strs_nm nm3j), shapedT (strs_nm nm3j), ?_⟩
    rw [eqv_strs]
    refine ⟨_, rfl, ifF rfl ?_⟩
    have q5 := q12.trans ((((same_ext (o := .lst (j1.map V.str)) nl1).trans (same_ext (o := .lst (j1.map V.str ++ (j2.map (tabF (fun j => (y j).zip (frs (y j))) 0)).map V.str)) nl2)).trans (same_ext (o := .lst (j3.map V.str)) nl3)).trans (same_ext (o := .tup (j3.map V.str)) nl4))
    have ewl5 := kn (u := .tup (j3.map V.str)) (kn (u := .lst (j3.map V.str)) (kn (u := .lst (j1.map V.str ++ (j2.map (tabF (fun j => (y j).zip (frs (y j))) 0)).map V.str)) (kn (u := .lst (j1.map V.str)) ewl nl1) nl2) nl3) nl4
    clear nl1 nl2 nl3 nl4
    revert q5 ewl5
    generalize upd (upd (upd (upd G2 l1 (.lst (j1.map V.str))) l2 (.lst (j1.map V.str ++ (j2.map (tabF (fun j => (y j).zip (frs (y j))) 0)).map V.str))) l3 (.lst (j3.map V.str))) l4 (.tup (j3.map V.str)) = G5
    intro q5 ewl5
    refine ⟨_, rfl, p3, dx3, _, rfl, q5 _ _ e31, p3, dx3, _, _, rfl, q5 _ _ e31, rfl, pg3.r.ne, pg3.r.len, pg3.r.run.ok, fun G6 q6 => ⟨_, rfl, by omega, by have := pg3.r.len; omega, ?_⟩⟩
    refine ⟨_, rfl, p1, dx1, _, rfl, q6 _ _ (q5 _ _ e11), p1, dx1, _, _, rfl, q6 _ _ (q5 _ _ e11), rfl, pg1.r.ne, pg1.r.len, pg1.r.run.ok, fun G7 q7 => ⟨_, rfl, by omega, by have := pg1.r.len; omega, ?_⟩⟩
    refine ⟨_, rfl, p2, dx2, _, rfl, q7 _ _ (q6 _ _ (q5 _ _ e21)), p2, dx2, _, _, rfl, q7 _ _ (q6 _ _ (q5 _ _ e21)), rfl, pg2.r.ne, pg2.r.len, pg2.r.run.ok, fun G8 q8 => ⟨_, rfl, by omega, by have := pg2.r.len; omega, ?_⟩⟩
    have elen : (((flat a ++ ((flat ds2).map (Row.ren (tabF fun j => (y j).zip (frs (y j)))) ++ flat b)).length : Nat) : Int) = ((flat (a ++ b)).length : Nat) + ((flat ds2).length : Nat) := by
      rw [flat_app]
      simp only [List.length_append, List.length_map]
      omega
    refine ⟨_, _, rfl, rfl, rfl, _, rfl, ifF ?_ ?_⟩
    · rw [elen]; simp
    have q9 := ((q5.trans q6).trans q7).trans q8
    have ewl9 := q8 _ _ (q7 _ _ (q6 _ _ ewl5))
    clear q5 q6 q7 q8 ewl5
    -- the walks
    refine ⟨MidE K CP sc ns k, ?_, fun σ2 G pv => ?_⟩
    · refine ⟨_, rfl, p3, CP, dx3, _, _, rfl, q9 _ _ e31, OP.cl, OP.na _ (by decide), rfl, _, rfl, p1, CP, dx1, _, _, rfl, q9 _ _ e11, OP.cl, OP.na _ (by decide), rfl, pw1, _, rfl, .inr (SqT.of (q9 _ _ e13)), fun l1 nl1 => ⟨_, rfl, l1, wl, _, _, rfl, rfl, upd_same, kn ewl9 nl1, ?_, fun l2 nl2 => ⟨l2, w1 ++ w2.map (tabF (fun j => (y j).zip (frs (y j))) 1), rfl, SqL.of (by rw [upd_same, List.map_append]), ?_, fun zs l3 pm so nl3 => ?_⟩⟩⟩
      · rw [List.length_map, List.length_map, List.length_map, sizeLine_eq]; omega
      · rw [List.length_append, List.length_map]; omega
      obtain rfl : w3 = zs := sort_uniq pg3.o.sw so (m3w.trans (pw.trans pm.symm))
      refine ⟨l3, _, rfl, .inl ⟨SqL.of upd_same, fun l4 nl4 => ?_⟩⟩
      refine ⟨.tuple (w3.map PyData.str), .tuple (w3.map PyData.str), .tup (SqT.of (kn (kn (kn (kn (q9 _ _ e33) nl1) nl2) nl3) nl4)) (dpS w3), .tup (SqT.of upd_same) (dpS w3), shapedT (strs_nm nm3w), shapedT (strs_nm nm3w), ?_⟩
      rw [eqv_strs]
      refine ⟨_, rfl, ifF rfl ?_⟩
      have qF := q9.trans ((((same_ext (o := .lst (w1.map V.str)) nl1).trans (same_ext (o := .lst (w1.map V.str ++ (w2.map (tabF (fun j => (y j).zip (frs (y j))) 1)).map V.str)) nl2)).trans (same_ext (o := .lst (w3.map V.str)) nl3)).trans (same_ext (o := .tup (w3.map V.str)) nl4))
      exact ⟨bx, f1, f2, M1, M2, a, b, ds2, tb, t, y, ot, p1, p2, p3, s1, s2, s3, j1, w1, g1, j2, w2, g2, j3, w3, g3, u5, _, _, _, _, _, _, _, _, _, _, _, rfl, FA0.same qF, NO, TB.same qF, qF _ _ eo, pg1.same qF, pg2.same qF, pg3.same qF⟩
    clear FA0 NO TB eo pg1 pg2 pg3 e11 e12 e13 e14 e21 e22 e23 e24 e31 e32 e33 e34 m1j m1w m2j m2w m3j m3w L1 L2 c1j c1w c2j c2w fz i2j i2w q1 ejl q2 ewl q12 ejl2 FR nmF nm3j nm3w pj pw q9 ewl9 elen
    obtain ⟨bx, f1, f2, M1, M2, a, b, ds2, tb, t, y, ot, p1, p2, p3, s1, s2, s3, j1, w1, g1, j2, w2, g2, j3, w3, g3, u5, u7, u8, u9, u11, u12, u16, u17, u18, u19, u20, u21, rfl, FA0, NO, TB, eo, pg1, pg2, pg3⟩ := pv
    -- the names back
    refine seq_asg (lc_dicts (K := K) [] (fun _ => True) tb t (fun j l => l = (frs (y j)).zip (y j)) (fun R hR => ⟨_, rfl, tb, rfl, ⟨_, SqL.of TB.e⟩, hR⟩) TB.e K8.n0 (fun b hb => (nomatch hb)) trivial (fun _ _ _ _ _ => trivial) (fun bk t' l G1 nbk b1 _ ebk _ all => ?_) fun j hj G1 Kt b1 _ kq => ?_)
    · have q1 := same_of b1
      have TK : TbAt G1 bk t' (fun j => (frs (y j)).zip (y j)) := ⟨ebk, fun j hj => by rw [← (all j hj).2.2]; exact (all j hj).1⟩
      have FB := ren_back (frs_back NO)
      have ok2 := (rd_both FA0.d1 FA0.d2 (frs_of NO)).1
      have lB := pg2.r.len
      refine ⟨MidG K CP sc ns k, ?_, fun σ2 G pv => ?_⟩
      · refine ⟨rfl, ⟨_, rfl⟩, _, rfl, _, rfl, _, ot, bk, _, t' 0, t' 1, t' 2, t' 3, _, _, _, _, rfl, q1 _ _ eo, ok2, fun r hr => pg2.r.run.ok _ (by rw [← FB]; exact List.mem_map_of_mem hr), by rw [List.length_map]; omega, TK.tab, fun r G2 q2 nr er => ?_⟩
        rw [FB] at er
        refine ⟨"\n", r, _, rfl, rfl, .inl (sq_texts er), rows_small pg2.r.run.ok (by omega), ?_⟩
        rw [TL.join_eq]
        dsimp only [tNil]
        refine pread_ok pg2.r cc cp fun p4 j4 w4 g4 G3 q3 pg4 => ?_
        have qF := (q1.trans q2).trans q3
        obtain ⟨dx2, _, _, _, _, _, e21, _⟩ := id (pg2.same qF).a
        obtain ⟨dx4, _, _, _, _, _, e41, _⟩ := id pg4.a
        refine ⟨_, rfl, p4, p2, dx4, dx2, _, _, rfl, rfl, e41, e21, p4, p2, dx4, dx2, _, _, _, _, rfl, e41, e21, rfl, rfl, _, rfl, _, rfl, ifF (by simp) ?_⟩
        exact ⟨bx, f1, f2, M1, M2, a ++ b, ds2, p1, s1, j1, w1, g1, _, _, _, _, _, _, _, _, _, _, _, _, _, _, _, _, rfl, FA0.same qF, pg1.same qF⟩
      clear TK FB ok2 lB ebk all b1 q1 FA0 NO TB eo pg1 pg2 pg3
      obtain ⟨bx, f1, f2, M1, M2, ds1, ds2, p1, s1, j1, w1, g1, u5, u6, u7, u8, u9, u10, u11, u12, u14, u15, u16, u17, u18, u19, u20, u21, rfl, FA0, pg1⟩ := pv
      -- the first one's names, exchanged
      have l1 := FA0.d1.lens
      refine ⟨_, rfl, flat ds1, f1, rfl, FA0.e1, pg1.r.run.ok, by omega, fun so n0 n1' n2' n3 y0 y1 y2 y3 G1 q1 eso a0 a1 a2 a3 => ?_⟩
      have AA : ∀ j < 4, AllAt G1 (flat ds1) j (pick4 n0 n1' n2' n3 j) (pick4 y0 y1 y2 y3 j) := all4 a0 a1 a2 a3
      have eso' : G1 so = some (.lst [.ref (pick4 n0 n1' n2' n3 0), .ref (pick4 n0 n1' n2' n3 1), .ref (pick4 n0 n1' n2' n3 2), .ref (pick4 n0 n1' n2' n3 3)]) := eso
      revert AA eso'
      generalize pick4 n0 n1' n2' n3 = n
      generalize pick4 y0 y1 y2 y3 = z
      intro AA eso'
      clear a0 a1 a2 a3 eso
      have NZ : NmsOk ds1 z := nms_len FA0.d1 (fun j hj => (AA j hj).nd) fun j hj => (AA j hj).mem
      replace FA0 := FA0.same q1
      replace pg1 := pg1.same q1
      have hbx := FA0.b
      have sox : so ≠ bx := fun e => by
        obtain ⟨i, j, k, e'⟩ := hbx
        rw [e, e'] at eso'
        cases eso'
      have njx : ∀ j < 4, n j ≠ bx := fun j hj => box_strs hbx (AA j hj).e
      dsimp only [gName]
      refine seq_asg (lc_dicts (K := K) [bx] (fun H => BoxAt H bx) so n (fun j l => ∃ p : List Str, p.Perm (z j) ∧ l = (z j).zip p) (fun R hR => ⟨_, rfl, so, rfl, ⟨_, SqL.of eso'⟩, hR⟩) eso' (n1 sox) (fun b hb => by rw [List.mem_singleton.mp hb]; obtain ⟨i, j, k, e'⟩ := hbx; exact ⟨_, e'⟩) hbx (fun H1 D o h1 nD => h1.oth (hbx.ne nD)) (fun tu t l G2 ntu b2 hb2 etu _ all => ?_) fun j hj G2 Kt b2 hb2 kq => ?_)
      · refine ⟨MidH K CP sc ns k, ?_, fun σ2 G3 pv => ?_⟩
        · obtain ⟨ps1, pp1, el1⟩ := (all 1 (by decide)).2.2
          obtain ⟨ps2, pp2, el2⟩ := (all 2 (by decide)).2.2
          obtain ⟨ps3, pp3, el3⟩ := (all 3 (by decide)).2.2
          have e0 := b2 _ _ (AA 0 (by decide)).e (n1 (njx 0 (by decide)))
          have eso2 := b2 _ _ eso' (n1 sox)
          have z8 := NZ.len 0 (by decide)
          have zl : ((z 0).zip (z 0)).length = (z 0).length := by rw [List.length_zip]; omega
          show tAsg _ _ _ _ _
          unfold tAsg tCB tCons tNil
          dsimp only [List.map]
          refine lc_pairs (walk_list (K := K) (a := n 0) (xs := (z 0).map V.str)) ((z 0).zip (z 0)) (by rw [zl, List.length_map]) (by rw [List.length_map]; omega) (fun R hR => ⟨_, rfl, so, _, 0, _, rfl, rfl, SqL.of eso2, atI_nat (j := 0) rfl, n 0, rfl, ⟨_, SqL.of e0⟩, hR⟩) (fun H' s => SqL.of (s _ _ e0)) (fun D ts G3 nD q3 eD pr => ?_) (fun i x G3 G4 p hp q3 yp => ?_)
          · refine ⟨D, ts, _, rfl, SqL.of eD, pr.kv, fun d nd => ?_⟩
            rw [merge_kv (by rw [fst_zip (Nat.le_refl _)]; exact NZ.nd 0 (by decide))]
            have etu3 := kn (u := .dK (kvOf ((z 0).zip (z 0)))) (q3 _ _ etu) nd
            refine ⟨_, rfl, tu, _, 0, 0, rfl, rfl, etu3, rfl, ?_⟩
            have bF := (b2.trans (But.same (q3.trans (same_ext (o := .dK (kvOf ((z 0).zip (z 0)))) nd)))).put0 (o := .lst ([V.ref (t 0), V.ref (t 1), V.ref (t 2), V.ref (t 3)].set 0 (V.ref d))) ntu
            have hbF : BoxAt (upd (upd G3 d (.dK (kvOf ((z 0).zip (z 0))))) tu (.lst ([V.ref (t 0), V.ref (t 1), V.ref (t 2), V.ref (t 3)].set 0 (V.ref d)))) bx := ((box_same hb2 q3).new nd).oth (hbx.ne ntu)
            have dk : ∀ j < 4, (upd (upd G3 d (.dK (kvOf ((z 0).zip (z 0))))) tu (.lst ([V.ref (t 0), V.ref (t 1), V.ref (t 2), V.ref (t 3)].set 0 (V.ref d)))) (t j) = some (.dK (kvOf (l j))) := fun j hj => ku (kn (q3 _ _ (all j hj).1) nd) fun e => by
              have h1 := (all j hj).1
              rw [e, etu] at h1
              cases h1
            have dtu : d ≠ tu := (ne_of_none (q3 _ _ etu) nd).symm
            exact ⟨bx, f1, f2, M1, M2, ds1, ds2, p1, s1, j1, w1, g1, tu, pick4 d (t 1) (t 2) (t 3), z, pick4 (z 0) ps1 ps2 ps3, _, _, _, _, _, _, _, _, _, _, _, _, _, _, _, rfl, FA0.but bF hbF, pg1.but hbx bF, NZ, rfl, all4 (List.Perm.refl _) pp1 pp2 pp3,
              ⟨upd_same, all4 (ku upd_same dtu) (by have := dk 1 (by decide); rw [el1] at this; exact this) (by have := dk 2 (by decide); rw [el2] at this; exact this) (by have := dk 3 (by decide); rw [el3] at this; exact this)⟩⟩
          · obtain ⟨rfl, hx⟩ := yp
            have hi : i < (z 0).length := by
              have := (List.getElem?_eq_some_iff.mp hp).1
              omega
            rw [List.getElem?_map, List.getElem?_eq_getElem hi] at hx
            obtain rfl := Option.some.inj hx
            rw [(List.getElem?_zip_eq_some (z := ((z 0)[i], (z 0)[i]))).mpr ⟨List.getElem?_eq_getElem hi, List.getElem?_eq_getElem hi⟩] at hp
            obtain rfl := Option.some.inj hp
            exact ⟨Same.refl _, fun Kt kq => ⟨rfl, _, rfl, _, rfl, by show 2 ≤ sizeLine; decide, fun t nt => kq t _ (same_ext nt) upd_same⟩⟩
        clear FA0 pg1 NZ AA eso' sox njx hbx all etu hb2 b2 ntu q1 l1
        obtain ⟨bx, f1, f2, M1, M2, ds1, ds2, p1, s1, j1, w1, g1, tu, t, z, p, u5, u6, u7, u8, u9, u10, u11, u12, u14, u15, u16, u17, u18, u19, u21, rfl, FA0, pg1, NZ, p0, pp, TU⟩ := pv
        -- the last reading, the last tests
        obtain ⟨ok5, s5, R5, pw, pz⟩ := rd_turned FA0.d1 (trn_of NZ p0 pp) pg1.r
        have l1 := FA0.d1.lens
        refine ⟨rfl, ⟨_, rfl⟩, _, rfl, _, rfl, flat ds1, f1, tu, _, t 0, t 1, t 2, t 3, _, _, _, _, rfl, FA0.e1, pg1.r.run.ok, fun r hr => ok5 _ (List.mem_map_of_mem hr), by omega, TU.tab, fun r G4 q4 nr er => ?_⟩
        refine ⟨"\n", r, _, rfl, rfl, .inl (sq_texts er), rows_small R5.run.ok (by have := R5.len; omega), ?_⟩
        rw [TL.join_eq]
        dsimp only [tNil]
        refine pread_ok R5 cc cp fun p5 j5 w5 g5 G5 q5 pg5 => ?_
        have qF := q4.trans q5
        have pgF := pg1.same qF
        have FAF := FA0.same qF
        obtain rfl : j5 = j1 := sort_uniq pg5.o.sj pg1.o.sj ((R5.jobs ▸ pg5.o.j).trans (pg1.r.jobs ▸ pg1.o.j).symm)
        obtain rfl : w5 = w1 := sort_uniq pg5.o.sw pg1.o.sw (((R5.walks ▸ pg5.o.w).trans pw).trans (pg1.r.walks ▸ pg1.o.w).symm)
        obtain rfl : g5 = g1 := sort_uniq pg5.o.sg pg1.o.sg ((pg5.o.g.trans pz).trans pg1.o.g.symm)
        have nj : ∀ x ∈ j5, Nm x := fun x hx => (FA0.d1.nmj x ((pg1.r.jobs ▸ pg1.o.j).mem_iff.mp hx)).nm
        have nw : ∀ x ∈ w5, Nm x := fun x hx => (FA0.d1.nmw x ((pg1.r.walks ▸ pg1.o.w).mem_iff.mp hx)).nm
        have ng : ∀ x ∈ g5, Nm x := fun x hx => gates_nm pg1.r.run x (pg1.o.g.mem_iff.mp hx)
        obtain ⟨dx1, _, _, pj1, pw1, pz1, e11, e12, e13, e14⟩ := id pgF.a
        obtain ⟨dx5, _, _, pj5, pw5, pz5, e51, e52, e53, e54⟩ := id pg5.a
        refine ⟨_, rfl, p5, CP, dx5, _, _, rfl, e51, OP.cl, OP.na _ (by decide), rfl, _, rfl, p1, CP, dx1, _, _, rfl, e11, OP.cl, OP.na _ (by decide), rfl, .tuple (j5.map PyData.str), .tuple (j5.map PyData.str), .tup (SqT.of e52) (dpS j5), .tup (SqT.of e12) (dpS j5), shapedT (strs_nm nj), shapedT (strs_nm nj), ?_⟩
        rw [eqv_strs]
        refine ⟨_, rfl, ifF rfl ⟨_, rfl, p5, CP, dx5, _, _, rfl, e51, OP.cl, OP.na _ (by decide), rfl, _, rfl, p1, CP, dx1, _, _, rfl, e11, OP.cl, OP.na _ (by decide), rfl, .tuple (w5.map PyData.str), .tuple (w5.map PyData.str), .tup (SqT.of e53) (dpS w5), .tup (SqT.of e13) (dpS w5), shapedT (strs_nm nw), shapedT (strs_nm nw), ?_⟩⟩
        rw [eqv_strs]
        refine ⟨_, rfl, ifF rfl ⟨_, rfl, p5, CP, dx5, _, _, rfl, e51, OP.cl, OP.na _ (by decide), rfl, _, rfl, p1, CP, dx1, _, _, rfl, e11, OP.cl, OP.na _ (by decide), rfl, .tuple (g5.map PyData.str), .tuple (g5.map PyData.str), .tup (SqT.of e54) (dpS g5), .tup (SqT.of e14) (dpS g5), shapedT (strs_nm ng), shapedT (strs_nm ng), ?_⟩⟩
        rw [eqv_strs]
        exact ⟨_, rfl, ifF rfl (qD _ _ ⟨⟨_, _, _, _, _, _, _, _, _, _, _, _, _, _, _, _, _, _, _, _, _, rfl⟩, FAF.s.s⟩)⟩
      · have ej := b2 _ _ (AA j hj).e (n1 (njx j hj))
        have l8 := NZ.len j hj
        unfold tCB tCons tNil
        dsimp only [List.map]
        refine ⟨_, rfl, _, rfl, _, rfl, bx, n j, (z j).map V.str, rfl, hb2, SqL.of ej, by rw [List.length_map]; omega, fun r ys G3 pm b3 hb3 nr er => ?_⟩
        obtain ⟨ps, rfl, pp⟩ := perm_strs pm
        have pl := pp.length_eq
        have ek : ((z j).map (Sum.inr : Str → Key)).map kV = (z j).map V.str := by rw [List.map_map]; rfl
        refine ⟨n j, r, (z j).map Sum.inr, ps.map V.str, rfl, SqL.of (by rw [ek]; exact b3 _ _ ej (n1 (njx j hj))), SqL.of er, by rw [List.length_map, List.length_map]; omega, by rw [List.length_map]; omega, fun G4 q ts s4 nq nts nq2 eq pr => ?_⟩
        rw [zip_keys] at pr
        refine ⟨q, ts, _, rfl, SqL.of eq, paired_imp pr fun x y e => SqT.of e, fun d nd => ?_⟩
        rw [merge_kv (by rw [fst_zip (Nat.le_of_eq pl.symm)]; exact NZ.nd j hj)]
        have hb4 := box_same hb3 s4
        exact kq d _ _ (b3.trans (But.same (Same.trans s4 (same_ext nd)))) (hb4.new nd) upd_same (n1 (hb4.ne nd).symm) ⟨ps, pp, rfl⟩
    · have ej := (same_of b1) _ _ (TB.d j hj)
      have l8 := NO.len j hj
      have fl := frs_len l8
      have kl : (kvOf ((y j).zip (frs (y j)))).length = (y j).length := by unfold kvOf; rw [List.length_map, List.length_zip]; omega
      unfold tCB tCons tNil
      dsimp only [List.map]
      refine ⟨t j, _, ej, trivial, fun od => ?_⟩
      refine lc_pairs (walk_items (d := t j) (o := od) (kvs := kvOf ((y j).zip (frs (y j))))) ((frs (y j)).zip (y j)) (by rw [kl, List.length_zip]; omega) (by rw [kl]; omega) (fun R hR => ⟨_, rfl, t j, od, _, rfl, upd_same, hR⟩) (fun H' s => s _ _ upd_same) (fun D ts G2 nD s2 eD pr => ?_) (fun i x G2 G3 p hp s2 yp => ?_)
      · have eT := s2 _ _ (upd_same (a := t j))
        have nDt : D ≠ t j := (K8.fr nD).2
        refine ⟨eT, D, ts, _, rfl, SqL.of (ku eD nDt), Pairs.kv (pr.mono fun u o e => ku e fun z => by rw [z, eT] at e; cases e), fun d nd => ?_⟩
        rw [merge_kv (by rw [fst_zip (Nat.le_of_eq fl.symm)]; exact frs_nd _)]
        refine kq d _ _ (But.same fun c o hc => ?_) trivial upd_same K8.n0 rfl
        refine kn ?_ nd
        by_cases z : c = t j
        · rw [z] at hc ⊢
          rw [ej] at hc
          rw [upd_same]; exact hc
        · exact ku (s2 _ _ (ku hc z)) z
      · obtain ⟨T, u, v, rfl, nT, rfl, eu, ev⟩ := yp
        have hi : i < (y j).length := by
          have := (List.getElem?_eq_some_iff.mp hp).1
          rw [List.length_zip] at this
          omega
        have hi2 : i < (frs (y j)).length := by omega
        have ek : (kvOf ((y j).zip (frs (y j))))[i]? = some (.inr (y j)[i], .str (frs (y j))[i]) := by
          unfold kvOf
          rw [List.getElem?_map, List.getElem?_zip_eq_some (z := ((y j)[i], (frs (y j))[i])) |>.mpr ⟨List.getElem?_eq_getElem hi, List.getElem?_eq_getElem hi2⟩]
          rfl
        have ep : ((frs (y j)).zip (y j))[i]? = some ((frs (y j))[i], (y j)[i]) := (List.getElem?_zip_eq_some (z := ((frs (y j))[i], (y j)[i]))).mpr ⟨List.getElem?_eq_getElem hi2, List.getElem?_eq_getElem hi⟩
        rw [ep] at hp
        obtain rfl := Option.some.inj hp
        replace eu : (kvOf ((y j).zip (frs (y j))))[i]?.map (fun kv => kV kv.1) = some u := eu
        replace ev : (kvOf ((y j).zip (frs (y j))))[i]?.map Prod.snd = some v := ev
        rw [ek] at eu ev
        obtain rfl := Option.some.inj eu
        obtain rfl := Option.some.inj ev
        refine ⟨same_ext nT, fun Kt kq => ⟨T, _, rfl, SqT.of upd_same, rfl, _, _, rfl, _, _, rfl, rfl, rfl, ?_⟩⟩
        exact ⟨_, rfl, _, rfl, by show 2 ≤ sizeLine; decide, fun u nu => kq u _ (same_ext nu) upd_same⟩
end
end K8
set_option Elab.async false
set_option linter.all false
set_option maxRecDepth 100000
set_option maxHeartbeats 4000000
/-! What the program's top leaves: the Hook (printed by mkZ1.py). -/
namespace K8
open PySem PySem.Spec PyProof.Rows L2
theorem ktup_ok {K : PySem.W.Frag} {x : Str} {l : List Str} (h : He.tupB K x (l.map He.Dv.str) = true) : KTup K (He.ga K x) (l.map V.str) := fun H => by
  have q := He.tupB_ok h H
  rw [List.map_map] at q
  exact q
def isE (K : PySem.W.Frag) (C : Addr) (newId : String) (tl : List Value → Bool) : Bool := match K.lookup C with
  | some ⟨.type "type", _, .cls cd, sl⟩ => (match cd.mro, sl.toList with
    | .ref C' :: bm, [_, _, _, _, some (.builtin n), _] => C' == C && n == newId && !cd.hasDel && cd.hasDict && tl bm
    | _, _ => false)
  | _ => false
theorem isE_ok {K : PySem.W.Frag} {C : Addr} {newId : String} {tl : List Value → Bool} (q : isE K C newId tl = true) : ∃ nm q N bs bm sn sub ab col dd k0 k1 k2 k3 k5, K.lookup C = some (excClassObj nm q C N bs bm true sn sub ab col dd k0 k1 k2 k3 k5 newId) ∧ tl bm = true := by
  unfold isE at q
  split at q
  · rename_i dd cd sl ho
    split at q
    · rename_i C' bm k0 k1 k2 k3 n k5 hm hs
      simp only [Bool.and_eq_true, beq_iff_eq, Bool.not_eq_true'] at q
      obtain ⟨⟨⟨⟨rfl, rfl⟩, hdel⟩, hdic⟩, ht⟩ := q
      obtain ⟨nm, bs, mro, ns, qn, hd, sn, sub, ab, col, del⟩ := cd
      dsimp only at hm hdel hdic
      subst hm hdel hdic
      have hsl : sl = #[k0, k1, k2, k3, some (.builtin n), k5] := by
        obtain ⟨l⟩ := sl
        simp only at hs
        rw [hs]
      subst hsl
      exact ⟨nm, qn, ns, bs, bm, sn, sub, ab, col, dd, k0, k1, k2, k3, k5, ho, ht⟩
    · cases q
  · cases q
def valB (r : Option PySem.W.CFound) (id : String) : Bool := match r with
  | some (.val (.builtin s)) => decide (s = id)
  | _ => false
theorem valB_ok {r : Option PySem.W.CFound} {id : String} (h : valB r id = true) : r = some (.val (.builtin id)) := by
  unfold valB at h
  split at h
  · rw [of_decide_eq_true h]
  · cases h

structure ExK (K : PySem.W.Frag) : Prop where
  tLang : KTup K (He.ga K "LANGUAGE") (lang.map V.str)
  tHows : KTup K (He.ga K "HOWS") ((["closed", "dropped", "kept"] : List Str).map V.str)
  tNamed : KTup K (He.ga K "NAMED") ((["say", "wait", "open", "begin", "fail"] : List Str).map V.str)
  oEc : ∃ nm q N bs bm sn sub ab col dd k0 k1 k2 k3 k5, K.lookup (He.ga K "BadRow") = some (excClassObj nm q (He.ga K "BadRow") N bs bm true sn sub ab col dd k0 k1 k2 k3 k5 "ValueError.__new__") ∧ PySem.HandSPX.refsVE bm = true
  oTc : ∃ nm q N bs bm sn sub ab col dd k0 k1 k2 k3 k5, K.lookup (He.ga K "TooMany") = some (excClassObj nm q (He.ga K "TooMany") N bs bm true sn sub ab col dd k0 k1 k2 k3 k5 "ValueError.__new__") ∧ PySem.HandSPX.refsVE bm = true
  kUc : ∃ nm q N bs bm sn sub ab col dd k0 k1 k2 k3 k5, K.lookup (He.ga K "Unknown") = some (excClassObj nm q (He.ga K "Unknown") N bs bm true sn sub ab col dd k0 k1 k2 k3 k5 "LookupError.__new__") ∧ refsKE bm = true
  saE : PySem.W.findIn K (.ref (He.ga K "BadRow")) "__setattr__" = some (some (.builtin "object.__setattr__"))
  suE : PySem.W.subIn K (.ref (He.ga K "BadRow")) (.type "BaseException") = some true
  tyE : PySem.W.typeIn K (.ref (He.ga K "BadRow")) = some (.type "type")
  inE : PySem.W.findIn K (.ref (He.ga K "BadRow")) "__init__" = some (some (.ref (He.ma K (He.ga K "BadRow") "__init__")))
  itE : PySem.W.typeIn K (.ref (He.ma K (He.ga K "BadRow") "__init__")) = some (.type "function")
  saT : PySem.W.findIn K (.ref (He.ga K "TooMany")) "__setattr__" = some (some (.builtin "object.__setattr__"))
  suT : PySem.W.subIn K (.ref (He.ga K "TooMany")) (.type "BaseException") = some true
  tyT : PySem.W.typeIn K (.ref (He.ga K "TooMany")) = some (.type "type")
  inT : PySem.W.findIn K (.ref (He.ga K "TooMany")) "__init__" = some (some (.ref (He.ma K (He.ga K "TooMany") "__init__")))
  itT : PySem.W.typeIn K (.ref (He.ma K (He.ga K "TooMany") "__init__")) = some (.type "function")
  saU : PySem.W.findIn K (.ref (He.ga K "Unknown")) "__setattr__" = some (some (.builtin "object.__setattr__"))
  suU : PySem.W.subIn K (.ref (He.ga K "Unknown")) (.type "BaseException") = some true
  tyU : PySem.W.typeIn K (.ref (He.ga K "Unknown")) = some (.type "type")
  inU : PySem.W.findIn K (.ref (He.ga K "Unknown")) "__init__" = some (some (.ref (He.ma K (He.ga K "Unknown") "__init__")))
  itU : PySem.W.typeIn K (.ref (He.ma K (He.ga K "Unknown") "__init__")) = some (.type "function")
  gaE : PySem.W.findIn K (.ref (He.ga K "BadRow")) "__getattribute__" = some (some (.builtin "BaseException.__getattribute__"))
  ggE : PySem.W.findIn K (.ref (He.ga K "BadRow")) "__getattr__" = some none
  hdE : PySem.W.hasDictIn K (He.ga K "BadRow") = true
  clE : PySem.W.findIn K (.ref (He.ga K "BadRow")) "__class__" = some (some (.builtin "object.__class__"))
  moE : PySem.W.mroIn K (He.ga K "BadRow") (.type "object") = some true
  gaU : PySem.W.findIn K (.ref (He.ga K "Unknown")) "__getattribute__" = some (some (.builtin "BaseException.__getattribute__"))
  ggU : PySem.W.findIn K (.ref (He.ga K "Unknown")) "__getattr__" = some none
  hdU : PySem.W.hasDictIn K (He.ga K "Unknown") = true
  clU : PySem.W.findIn K (.ref (He.ga K "Unknown")) "__class__" = some (some (.builtin "object.__class__"))
  moU : PySem.W.mroIn K (He.ga K "Unknown") (.type "object") = some true
  gsd : PySem.W.specialIn K (.builtin "object.__class__") "__get__" = some (some (.builtin "getset_descriptor.__get__"))
  tkd : PySem.W.takesIn K (.builtin "object.__class__") = some true
  rdL : PySem.W.readsIn K (He.ga K "LateError") (.type "type") = true
  sgL : PySem.W.specialIn K (.ref (He.ga K "LateError")) "__getattribute__" = some (some (.builtin "type.__getattribute__"))
  rdP : PySem.W.readsIn K (He.ga K "Program") (.type "type") = true
  sgP : PySem.W.specialIn K (.ref (He.ga K "Program")) "__getattribute__" = some (some (.builtin "type.__getattribute__"))
  vvL : PySem.W.findCls K (.ref (He.ga K "LateError")) (.type "type") "__init__" = some (.val (.builtin "ValueError.__init__"))
  vvK : PySem.W.findCls K (.type "KeyError") (.type "type") "__init__" = some (.val (.builtin "KeyError.__init__"))
  kEL : PySem.W.kitOne K (.ref (He.ga K "BadRow")) (.ref (He.ga K "LateError")) = some true
  kET : PySem.W.kitOne K (.ref (He.ga K "BadRow")) (.ref (He.ga K "TooMany")) = some false
  kUL : PySem.W.kitOne K (.ref (He.ga K "Unknown")) (.ref (He.ga K "LateError")) = some false
  k_int_list : PySem.W.kitOne K (.type "int") (.type "list") = some false
  k_int_dict : PySem.W.kitOne K (.type "int") (.type "dict") = some false
  k_int_tuple : PySem.W.kitOne K (.type "int") (.type "tuple") = some false
  k_str_list : PySem.W.kitOne K (.type "str") (.type "list") = some false
  k_str_dict : PySem.W.kitOne K (.type "str") (.type "dict") = some false
  k_str_tuple : PySem.W.kitOne K (.type "str") (.type "tuple") = some false
  clP : PySem.W.findIn K (.ref (He.ga K "Program")) "__class__" = some (some (.builtin "object.__class__"))
  moP : PySem.W.mroIn K (He.ga K "Program") (.type "object") = some true
  meP : PySem.W.kitOne K (.ref (He.ga K "Program")) (.ref (He.ga K "Program")) = some true
  neP : PySem.W.findIn K (.ref (He.ga K "Program")) "__ne__" = some (some (.builtin "object.__ne__"))
  wrap : PySem.W.findCls K (.ref (He.ga K "Program")) (.type "type") "read" = some (.get (.builtin "staticmethod.__get__") (.ref (He.ma K (He.ga K "Program") "read")) .none (.ref (He.ga K "Program"))) ∧ ∃ rest, PySem.W.recIn K (He.ma K (He.ga K "Program") "read") "staticmethod" = some (.ref (He5.wf K (He.ga K "Program") "staticmethod" "read") :: rest)
  cc : (He.ga K "Block") ≠ (He.ga K "Reader")
  cp : (He.ga K "Program") ≠ (He.ga K "Reader")
def exK (K : PySem.W.Frag) : Bool :=
  He.tupB K "LANGUAGE" (lang.map He.Dv.str) && (
  He.tupB K "HOWS" ((["closed", "dropped", "kept"] : List Str).map He.Dv.str) && (
  He.tupB K "NAMED" ((["say", "wait", "open", "begin", "fail"] : List Str).map He.Dv.str) && (
  isE K (He.ga K "BadRow") "ValueError.__new__" PySem.HandSPX.refsVE && (
  isE K (He.ga K "TooMany") "ValueError.__new__" PySem.HandSPX.refsVE && (
  isE K (He.ga K "Unknown") "LookupError.__new__" refsKE && (
  decide (PySem.W.findIn K (.ref (He.ga K "BadRow")) "__setattr__" = some (some (.builtin "object.__setattr__"))) && (
  decide (PySem.W.subIn K (.ref (He.ga K "BadRow")) (.type "BaseException") = some true) && (
  decide (PySem.W.typeIn K (.ref (He.ga K "BadRow")) = some (.type "type")) && (
  decide (PySem.W.findIn K (.ref (He.ga K "BadRow")) "__init__" = some (some (.ref (He.ma K (He.ga K "BadRow") "__init__")))) && (
  decide (PySem.W.typeIn K (.ref (He.ma K (He.ga K "BadRow") "__init__")) = some (.type "function")) && (
  decide (PySem.W.findIn K (.ref (He.ga K "TooMany")) "__setattr__" = some (some (.builtin "object.__setattr__"))) && (
  decide (PySem.W.subIn K (.ref (He.ga K "TooMany")) (.type "BaseException") = some true) && (
  decide (PySem.W.typeIn K (.ref (He.ga K "TooMany")) = some (.type "type")) && (
  decide (PySem.W.findIn K (.ref (He.ga K "TooMany")) "__init__" = some (some (.ref (He.ma K (He.ga K "TooMany") "__init__")))) && (
  decide (PySem.W.typeIn K (.ref (He.ma K (He.ga K "TooMany") "__init__")) = some (.type "function")) && (
  decide (PySem.W.findIn K (.ref (He.ga K "Unknown")) "__setattr__" = some (some (.builtin "object.__setattr__"))) && (
  decide (PySem.W.subIn K (.ref (He.ga K "Unknown")) (.type "BaseException") = some true) && (
  decide (PySem.W.typeIn K (.ref (He.ga K "Unknown")) = some (.type "type")) && (
  decide (PySem.W.findIn K (.ref (He.ga K "Unknown")) "__init__" = some (some (.ref (He.ma K (He.ga K "Unknown") "__init__")))) && (
  decide (PySem.W.typeIn K (.ref (He.ma K (He.ga K "Unknown") "__init__")) = some (.type "function")) && (
  decide (PySem.W.findIn K (.ref (He.ga K "BadRow")) "__getattribute__" = some (some (.builtin "BaseException.__getattribute__"))) && (
  decide (PySem.W.findIn K (.ref (He.ga K "BadRow")) "__getattr__" = some none) && (
  PySem.W.hasDictIn K (He.ga K "BadRow") && (
  decide (PySem.W.findIn K (.ref (He.ga K "BadRow")) "__class__" = some (some (.builtin "object.__class__"))) && (
  decide (PySem.W.mroIn K (He.ga K "BadRow") (.type "object") = some true) && (
  decide (PySem.W.findIn K (.ref (He.ga K "Unknown")) "__getattribute__" = some (some (.builtin "BaseException.__getattribute__"))) && (
  decide (PySem.W.findIn K (.ref (He.ga K "Unknown")) "__getattr__" = some none) && (
  PySem.W.hasDictIn K (He.ga K "Unknown") && (
  decide (PySem.W.findIn K (.ref (He.ga K "Unknown")) "__class__" = some (some (.builtin "object.__class__"))) && (
  decide (PySem.W.mroIn K (He.ga K "Unknown") (.type "object") = some true) && (
  decide (PySem.W.specialIn K (.builtin "object.__class__") "__get__" = some (some (.builtin "getset_descriptor.__get__"))) && (
  decide (PySem.W.takesIn K (.builtin "object.__class__") = some true) && (
  PySem.W.readsIn K (He.ga K "LateError") (.type "type") && (
  decide (PySem.W.specialIn K (.ref (He.ga K "LateError")) "__getattribute__" = some (some (.builtin "type.__getattribute__"))) && (
  PySem.W.readsIn K (He.ga K "Program") (.type "type") && (
  decide (PySem.W.specialIn K (.ref (He.ga K "Program")) "__getattribute__" = some (some (.builtin "type.__getattribute__"))) && (
  valB (PySem.W.findCls K (.ref (He.ga K "LateError")) (.type "type") "__init__") "ValueError.__init__" && (
  valB (PySem.W.findCls K (.type "KeyError") (.type "type") "__init__") "KeyError.__init__" && (
  decide (PySem.W.kitOne K (.ref (He.ga K "BadRow")) (.ref (He.ga K "LateError")) = some true) && (
  decide (PySem.W.kitOne K (.ref (He.ga K "BadRow")) (.ref (He.ga K "TooMany")) = some false) && (
  decide (PySem.W.kitOne K (.ref (He.ga K "Unknown")) (.ref (He.ga K "LateError")) = some false) && (
  decide (PySem.W.kitOne K (.type "int") (.type "list") = some false) && (
  decide (PySem.W.kitOne K (.type "int") (.type "dict") = some false) && (
  decide (PySem.W.kitOne K (.type "int") (.type "tuple") = some false) && (
  decide (PySem.W.kitOne K (.type "str") (.type "list") = some false) && (
  decide (PySem.W.kitOne K (.type "str") (.type "dict") = some false) && (
  decide (PySem.W.kitOne K (.type "str") (.type "tuple") = some false) && (
  decide (PySem.W.findIn K (.ref (He.ga K "Program")) "__class__" = some (some (.builtin "object.__class__"))) && (
  decide (PySem.W.mroIn K (He.ga K "Program") (.type "object") = some true) && (
  decide (PySem.W.kitOne K (.ref (He.ga K "Program")) (.ref (He.ga K "Program")) = some true) && (
  decide (PySem.W.findIn K (.ref (He.ga K "Program")) "__ne__" = some (some (.builtin "object.__ne__"))) && (
  He5.wrapB K (He.ga K "Program") "staticmethod" "staticmethod.__get__" "read" && (
  decide ((He.ga K "Block") ≠ (He.ga K "Reader")) && (
  decide ((He.ga K "Program") ≠ (He.ga K "Reader"))))))))))))))))))))))))))))))))))))))))))))))))))))))))
theorem exK_ok {K : PySem.W.Frag} (h : exK K = true) : ExK K := by
  obtain ⟨z0, h⟩ := He.ba h
  obtain ⟨z1, h⟩ := He.ba h
  obtain ⟨z2, h⟩ := He.ba h
  obtain ⟨z3, h⟩ := He.ba h
  obtain ⟨z4, h⟩ := He.ba h
  obtain ⟨z5, h⟩ := He.ba h
  obtain ⟨z6, h⟩ := He.ba h
  obtain ⟨z7, h⟩ := He.ba h
  obtain ⟨z8, h⟩ := He.ba h
  obtain ⟨z9, h⟩ := He.ba h
  obtain ⟨z10, h⟩ := He.ba h
  obtain ⟨z11, h⟩ := He.ba h
  obtain ⟨z12, h⟩ := He.ba h
  obtain ⟨z13, h⟩ := He.ba h
  obtain ⟨z14, h⟩ := He.ba h
  obtain ⟨z15, h⟩ := He.ba h
  obtain ⟨z16, h⟩ := He.ba h
  obtain ⟨z17, h⟩ := He.ba h
  obtain ⟨z18, h⟩ := He.ba h
  obtain ⟨z19, h⟩ := He.ba h
  obtain ⟨z20, h⟩ := He.ba h
  obtain ⟨z21, h⟩ := He.ba h
  obtain ⟨z22, h⟩ := He.ba h
  obtain ⟨z23, h⟩ := He.ba h
  obtain ⟨z24, h⟩ := He.ba h
  obtain ⟨z25, h⟩ := He.ba h
  obtain ⟨z26, h⟩ := He.ba h
  obtain ⟨z27, h⟩ := He.ba h
  obtain ⟨z28, h⟩ := He.ba h
  obtain ⟨z29, h⟩ := He.ba h
  obtain ⟨z30, h⟩ := He.ba h
  obtain ⟨z31, h⟩ := He.ba h
  obtain ⟨z32, h⟩ := He.ba h
  obtain ⟨z33, h⟩ := He.ba h
  obtain ⟨z34, h⟩ := He.ba h
  obtain ⟨z35, h⟩ := He.ba h
  obtain ⟨z36, h⟩ := He.ba h
  obtain ⟨z37, h⟩ := He.ba h
  obtain ⟨z38, h⟩ := He.ba h
  obtain ⟨z39, h⟩ := He.ba h
  obtain ⟨z40, h⟩ := He.ba h
  obtain ⟨z41, h⟩ := He.ba h
  obtain ⟨z42, h⟩ := He.ba h
  obtain ⟨z43, h⟩ := He.ba h
  obtain ⟨z44, h⟩ := He.ba h
  obtain ⟨z45, h⟩ := He.ba h
  obtain ⟨z46, h⟩ := He.ba h
  obtain ⟨z47, h⟩ := He.ba h
  obtain ⟨z48, h⟩ := He.ba h
  obtain ⟨z49, h⟩ := He.ba h
  obtain ⟨z50, h⟩ := He.ba h
  obtain ⟨z51, h⟩ := He.ba h
  obtain ⟨z52, h⟩ := He.ba h
  obtain ⟨z53, h⟩ := He.ba h
  exact ⟨ktup_ok z0, ktup_ok z1, ktup_ok z2, isE_ok z3, isE_ok z4, isE_ok z5, of_decide_eq_true z6, of_decide_eq_true z7, of_decide_eq_true z8, of_decide_eq_true z9, of_decide_eq_true z10, of_decide_eq_true z11, of_decide_eq_true z12, of_decide_eq_true z13, of_decide_eq_true z14, of_decide_eq_true z15, of_decide_eq_true z16, of_decide_eq_true z17, of_decide_eq_true z18, of_decide_eq_true z19, of_decide_eq_true z20, of_decide_eq_true z21, of_decide_eq_true z22, id z23, of_decide_eq_true z24, of_decide_eq_true z25, of_decide_eq_true z26, of_decide_eq_true z27, id z28, of_decide_eq_true z29, of_decide_eq_true z30, of_decide_eq_true z31, of_decide_eq_true z32, id z33, of_decide_eq_true z34, id z35, of_decide_eq_true z36, valB_ok z37, valB_ok z38, of_decide_eq_true z39, of_decide_eq_true z40, of_decide_eq_true z41, of_decide_eq_true z42, of_decide_eq_true z43, of_decide_eq_true z44, of_decide_eq_true z45, of_decide_eq_true z46, of_decide_eq_true z47, of_decide_eq_true z48, of_decide_eq_true z49, of_decide_eq_true z50, of_decide_eq_true z51, He5.wrapB_ok z52, of_decide_eq_true z53, of_decide_eq_true h⟩
def fa : List He.Fa := [.glo "is_made_of", .glo "is_name", .glo "is_times", .glo "own_copy", .glo "read_rows", .glo "look_at_names", .glo "look_at_size", .glo "_law_box", .glo "_law_take", .glo "_law_mixed", .glo "_law_pick", .glo "_law_names", .glo "_law_world", .glo "_law_rows", .glo "_law_row", .glo "_law_block", .glo "_law_program", .glo "_law_is_name", .glo "_law_is_bad", .glo "_law_read_due", .glo "_law_heard", .glo "_law_due_heard", .glo "_law_named", .glo "_law_all_names", .glo "_law_definitions", .glo "_law_begins_right", .glo "law", .glo "Program", .glo "LateError", .glo "TooMany", .glo "BadRow", .glo "Unknown", .glo "HOWS", .glo "LANGUAGE", .glo "NAMED", .glo "Block", .glo "Reader", .free "int", .free "len", .free "list", .free "range", .free "str", .free "isinstance", .free "all", .free "any", .free "tuple", .free "sorted", .free "max", .free "min", .free "dict", .free "KeyError", .free "enumerate", .free "abs", .free "set", .free "repr", .free "zip", .int "MOST_ROWS" 100, .int "MOST_JOBS" 6, .int "MOST_WALKS" 6, .int "MOST_DEEP" 6, .str "SMALL" "abcdefghijklmnopqrstuvwxyz", .str "DIGITS" "0123456789", .cls "Block", .noat "Block" "word", .noat "Block" "at", .noat "Block" "fields", .noat "Block" "part", .noat "Block" "rows", .noat "Block" "later", .cls "Reader", .noat "Reader" "told", .noat "Reader" "blocks", .noat "Reader" "gates", .noat "Reader" "begun", .noat "Reader" "deepest", .cls "Program", .noat "Program" "text", .noat "Program" "job_rows", .noat "Program" "walk_rows", .noat "Program" "jobs", .noat "Program" "walks", .noat "Program" "gates", .meth "Block" "__init__", .meth "Block" "add", .meth "Block" "is_guarding", .meth "Block" "keeps", .meth "Block" "made", .meth "Reader" "__init__", .meth "Reader" "added", .meth "Reader" "opened", .meth "Reader" "named", .meth "Reader" "turned", .meth "Reader" "ended", .meth "Reader" "may_give", .meth "Reader" "may_pull", .meth "Reader" "opened_definition", .meth "Reader" "alone", .meth "Reader" "pulled", .meth "Reader" "within", .meth "Reader" "take", .meth "Program" "__init__", .meth "Program" "__str__", .meth "Program" "__len__", .meth "Program" "__eq__", .mkr "Block", .mkr "Reader", .mkr "Program", .noat "BadRow" "at", .noat "Unknown" "name", .exm "BadRow" "BadRow" true, .exm "Unknown" "BadRow" false, .exm "Unknown" "Unknown" true, .keep "BadRow", .keep "Unknown", .keep "TooMany", .keep "_law_begins_right"]
def d0 : He5.DefA := ⟨fun K => He.ga K "is_made_of", "is_made_of", "is_made_of", defArgs (top 6), defBody (top 6), defScope (top 6), [], []⟩
def d1 : He5.DefA := ⟨fun K => He.ga K "is_name", "is_name", "is_name", defArgs (top 7), defBody (top 7), defScope (top 7), [], []⟩
def d2 : He5.DefA := ⟨fun K => He.ga K "is_times", "is_times", "is_times", defArgs (top 8), defBody (top 8), defScope (top 8), [], []⟩
def d3 : He5.DefA := ⟨fun K => He.ga K "own_copy", "own_copy", "own_copy", defArgs (top 9), defBody (top 9), defScope (top 9), [.int 9], []⟩
def d4 : He5.DefA := ⟨fun K => He.ga K "read_rows", "read_rows", "read_rows", defArgs (top 19), defBody (top 19), defScope (top 19), [], []⟩
def d5 : He5.DefA := ⟨fun K => He.ga K "look_at_names", "look_at_names", "look_at_names", defArgs (top 25), defBody (top 25), defScope (top 25), [], []⟩
def d6 : He5.DefA := ⟨fun K => He.ga K "look_at_size", "look_at_size", "look_at_size", defArgs (top 26), defBody (top 26), defScope (top 26), [], []⟩
def d7 : He5.DefA := ⟨fun K => He.ga K "_law_box", "_law_box", "_law_box", defArgs (top 29), defBody (top 29), defScope (top 29), [], []⟩
def d8 : He5.DefA := ⟨fun K => He.ga K "_law_take", "_law_take", "_law_take", defArgs (top 30), defBody (top 30), defScope (top 30), [], []⟩
def d9 : He5.DefA := ⟨fun K => He.ga K "_law_mixed", "_law_mixed", "_law_mixed", defArgs (top 31), defBody (top 31), defScope (top 31), [], []⟩
def d10 : He5.DefA := ⟨fun K => He.ga K "_law_pick", "_law_pick", "_law_pick", defArgs (top 32), defBody (top 32), defScope (top 32), [], []⟩
def d11 : He5.DefA := ⟨fun K => He.ga K "_law_names", "_law_names", "_law_names", defArgs (top 33), defBody (top 33), defScope (top 33), [], []⟩
def d12 : He5.DefA := ⟨fun K => He.ga K "_law_world", "_law_world", "_law_world", defArgs (top 34), defBody (top 34), defScope (top 34), [], []⟩
def d13 : He5.DefA := ⟨fun K => He.ga K "_law_rows", "_law_rows", "_law_rows", defArgs (top 35), defBody (top 35), defScope (top 35), [], []⟩
def d14 : He5.DefA := ⟨fun K => He.ga K "_law_row", "_law_row", "_law_row", defArgs (top 36), defBody (top 36), defScope (top 36), [], []⟩
def d15 : He5.DefA := ⟨fun K => He.ga K "_law_block", "_law_block", "_law_block", defArgs (top 37), defBody (top 37), defScope (top 37), [], []⟩
def d16 : He5.DefA := ⟨fun K => He.ga K "_law_program", "_law_program", "_law_program", defArgs (top 38), defBody (top 38), defScope (top 38), [], []⟩
def d17 : He5.DefA := ⟨fun K => He.ga K "_law_is_name", "_law_is_name", "_law_is_name", defArgs (top 39), defBody (top 39), defScope (top 39), [], []⟩
def d18 : He5.DefA := ⟨fun K => He.ga K "_law_is_bad", "_law_is_bad", "_law_is_bad", defArgs (top 40), defBody (top 40), defScope (top 40), [], []⟩
def d19 : He5.DefA := ⟨fun K => He.ga K "_law_read_due", "_law_read_due", "_law_read_due", defArgs (top 41), defBody (top 41), defScope (top 41), [], []⟩
def d20 : He5.DefA := ⟨fun K => He.ga K "_law_heard", "_law_heard", "_law_heard", defArgs (top 42), defBody (top 42), defScope (top 42), [], []⟩
def d21 : He5.DefA := ⟨fun K => He.ga K "_law_due_heard", "_law_due_heard", "_law_due_heard", defArgs (top 43), defBody (top 43), defScope (top 43), [], []⟩
def d22 : He5.DefA := ⟨fun K => He.ga K "_law_named", "_law_named", "_law_named", defArgs (top 44), defBody (top 44), defScope (top 44), [], []⟩
def d23 : He5.DefA := ⟨fun K => He.ga K "_law_all_names", "_law_all_names", "_law_all_names", defArgs (top 45), defBody (top 45), defScope (top 45), [], []⟩
def d24 : He5.DefA := ⟨fun K => He.ga K "_law_definitions", "_law_definitions", "_law_definitions", defArgs (top 46), defBody (top 46), defScope (top 46), [], []⟩
def d25 : He5.DefA := ⟨fun K => He.ga K "_law_begins_right", "_law_begins_right", "_law_begins_right", defArgs (top 47), defBody (top 47), defScope (top 47), [], []⟩
def d26 : He5.DefA := ⟨fun K => He.ga K "law", "law", "law", defArgs (top 48), defBody (top 48), defScope (top 48), [], []⟩
def d27 : He5.DefA := ⟨fun K => He.ma K (He.ga K "Block") "__init__", "__init__", "Block.__init__", defArgs (cls 17 0), defBody (cls 17 0), defScope (cls 17 0), [], []⟩
def d28 : He5.DefA := ⟨fun K => He.ma K (He.ga K "Block") "add", "add", "Block.add", defArgs (cls 17 1), defBody (cls 17 1), defScope (cls 17 1), [], []⟩
def d29 : He5.DefA := ⟨fun K => He.ma K (He.ga K "Block") "is_guarding", "is_guarding", "Block.is_guarding", defArgs (cls 17 2), defBody (cls 17 2), defScope (cls 17 2), [], []⟩
def d30 : He5.DefA := ⟨fun K => He.ma K (He.ga K "Block") "keeps", "keeps", "Block.keeps", defArgs (cls 17 3), defBody (cls 17 3), defScope (cls 17 3), [], []⟩
def d31 : He5.DefA := ⟨fun K => He.ma K (He.ga K "Block") "made", "made", "Block.made", defArgs (cls 17 4), defBody (cls 17 4), defScope (cls 17 4), [], []⟩
def d32 : He5.DefA := ⟨fun K => He.ma K (He.ga K "Reader") "__init__", "__init__", "Reader.__init__", defArgs (cls 18 0), defBody (cls 18 0), defScope (cls 18 0), [], []⟩
def d33 : He5.DefA := ⟨fun K => He.ma K (He.ga K "Reader") "added", "added", "Reader.added", defArgs (cls 18 7), defBody (cls 18 7), defScope (cls 18 7), [], []⟩
def d34 : He5.DefA := ⟨fun K => He.ma K (He.ga K "Reader") "opened", "opened", "Reader.opened", defArgs (cls 18 6), defBody (cls 18 6), defScope (cls 18 6), [], []⟩
def d35 : He5.DefA := ⟨fun K => He.ma K (He.ga K "Reader") "named", "named", "Reader.named", defArgs (cls 18 8), defBody (cls 18 8), defScope (cls 18 8), [], []⟩
def d36 : He5.DefA := ⟨fun K => He.ma K (He.ga K "Reader") "turned", "turned", "Reader.turned", defArgs (cls 18 9), defBody (cls 18 9), defScope (cls 18 9), [], []⟩
def d37 : He5.DefA := ⟨fun K => He.ma K (He.ga K "Reader") "ended", "ended", "Reader.ended", defArgs (cls 18 10), defBody (cls 18 10), defScope (cls 18 10), [], []⟩
def d38 : He5.DefA := ⟨fun K => He.ma K (He.ga K "Reader") "may_give", "may_give", "Reader.may_give", defArgs (cls 18 11), defBody (cls 18 11), defScope (cls 18 11), [], []⟩
def d39 : He5.DefA := ⟨fun K => He.ma K (He.ga K "Reader") "may_pull", "may_pull", "Reader.may_pull", defArgs (cls 18 12), defBody (cls 18 12), defScope (cls 18 12), [], []⟩
def d40 : He5.DefA := ⟨fun K => He.ma K (He.ga K "Reader") "opened_definition", "opened_definition", "Reader.opened_definition", defArgs (cls 18 5), defBody (cls 18 5), defScope (cls 18 5), [], []⟩
def d41 : He5.DefA := ⟨fun K => He.ma K (He.ga K "Reader") "alone", "alone", "Reader.alone", defArgs (cls 18 3), defBody (cls 18 3), defScope (cls 18 3), [], []⟩
def d42 : He5.DefA := ⟨fun K => He.ma K (He.ga K "Reader") "pulled", "pulled", "Reader.pulled", defArgs (cls 18 4), defBody (cls 18 4), defScope (cls 18 4), [], []⟩
def d43 : He5.DefA := ⟨fun K => He.ma K (He.ga K "Reader") "within", "within", "Reader.within", defArgs (cls 18 2), defBody (cls 18 2), defScope (cls 18 2), [], []⟩
def d44 : He5.DefA := ⟨fun K => He.ma K (He.ga K "Reader") "take", "take", "Reader.take", defArgs (cls 18 1), defBody (cls 18 1), defScope (cls 18 1), [], []⟩
def d45 : He5.DefA := ⟨fun K => He.ma K (He.ga K "Program") "__init__", "__init__", "Program.__init__", defArgs (cls 27 0), defBody (cls 27 0), defScope (cls 27 0), [], []⟩
def d46 : He5.DefA := ⟨fun K => He.ma K (He.ga K "Program") "__str__", "__str__", "Program.__str__", defArgs (cls 27 3), defBody (cls 27 3), defScope (cls 27 3), [], []⟩
def d47 : He5.DefA := ⟨fun K => He.ma K (He.ga K "Program") "__len__", "__len__", "Program.__len__", defArgs (cls 27 4), defBody (cls 27 4), defScope (cls 27 4), [], []⟩
def d48 : He5.DefA := ⟨fun K => He.ma K (He.ga K "Program") "__eq__", "__eq__", "Program.__eq__", defArgs (cls 27 5), defBody (cls 27 5), defScope (cls 27 5), [], []⟩
def d49 : He5.DefA := ⟨fun K => He.ma K (He.ga K "BadRow") "__init__", "__init__", "BadRow.__init__", defArgs (cls 12 0), defBody (cls 12 0), defScope (cls 12 0), [], []⟩
def d50 : He5.DefA := ⟨fun K => He.ma K (He.ga K "Unknown") "__init__", "__init__", "Unknown.__init__", defArgs (cls 14 0), defBody (cls 14 0), defScope (cls 14 0), [], []⟩
def d51 : He5.DefA := ⟨fun K => He5.wf K (He.ga K "Program") "staticmethod" "read", "read", "Program.read", defArgs (cls 27 1), defBody (cls 27 1), defScope (cls 27 1), [], []⟩
def fn : List He5.DefA := [d0, d1, d2, d3, d4, d5, d6, d7, d8, d9, d10, d11, d12, d13, d14, d15, d16, d17, d18, d19, d20, d21, d22, d23, d24, d25, d26, d27, d28, d29, d30, d31, d32, d33, d34, d35, d36, d37, d38, d39, d40, d41, d42, d43, d44, d45, d46, d47, d48, d49, d50, d51]
abbrev AlK : Type := He.AlD × Bool
def obsK (fa : List He.Fa) (fn : List He5.DefA) (ex : PySem.W.Frag → Bool) (K : PySem.W.Frag) : AlK := (He5.obsA fa fn K, ex K)
def obsKG (n : Nat) (fa : List He.Fa) (fn : List He5.DefA) (ex : PySem.W.Frag → Bool) (g : Addr → Option Obj) : AlK := obsK fa fn ex (He.frG g (He5.asA g n))
def hookK (n : Nat) (fa : List He.Fa) (fn : List He5.DefA) (ex : PySem.W.Frag → Bool) : PySem.W.Hook where
  α := AlK
  obs := fun s => obsKG n fa fn ex s.heap.get?
  val := fun _ => (He5.valA fn, true)
  says := fun _ h => ∃ K : PySem.W.Frag, K.In h ∧ He5.SaysA fa fn K ∧ ex K = true
  of := fun _ _ e => ⟨_, He.frG_in, congrArg (fun z : AlK => z.1) e, congrArg (fun z : AlK => z.2) e⟩
  keeps := fun _ _ _ ⟨K, hK, c⟩ k => ⟨K, PySem.W.Frag.In.keeps hK k, c⟩
theorem obsKG_eq {n : Nat} {fa : List He.Fa} {fn : List He5.DefA} {ex : PySem.W.Frag → Bool} {g : Addr → Option Obj} {s : Shared} (h : ∀ a, g a = s.heap.get? a) : obsKG n fa fn ex g = (hookK n fa fn ex).obs s := by
  have e : g = s.heap.get? := funext h
  rw [e] <;> rfl
theorem factK {fa : List He.Fa} {fn : List He5.DefA} {K : PySem.W.Frag} (c : He5.SaysA fa fn K) {f : He.Fa} (h : f ∈ fa) : f.ok K = true := by
  obtain ⟨i, hi, e⟩ := List.mem_iff_getElem.mp h
  exact c.fact i (f := f) (by rw [List.getElem?_eq_getElem hi, e])
end K8
set_option Elab.async false
set_option linter.all false
set_option maxRecDepth 100000
set_option maxHeartbeats 0
/-! The head's run. -/
namespace K8
open PySem PySem.Spec PyProof.Rows L2
abbrev R : PySem.W.OpenRow := PySem.W.OpenLaw.row PySem.Challenge.rw_lateyields_k08_whole_programs_put_togeth
abbrev hk : PySem.W.Hook := hookK 5 fa fn exK
def ob (s : PySem.W.SharedT) : AlK := obsKG 5 fa fn exK (HandSHeadRun.getT s)
theorem ob_eq (s : PySem.W.SharedT) : ob s = hk.obs s.abs := obsKG_eq (HandSHeadRun.getT_eq s)
def loose1 : List PySem.Str := ["__name__", "SMALL", "DIGITS", "HOWS", "LANGUAGE", "is_integer", "is_made_of", "is_name", "is_times", "own_copy", "LateError", "BadRow", "TooMany", "Unknown", "NAMED", "Block", "Reader", "read_rows", "MOST_ROWS", "MOST_JOBS", "MOST_WALKS", "MOST_DEEP", "look_at_names", "look_at_size", "Program"]
def loose2 : List PySem.Str := ["_law_box", "_law_take", "_law_mixed", "_law_pick", "_law_names", "_law_world", "_law_rows", "_law_row", "_law_block", "_law_program", "_law_is_name", "_law_is_bad", "_law_read_due", "_law_heard", "_law_due_heard", "_law_named", "_law_all_names", "_law_definitions", "_law_begins_right"]
def loose : List PySem.Str := loose1 ++ loose2
theorem run (w : World) : HandSHeadRun.RunEq R (PySem.W.view R.prog [48]) hk ob 4000 loose w := by
  intro os
  kernel_rfl
end K8
set_option Elab.async false
set_option linter.all false
set_option maxRecDepth 100000
set_option maxHeartbeats 4000000
/-! The end: the law's def is promised where no repr is under way; so it is where the claim's caller stands. -/
namespace K8
open PySem PySem.Spec PyProof.Rows L2
section
variable {P : Program} {w : World} {K : PySem.W.Frag} {mg mb : Str → Option Value} {k : Nat} {g a : Addr} {sp : Sp} {s : Shared} {us : List Value} {ns : List Int}
/-- from a tracked heap in which at most the script stands -/
theorem call_from (kin : K.In s.heap) (gl : s.heap.Ns mainGlobals mg) (bl : s.heap.Ns builtinsNs mb) (bv : ∀ x : Str, x ≠ "__name__" → mb x = bootBuiltins x) (free : s.heap.NoLimit) (gens : s.gens = #[])
    (ea : s.heap.get? a = some { cls := .type "list", data := .seq us.toArray }) (room : Room k callerA) (F : ∀ base : Heap, K.In base → base.Ns mainGlobals mg → FnG P w K mg base CX0 k g sp) {H : Hp}
    (one : ∀ b, H b ≠ none → b = a ∧ K.lookup a = none ∧ ∃ o xs, H b = some (.frz o (.lst xs))) (hk : HOk P w H s.heap) (ask : sp [.ref a] H (fun v _ => v = .bl true) fun _ _ _ => False) :
    codeAny (model P w) callerA (.call (.ref g) ⟨[.ref a], []⟩) (fun r t => r = .ok (.ret (.bool true)) ∧ OldK s.heap t.heap ∧ t.os = s.os ∧ AllBare t.gens) s := by
  have out : ∀ {b : Addr}, (b = a → False) → H b = none := fun {b} n => Classical.byContradiction fun q => n (one b q).1
  have dic : ∀ {b : Addr} {m : Str → Option Value}, s.heap.Ns b m → (hidT s.heap H).Ns b m := by
    intro b m q
    obtain ⟨o, es, ep, e1, e2, e3⟩ := q
    refine ⟨o, es, ep, hidT_get e1 (out fun z => ?_), e2, e3⟩
    rw [z, ea] at e1
    rw [← Option.some.inj e1] at e2
    cases e2
  have kin2 : K.In (hidT s.heap H) := by
    intro b o e
    refine hidT_get (kin b o e) (Classical.byContradiction fun q => ?_)
    obtain ⟨z1, z2, _⟩ := one b q
    rw [z1, z2] at e
    cases e
  have fr2 : (hidT s.heap H).NoLimit := by
    obtain ⟨m, f1, f2⟩ := free
    exact ⟨m, dic f1, f2⟩
  have env : Env0 P w K mg (hidT s.heap H) callerA [] s H := by
    refine ⟨rfl, ⟨kin2, dic gl, ⟨mb, dic bl, bv⟩, fr2⟩, fun _ _ e => of_hidT e, Nat.le_of_eq (hidT_size _ _), trivial, ?_, hk, .of_eq gens⟩
    intro b z
    exact nomatch (show b ∈ ([] : List Addr) from z)
  have called := F _ kin2 (dic gl) callerA [] s H [.ref a] [.ref a] _ _ rfl room env (.cons rfl .nil) ask
  refine codeAny_mono called fun r t q => ?_
  match r, q with
  | .error _, q => exact q.elim
  | .ok .next, q => exact q.elim
  | .ok .brk, q => exact q.elim
  | .ok .cont, q => exact q.elim
  | .ok (.ret u), q =>
    obtain ⟨v, H2, e1, e2, un, hk2, rv, ev⟩ := q
    have ev2 : v = .bl true := ev
    rw [ev2] at rv
    have eu : u = Value.bool true := rv
    rw [eu]
    refine ⟨rfl, OldK.of_keep fun b o e => ?_, e1, e2⟩
    cases z : H b with
    | none => exact un.keep b o e z (fun y => nomatch (show b ∈ ([] : List Addr) from y)) (by simp)
    | some u2 =>
      obtain ⟨_, _, ob, xs, z2⟩ := one b (by rw [z]; exact Option.some_ne_none u2)
      have k1 := (hk b _ z2).1
      have k2 := (hk2 b _ (un.frzs b ob _ z2)).1
      rw [e] at k1
      rw [Option.some.inj k1]
      exact k2
theorem call_lawG (kin : K.In s.heap) (gl : s.heap.Ns mainGlobals mg) (bl : s.heap.Ns builtinsNs mb) (bv : ∀ x : Str, x ≠ "__name__" → mb x = bootBuiltins x) (free : s.heap.NoLimit) (gens : s.gens = #[])
    (ea : s.heap.get? a = some { cls := .type "list", data := .seq us.toArray }) (nums : IntsAre us ns) (few : ns.length ≤ sizeLine) (room : Room k callerA) (F : ∀ base : Heap, K.In base → base.Ns mainGlobals mg → FnG P w K mg base CX0 k g sp)
    (ask : ∀ H : Hp, SqL K H a (ns.map V.int) → sp [.ref a] H (fun v _ => v = .bl true) fun _ _ _ => False) :
    codeAny (model P w) callerA (.call (.ref g) ⟨[.ref a], []⟩) (fun r t => r = .ok (.ret (.bool true)) ∧ OldK s.heap t.heap ∧ t.os = s.os ∧ AllBare t.gens) s := by
  have lu := nums.length
  have vu : Vals (ns.map V.int) us := vals_ints nums
  cases q : K.lookup a with
  | none =>
    have e1 : (upd (fun _ => none) a (.frz { cls := .type "list", data := .seq us.toArray } (.lst (ns.map V.int))) : Hp) a = some (.frz { cls := .type "list", data := .seq us.toArray } (.lst (ns.map V.int))) := upd_same
    have e2 : ∀ b, b ≠ a → (upd (fun _ => none) a (.frz { cls := .type "list", data := .seq us.toArray } (.lst (ns.map V.int))) : Hp) b = none := fun b n => upd_ne n
    refine call_from kin gl bl bv free gens ea room F (H := upd (fun _ => none) a (.frz { cls := .type "list", data := .seq us.toArray } (.lst (ns.map V.int)))) (fun b n => ?_) (fun b o e => ?_) (ask _ (.inl (.inr ⟨_, e1⟩)))
    · by_cases z : b = a
      · exact ⟨z, q, _, _, by rw [z]; exact e1⟩
      · exact absurd (e2 b z) n
    · by_cases z : b = a
      · rw [z, e1] at e
        rw [z, ← Option.some.inj e]
        exact ⟨ea, by rw [List.length_map]; exact few, us, _, vu, ea⟩
      · rw [e2 b z] at e
        cases e
  | some o =>
    have eo : o = { cls := .type "list", data := .seq us.toArray } := Option.some.inj ((kin a o q).symm.trans ea)
    rw [eo] at q
    have sq : SqL K (fun _ => none) a (ns.map V.int) := .inr ⟨_, us.toArray, _, q, rfl, rfl, rfl, by rw [List.size_toArray]; omega, by rw [List.toList_toArray]; exact vu⟩
    exact call_from kin gl bl bv free gens ea room F (H := fun _ => none) (fun b n => absurd rfl n) (fun b o e => nomatch (show (none : Option HO) = some o from e)) (ask _ sq)
end
/-- the law's end -/
theorem end_ofG {l : PySem.W.OpenLaw} {n k : Nat} {q : Program} {loose : List Str} {XP : (Str → Option Value) → Heap → Prop} {YP : World → Heap → Prop} {d : DefRec} (hn : l.most = some n) (small : n ≤ sizeLine) (plain : d.params.defaults = []) (room : Room k callerA)
    (F : ∀ (w : World) (mg : Str → Option Value) (f : Addr) (h : Heap), YP w h → h.Ns mainGlobals mg → mg d.name = some (.ref f) →
      ∃ (K : PySem.W.Frag) (sp : Sp), K.In h ∧ (∀ (H : Hp) (a : Addr) (ns : List Int), ns.length ≤ n → SqL K H a (ns.map V.int) → sp [.ref a] H (fun v _ => v = .bl true) fun _ _ _ => False) ∧ ∀ base : Heap, K.In base → base.Ns mainGlobals mg → FnG l.prog w K mg base CX0 k f sp) :
    PySem.W.WalkO q loose XP YP l.row.toRowW d [] (fun f vs => PySem.call f vs) := by
  refine Att.attach_call hn plain fun w _ s mg mb f _ _ _ _ a us ns G Y _ _ _ hf ea nums few gens => ?_
  obtain ⟨K, sp, kin, ask, FF⟩ := F w mg f _ Y G.T.g hf
  exact call_lawG kin G.T.g G.T.b G.T.builtins G.T.nolimit gens ea nums (Nat.le_trans few small) room FF fun H sq => ask H a ns few sq
end K8
set_option Elab.async false
set_option linter.all false
set_option maxRecDepth 100000
set_option maxHeartbeats 4000000
/-! All promises joined (printed by mkZ4.py). -/
namespace K8
open PySem PySem.Spec PyProof.Rows L2
local macro_rules | `(tactic| trivial) => `(tactic| (unfold fa; repeat (first | exact List.mem_cons_self | apply List.mem_cons_of_mem)))
theorem never_ok {P : Program} {w : World} {K : PySem.W.Frag} {mg : Str → Option Value} {base : Heap} {k : Nat} {f : Addr} {fd : FuncData} {ps : List Str} : FnOk P w K mg base CX0 k f fd ps (fun _ _ _ _ => False) := ⟨fun _ _ _ _ h => h.elim, fun _ _ _ _ _ _ _ _ _ _ _ _ _ h => h.elim⟩
theorem raw_nil {P : Program} {w : World} {K : PySem.W.Frag} {mg : Str → Option Value} {base : Heap} {CX : CXT} {k : Nat} {f : Addr} {fd : FuncData} {ps : List Str} {sp : Sp} (F : FnOk P w K mg base CX k f fd ps sp) (b : Binds K fd ps []) : FnR P w K mg base CX k f sp := (F.raw b .nil).imp fun vs H Q E h => by rw [List.append_nil]; exact h

theorem joined {P : Program} {w : World} {K : PySem.W.Frag} {h : Heap} {mg : Str → Option Value} {f : Addr} (X : K.In h) (G : h.Ns mainGlobals mg) (hf : mg ("law" : Str) = some (.ref f)) (c : He5.SaysA fa fn K) (ex : ExK K) (base : Heap) : FnG P w K mg base CX0 18 f (spLaw K) := by
  have gl : ∀ x : Str, He.Fa.glo x ∈ fa → mg x = some (.ref (He.ga K x)) := fun x hx => He.glo_ok X G (factK c hx)
  have fr : ∀ x : Str, He.Fa.free x ∈ fa → mg x = none := fun x hx => He.free_ok X G (factK c hx)
  have gr : ∀ x : Str, He.Fa.glo x ∈ fa → ∃ u, mg x = some u ∧ RelV (.ref (He.ga K x)) u := fun x hx => ⟨_, gl x hx, rfl⟩
  have gi : ∀ (x : Str) (i : Int), He.Fa.int x i ∈ fa → ∃ u, mg x = some u ∧ RelV (.int i) u := fun x i hx => by obtain ⟨t, e⟩ := He.int_ok X G (factK c hx); exact ⟨_, e, ⟨t, rfl⟩⟩
  have gs : ∀ x z : Str, He.Fa.str x z ∈ fa → ∃ u, mg x = some u ∧ RelV (.str z) u := fun x z hx => by obtain ⟨t, e⟩ := He.str_ok X G (factK c hx); exact ⟨_, e, ⟨t, rfl⟩⟩
  have me : ∀ x m : Str, He.Fa.meth x m ∈ fa → Meth K (He.ga K x) m (He.ma K (He.ga K x) m) := fun x m hx => He.meth_ok (factK c hx)
  have m_int := fr "int" (by trivial)
  have m_len := fr "len" (by trivial)
  have m_list := fr "list" (by trivial)
  have m_range := fr "range" (by trivial)
  have m_str := fr "str" (by trivial)
  have m_isinstance := fr "isinstance" (by trivial)
  have m_all := fr "all" (by trivial)
  have m_any := fr "any" (by trivial)
  have m_tuple := fr "tuple" (by trivial)
  have m_sorted := fr "sorted" (by trivial)
  have m_max := fr "max" (by trivial)
  have m_min := fr "min" (by trivial)
  have m_dict := fr "dict" (by trivial)
  have m_KeyError := fr "KeyError" (by trivial)
  have m_enumerate := fr "enumerate" (by trivial)
  have m_abs := fr "abs" (by trivial)
  have m_set := fr "set" (by trivial)
  have m_repr := fr "repr" (by trivial)
  have m_zip := fr "zip" (by trivial)
  have OBlock : OwnC K (He.ga K "Block") fBlock := ⟨He.cls_ok (factK c (f := .cls "Block") (by trivial)), fun f hf => by
    simp only [fBlock, List.mem_cons, List.not_mem_nil, or_false] at hf
    rcases hf with rfl | rfl | rfl | rfl | rfl | rfl
    · exact He.noat_ok (factK c (f := .noat "Block" "word") (by trivial))
    · exact He.noat_ok (factK c (f := .noat "Block" "at") (by trivial))
    · exact He.noat_ok (factK c (f := .noat "Block" "fields") (by trivial))
    · exact He.noat_ok (factK c (f := .noat "Block" "part") (by trivial))
    · exact He.noat_ok (factK c (f := .noat "Block" "rows") (by trivial))
    · exact He.noat_ok (factK c (f := .noat "Block" "later") (by trivial))⟩
  have MBlock := He.mkr_ok (factK c (f := .mkr "Block") (by trivial))
  have OReader : OwnC K (He.ga K "Reader") fReader := ⟨He.cls_ok (factK c (f := .cls "Reader") (by trivial)), fun f hf => by
    simp only [fReader, List.mem_cons, List.not_mem_nil, or_false] at hf
    rcases hf with rfl | rfl | rfl | rfl | rfl
    · exact He.noat_ok (factK c (f := .noat "Reader" "told") (by trivial))
    · exact He.noat_ok (factK c (f := .noat "Reader" "blocks") (by trivial))
    · exact He.noat_ok (factK c (f := .noat "Reader" "gates") (by trivial))
    · exact He.noat_ok (factK c (f := .noat "Reader" "begun") (by trivial))
    · exact He.noat_ok (factK c (f := .noat "Reader" "deepest") (by trivial))⟩
  have MReader := He.mkr_ok (factK c (f := .mkr "Reader") (by trivial))
  have OProgram : OwnC K (He.ga K "Program") fProg := ⟨He.cls_ok (factK c (f := .cls "Program") (by trivial)), fun f hf => by
    simp only [fProg, List.mem_cons, List.not_mem_nil, or_false] at hf
    rcases hf with rfl | rfl | rfl | rfl | rfl | rfl
    · exact He.noat_ok (factK c (f := .noat "Program" "text") (by trivial))
    · exact He.noat_ok (factK c (f := .noat "Program" "job_rows") (by trivial))
    · exact He.noat_ok (factK c (f := .noat "Program" "walk_rows") (by trivial))
    · exact He.noat_ok (factK c (f := .noat "Program" "jobs") (by trivial))
    · exact He.noat_ok (factK c (f := .noat "Program" "walks") (by trivial))
    · exact He.noat_ok (factK c (f := .noat "Program" "gates") (by trivial))⟩
  have MProgram := He.mkr_ok (factK c (f := .mkr "Program") (by trivial))
  obtain ⟨fd0, D0⟩ := c.def_ 0 (d := d0) rfl
  have F0 := He5.fun_of (st := top 6) D0
  have b0 : Binds K fd0 ["value", "signs", "most"] [] := D0.bindsN fun _ _ _ _ _ _ us hl => match us, hl with | [_, _, _], _ => rfl
  obtain ⟨fd1, D1⟩ := c.def_ 1 (d := d1) rfl
  have F1 := He5.fun_of (st := top 7) D1
  have b1 : Binds K fd1 ["value"] [] := D1.bindsN fun _ _ _ _ _ _ us hl => match us, hl with | [_], _ => rfl
  obtain ⟨fd2, D2⟩ := c.def_ 2 (d := d2) rfl
  have F2 := He5.fun_of (st := top 8) D2
  have b2 : Binds K fd2 ["value"] [] := D2.bindsN fun _ _ _ _ _ _ us hl => match us, hl with | [_], _ => rfl
  obtain ⟨fd3, D3⟩ := c.def_ 3 (d := d3) rfl
  obtain ⟨fd4, D4⟩ := c.def_ 4 (d := d4) rfl
  have F4 := He5.fun_of (st := top 19) D4
  have b4 : Binds K fd4 ["text"] [] := D4.bindsN fun _ _ _ _ _ _ us hl => match us, hl with | [_], _ => rfl
  obtain ⟨fd5, D5⟩ := c.def_ 5 (d := d5) rfl
  have F5 := He5.fun_of (st := top 25) D5
  have b5 : Binds K fd5 ["reader"] [] := D5.bindsN fun _ _ _ _ _ _ us hl => match us, hl with | [_], _ => rfl
  obtain ⟨fd6, D6⟩ := c.def_ 6 (d := d6) rfl
  have F6 := He5.fun_of (st := top 26) D6
  have b6 : Binds K fd6 ["reader", "many"] [] := D6.bindsN fun _ _ _ _ _ _ us hl => match us, hl with | [_, _], _ => rfl
  obtain ⟨fd7, D7⟩ := c.def_ 7 (d := d7) rfl
  have F7 := He5.fun_of (st := top 29) D7
  have b7 : Binds K fd7 ["_law_script", "_law_k", "_law_own"] [] := D7.bindsN fun _ _ _ _ _ _ us hl => match us, hl with | [_, _, _], _ => rfl
  obtain ⟨fd8, D8⟩ := c.def_ 8 (d := d8) rfl
  have F8 := He5.fun_of (st := top 30) D8
  have b8 : Binds K fd8 ["_law_box_here", "_law_many"] [] := D8.bindsN fun _ _ _ _ _ _ us hl => match us, hl with | [_, _], _ => rfl
  obtain ⟨fd9, D9⟩ := c.def_ 9 (d := d9) rfl
  have F9 := He5.fun_of (st := top 31) D9
  have b9 : Binds K fd9 ["_law_box_here", "_law_items"] [] := D9.bindsN fun _ _ _ _ _ _ us hl => match us, hl with | [_, _], _ => rfl
  obtain ⟨fd10, D10⟩ := c.def_ 10 (d := d10) rfl
  have F10 := He5.fun_of (st := top 32) D10
  have b10 : Binds K fd10 ["_law_box_here", "_law_items"] [] := D10.bindsN fun _ _ _ _ _ _ us hl => match us, hl with | [_, _], _ => rfl
  obtain ⟨fd11, D11⟩ := c.def_ 11 (d := d11) rfl
  have F11 := He5.fun_of (st := top 33) D11
  have b11 : Binds K fd11 ["_law_box_here", "_law_many"] [] := D11.bindsN fun _ _ _ _ _ _ us hl => match us, hl with | [_, _], _ => rfl
  obtain ⟨fd12, D12⟩ := c.def_ 12 (d := d12) rfl
  have F12 := He5.fun_of (st := top 34) D12
  have b12 : Binds K fd12 ["_law_box_here", "_law_jobs", "_law_walks"] [] := D12.bindsN fun _ _ _ _ _ _ us hl => match us, hl with | [_, _, _], _ => rfl
  obtain ⟨fd13, D13⟩ := c.def_ 13 (d := d13) rfl
  have F13 := He5.fun_of (st := top 35) D13
  have b13 : Binds K fd13 ["_law_box_here", "_law_world_here", "_law_deep", "_law_is_late", "_law_kept"] [] := D13.bindsN fun _ _ _ _ _ _ us hl => match us, hl with | [_, _, _, _, _], _ => rfl
  obtain ⟨fd14, D14⟩ := c.def_ 14 (d := d14) rfl
  have F14 := He5.fun_of (st := top 36) D14
  have b14 : Binds K fd14 ["_law_box_here", "_law_world_here", "_law_deep", "_law_is_late", "_law_kept"] [] := D14.bindsN fun _ _ _ _ _ _ us hl => match us, hl with | [_, _, _, _, _], _ => rfl
  obtain ⟨fd15, D15⟩ := c.def_ 15 (d := d15) rfl
  have F15 := He5.fun_of (st := top 37) D15
  have b15 : Binds K fd15 ["_law_box_here", "_law_world_here", "_law_deep", "_law_is_late", "_law_kept"] [] := D15.bindsN fun _ _ _ _ _ _ us hl => match us, hl with | [_, _, _, _, _], _ => rfl
  obtain ⟨fd16, D16⟩ := c.def_ 16 (d := d16) rfl
  have F16 := He5.fun_of (st := top 38) D16
  have b16 : Binds K fd16 ["_law_box_here", "_law_world_here", "_law_most"] [] := D16.bindsN fun _ _ _ _ _ _ us hl => match us, hl with | [_, _, _], _ => rfl
  obtain ⟨fd17, D17⟩ := c.def_ 17 (d := d17) rfl
  have F17 := He5.fun_of (st := top 39) D17
  have b17 : Binds K fd17 ["_law_word"] [] := D17.bindsN fun _ _ _ _ _ _ us hl => match us, hl with | [_], _ => rfl
  obtain ⟨fd18, D18⟩ := c.def_ 18 (d := d18) rfl
  have F18 := He5.fun_of (st := top 40) D18
  have b18 : Binds K fd18 ["_law_stack", "_law_told", "_law_parts"] [] := D18.bindsN fun _ _ _ _ _ _ us hl => match us, hl with | [_, _, _], _ => rfl
  obtain ⟨fd19, D19⟩ := c.def_ 19 (d := d19) rfl
  have F19 := He5.fun_of (st := top 41) D19
  have b19 : Binds K fd19 ["_law_text"] [] := D19.bindsN fun _ _ _ _ _ _ us hl => match us, hl with | [_], _ => rfl
  obtain ⟨fd20, D20⟩ := c.def_ 20 (d := d20) rfl
  have F20 := He5.fun_of (st := top 42) D20
  have b20 : Binds K fd20 ["_law_text"] [] := D20.bindsN fun _ _ _ _ _ _ us hl => match us, hl with | [_], _ => rfl
  obtain ⟨fd21, D21⟩ := c.def_ 21 (d := d21) rfl
  have F21 := He5.fun_of (st := top 43) D21
  have b21 : Binds K fd21 ["_law_text"] [] := D21.bindsN fun _ _ _ _ _ _ us hl => match us, hl with | [_], _ => rfl
  obtain ⟨fd22, D22⟩ := c.def_ 22 (d := d22) rfl
  have F22 := He5.fun_of (st := top 44) D22
  have b22 : Binds K fd22 ["_law_rows_here", "_law_table"] [] := D22.bindsN fun _ _ _ _ _ _ us hl => match us, hl with | [_, _], _ => rfl
  obtain ⟨fd23, D23⟩ := c.def_ 23 (d := d23) rfl
  have F23 := He5.fun_of (st := top 45) D23
  have b23 : Binds K fd23 ["_law_rows_here"] [] := D23.bindsN fun _ _ _ _ _ _ us hl => match us, hl with | [_], _ => rfl
  obtain ⟨fd24, D24⟩ := c.def_ 24 (d := d24) rfl
  have F24 := He5.fun_of (st := top 46) D24
  have b24 : Binds K fd24 ["_law_rows_here"] [] := D24.bindsN fun _ _ _ _ _ _ us hl => match us, hl with | [_], _ => rfl
  obtain ⟨fd25, D25⟩ := c.def_ 25 (d := d25) rfl
  have F25 := He5.fun_of (st := top 47) D25
  have b25 : Binds K fd25 ["_law_rows_here"] [] := D25.bindsN fun _ _ _ _ _ _ us hl => match us, hl with | [_], _ => rfl
  obtain ⟨fd26, D26⟩ := c.def_ 26 (d := d26) rfl
  have F26 := He5.fun_of (st := top 48) D26
  have b26 : Binds K fd26 ["_law_script"] [] := D26.bindsN fun _ _ _ _ _ _ us hl => match us, hl with | [_], _ => rfl
  obtain ⟨fd27, D27⟩ := c.def_ 27 (d := d27) rfl
  have F27 := He5.fun_of (st := cls 17 0) D27
  obtain ⟨fd28, D28⟩ := c.def_ 28 (d := d28) rfl
  have F28 := He5.fun_of (st := cls 17 1) D28
  have b28 : Binds K fd28 ["self", "row"] [] := D28.bindsN fun _ _ _ _ _ _ us hl => match us, hl with | [_, _], _ => rfl
  obtain ⟨fd29, D29⟩ := c.def_ 29 (d := d29) rfl
  have F29 := He5.fun_of (st := cls 17 2) D29
  have b29 : Binds K fd29 ["self"] [] := D29.bindsN fun _ _ _ _ _ _ us hl => match us, hl with | [_], _ => rfl
  obtain ⟨fd30, D30⟩ := c.def_ 30 (d := d30) rfl
  have F30 := He5.fun_of (st := cls 17 3) D30
  have b30 : Binds K fd30 ["self", "walk"] [] := D30.bindsN fun _ _ _ _ _ _ us hl => match us, hl with | [_, _], _ => rfl
  obtain ⟨fd31, D31⟩ := c.def_ 31 (d := d31) rfl
  have F31 := He5.fun_of (st := cls 17 4) D31
  have b31 : Binds K fd31 ["self"] [] := D31.bindsN fun _ _ _ _ _ _ us hl => match us, hl with | [_], _ => rfl
  obtain ⟨fd32, D32⟩ := c.def_ 32 (d := d32) rfl
  have F32 := He5.fun_of (st := cls 18 0) D32
  have b32 : Binds K fd32 ["self"] [] := D32.bindsN fun _ _ _ _ _ _ us hl => match us, hl with | [_], _ => rfl
  obtain ⟨fd33, D33⟩ := c.def_ 33 (d := d33) rfl
  have F33 := He5.fun_of (st := cls 18 7) D33
  have b33 : Binds K fd33 ["self", "row"] [] := D33.bindsN fun _ _ _ _ _ _ us hl => match us, hl with | [_, _], _ => rfl
  obtain ⟨fd34, D34⟩ := c.def_ 34 (d := d34) rfl
  have F34 := He5.fun_of (st := cls 18 6) D34
  have b34 : Binds K fd34 ["self", "block"] [] := D34.bindsN fun _ _ _ _ _ _ us hl => match us, hl with | [_, _], _ => rfl
  obtain ⟨fd35, D35⟩ := c.def_ 35 (d := d35) rfl
  have F35 := He5.fun_of (st := cls 18 8) D35
  have b35 : Binds K fd35 ["self", "word", "at", "name"] [] := D35.bindsN fun _ _ _ _ _ _ us hl => match us, hl with | [_, _, _, _], _ => rfl
  obtain ⟨fd36, D36⟩ := c.def_ 36 (d := d36) rfl
  have F36 := He5.fun_of (st := cls 18 9) D36
  have b36 : Binds K fd36 ["self", "word"] [] := D36.bindsN fun _ _ _ _ _ _ us hl => match us, hl with | [_, _], _ => rfl
  obtain ⟨fd37, D37⟩ := c.def_ 37 (d := d37) rfl
  have F37 := He5.fun_of (st := cls 18 10) D37
  have b37 : Binds K fd37 ["self"] [] := D37.bindsN fun _ _ _ _ _ _ us hl => match us, hl with | [_], _ => rfl
  obtain ⟨fd38, D38⟩ := c.def_ 38 (d := d38) rfl
  have F38 := He5.fun_of (st := cls 18 11) D38
  have b38 : Binds K fd38 ["self"] [] := D38.bindsN fun _ _ _ _ _ _ us hl => match us, hl with | [_], _ => rfl
  obtain ⟨fd39, D39⟩ := c.def_ 39 (d := d39) rfl
  have F39 := He5.fun_of (st := cls 18 12) D39
  have b39 : Binds K fd39 ["self", "walk", "how"] [] := D39.bindsN fun _ _ _ _ _ _ us hl => match us, hl with | [_, _, _], _ => rfl
  obtain ⟨fd40, D40⟩ := c.def_ 40 (d := d40) rfl
  have F40 := He5.fun_of (st := cls 18 5) D40
  have b40 : Binds K fd40 ["self", "sort", "at", "name"] [] := D40.bindsN fun _ _ _ _ _ _ us hl => match us, hl with | [_, _, _, _], _ => rfl
  obtain ⟨fd41, D41⟩ := c.def_ 41 (d := d41) rfl
  have F41 := He5.fun_of (st := cls 18 3) D41
  have b41 : Binds K fd41 ["self", "at", "word"] [] := D41.bindsN fun _ _ _ _ _ _ us hl => match us, hl with | [_, _, _], _ => rfl
  obtain ⟨fd42, D42⟩ := c.def_ 42 (d := d42) rfl
  have F42 := He5.fun_of (st := cls 18 4) D42
  have b42 : Binds K fd42 ["self", "at", "rest"] [] := D42.bindsN fun _ _ _ _ _ _ us hl => match us, hl with | [_, _, _], _ => rfl
  obtain ⟨fd43, D43⟩ := c.def_ 43 (d := d43) rfl
  have F43 := He5.fun_of (st := cls 18 2) D43
  have b43 : Binds K fd43 ["self", "at", "word", "rest"] [] := D43.bindsN fun _ _ _ _ _ _ us hl => match us, hl with | [_, _, _, _], _ => rfl
  obtain ⟨fd44, D44⟩ := c.def_ 44 (d := d44) rfl
  have F44 := He5.fun_of (st := cls 18 1) D44
  have b44 : Binds K fd44 ["self", "at", "parts"] [] := D44.bindsN fun _ _ _ _ _ _ us hl => match us, hl with | [_, _, _], _ => rfl
  obtain ⟨fd45, D45⟩ := c.def_ 45 (d := d45) rfl
  have F45 := He5.fun_of (st := cls 27 0) D45
  have b45 : Binds K fd45 ["self", "text", "reader"] [] := D45.bindsN fun _ _ _ _ _ _ us hl => match us, hl with | [_, _, _], _ => rfl
  obtain ⟨fd46, D46⟩ := c.def_ 46 (d := d46) rfl
  have F46 := He5.fun_of (st := cls 27 3) D46
  have b46 : Binds K fd46 ["self"] [] := D46.bindsN fun _ _ _ _ _ _ us hl => match us, hl with | [_], _ => rfl
  obtain ⟨fd47, D47⟩ := c.def_ 47 (d := d47) rfl
  have F47 := He5.fun_of (st := cls 27 4) D47
  have b47 : Binds K fd47 ["self"] [] := D47.bindsN fun _ _ _ _ _ _ us hl => match us, hl with | [_], _ => rfl
  obtain ⟨fd48, D48⟩ := c.def_ 48 (d := d48) rfl
  have F48 := He5.fun_of (st := cls 27 5) D48
  have b48 : Binds K fd48 ["self", "other"] [] := D48.bindsN fun _ _ _ _ _ _ us hl => match us, hl with | [_, _], _ => rfl
  obtain ⟨fd49, D49⟩ := c.def_ 49 (d := d49) rfl
  have F49 := He5.fun_of (st := cls 12 0) D49
  have b49 : Binds K fd49 ["self", "at"] [] := D49.bindsN fun _ _ _ _ _ _ us hl => match us, hl with | [_, _], _ => rfl
  obtain ⟨fd50, D50⟩ := c.def_ 50 (d := d50) rfl
  have F50 := He5.fun_of (st := cls 14 0) D50
  have b50 : Binds K fd50 ["self", "name"] [] := D50.bindsN fun _ _ _ _ _ _ us hl => match us, hl with | [_, _], _ => rfl
  obtain ⟨fd51, D51⟩ := c.def_ 51 (d := d51) rfl
  have F51 := He5.fun_of (st := cls 27 1) D51
  have b51 : Binds K fd51 ["text"] [] := D51.bindsN fun _ _ _ _ _ _ us hl => match us, hl with | [_], _ => rfl
  have c_l_take : C8.Cal P w K mg base 1 "_law_take" spTake [] := ⟨_, _, _, [], ok_take F8 m_int, gl "_law_take" (by trivial), D8.kp, b8, .nil⟩
  have c_l_mixed : C8.Cal P w K mg base 3 "_law_mixed" (spMixed K) [] := ⟨_, _, _, [], ok_mixed F9 c_l_take m_len m_list, gl "_law_mixed" (by trivial), D9.kp, b9, .nil⟩
  have c_l_pick : C8.Cal P w K mg base 2 "_law_pick" (spPick K) [] := ⟨_, _, _, [], ok_pick F10 c_l_take m_len, gl "_law_pick" (by trivial), D10.kp, b10, .nil⟩
  have c_l_names : C8.Cal P w K mg base 4 "_law_names" spNames [] := ⟨_, _, _, [], ok_names F11 c_l_take c_l_mixed m_int m_range, gl "_law_names" (by trivial), D11.kp, b11, .nil⟩
  have c_l_world : C8.Cal P w K mg base 5 "_law_world" spWorld [] := ⟨_, _, _, [], ok_world F12 c_l_take c_l_names, gl "_law_world" (by trivial), D12.kp, b12, .nil⟩
  have blk0 : C8.Cal P w K mg base 2 "_law_block" (spDeeper 0) [] := ⟨_, _, _, [], never_ok, gl "_law_block" (by trivial), D15.kp, b15, .nil⟩
  have row0 : C8.Cal P w K mg base 3 "_law_row" (spDraw 10 3 0) [] := ⟨_, _, _, [], ok_row (m := 0) (by decide) F14 c_l_take c_l_pick blk0, gl "_law_row" (by trivial), D14.kp, b14, .nil⟩
  have rows0 : C8.Cal P w K mg base 4 "_law_rows" (spDraw 10 0 0) [] := ⟨_, _, _, [], ok_rows (by decide) F13 c_l_take row0 m_range, gl "_law_rows" (by trivial), D13.kp, b13, .nil⟩
  have blk1 : C8.Cal P w K mg base 5 "_law_block" (spDeeper 1) [] := ⟨_, _, _, [], ok_block (by decide) F15 c_l_take c_l_pick rows0 m_str m_int, gl "_law_block" (by trivial), D15.kp, b15, .nil⟩
  have row1 : C8.Cal P w K mg base 6 "_law_row" (spDraw 10 3 1) [] := ⟨_, _, _, [], ok_row (m := 1) (by decide) F14 c_l_take c_l_pick blk1, gl "_law_row" (by trivial), D14.kp, b14, .nil⟩
  have rows1 : C8.Cal P w K mg base 7 "_law_rows" (spDraw 10 0 1) [] := ⟨_, _, _, [], ok_rows (by decide) F13 c_l_take row1 m_range, gl "_law_rows" (by trivial), D13.kp, b13, .nil⟩
  have blk2 : C8.Cal P w K mg base 8 "_law_block" (spDeeper 2) [] := ⟨_, _, _, [], ok_block (by decide) F15 c_l_take c_l_pick rows1 m_str m_int, gl "_law_block" (by trivial), D15.kp, b15, .nil⟩
  have row2 : C8.Cal P w K mg base 9 "_law_row" (spDraw 10 3 2) [] := ⟨_, _, _, [], ok_row (m := 2) (by decide) F14 c_l_take c_l_pick blk2, gl "_law_row" (by trivial), D14.kp, b14, .nil⟩
  have rows2 : C8.Cal P w K mg base 10 "_law_rows" (spDraw 10 0 2) [] := ⟨_, _, _, [], ok_rows (by decide) F13 c_l_take row2 m_range, gl "_law_rows" (by trivial), D13.kp, b13, .nil⟩
  have blk3 : C8.Cal P w K mg base 11 "_law_block" (spDeeper 3) [] := ⟨_, _, _, [], ok_block (by decide) F15 c_l_take c_l_pick rows2 m_str m_int, gl "_law_block" (by trivial), D15.kp, b15, .nil⟩
  have row3 : C8.Cal P w K mg base 12 "_law_row" (spDraw 10 3 3) [] := ⟨_, _, _, [], ok_row (m := 3) (by decide) F14 c_l_take c_l_pick blk3, gl "_law_row" (by trivial), D14.kp, b14, .nil⟩
  have rows3 : C8.Cal P w K mg base 13 "_law_rows" (spDraw 10 0 3) [] := ⟨_, _, _, [], ok_rows (by decide) F13 c_l_take row3 m_range, gl "_law_rows" (by trivial), D13.kp, b13, .nil⟩
  have blk4 : C8.Cal P w K mg base 14 "_law_block" (spDeeper 4) [] := ⟨_, _, _, [], ok_block (by decide) F15 c_l_take c_l_pick rows3 m_str m_int, gl "_law_block" (by trivial), D15.kp, b15, .nil⟩
  have row4 : C8.Cal P w K mg base 15 "_law_row" (spDraw 10 3 4) [] := ⟨_, _, _, [], ok_row (m := 4) (by decide) F14 c_l_take c_l_pick blk4, gl "_law_row" (by trivial), D14.kp, b14, .nil⟩
  have rows4 : C8.Cal P w K mg base 16 "_law_rows" (spDraw 10 0 4) [] := ⟨_, _, _, [], ok_rows (by decide) F13 c_l_take row4 m_range, gl "_law_rows" (by trivial), D13.kp, b13, .nil⟩
  have c_l_program : C8.Cal P w K mg base 17 "_law_program" spProgram [] := ⟨_, _, _, [], ok_program (by decide) F16 c_l_mixed rows4 m_len m_list m_range, gl "_law_program" (by trivial), D16.kp, b16, .nil⟩
  have c_is_made_of : C8.Cal P w K mg base 1 "is_made_of" spMade [] := ⟨_, _, _, [], ok_made F0 m_isinstance m_str m_len m_all, gl "is_made_of" (by trivial), D0.kp, b0, .nil⟩
  have c_is_name : C8.Cal P w K mg base 2 "is_name" spName [] := ⟨_, _, _, [], ok_name F1 c_is_made_of (gs "SMALL" _ (by trivial)) (gr "LANGUAGE" (by trivial)) ex.tLang, gl "is_name" (by trivial), D1.kp, b1, .nil⟩
  have c_is_times : C8.Cal P w K mg base 2 "is_times" spTimes [] := ⟨_, _, _, [], ok_times' F2 c_is_made_of (gs "DIGITS" _ (by trivial)), gl "is_times" (by trivial), D2.kp, b2, .nil⟩
  have c_Block_add : C8.Met P w K mg base 1 (He.ga K "Block") "add" (spBadd (He.ga K "Block")) [] := ⟨_, _, _, [], OBlock.cl, me "Block" "add" (by trivial), ok_badd OBlock F28, b28, .nil⟩
  have c_Block_is_guarding : C8.Met P w K mg base 1 (He.ga K "Block") "is_guarding" (spBis (He.ga K "Block")) [] := ⟨_, _, _, [], OBlock.cl, me "Block" "is_guarding" (by trivial), ok_bis OBlock F29, b29, .nil⟩
  have c_Block_keeps : C8.Met P w K mg base 1 (He.ga K "Block") "keeps" (spBkeeps (He.ga K "Block")) [] := ⟨_, _, _, [], OBlock.cl, me "Block" "keeps" (by trivial), ok_bkeeps OBlock F30, b30, .nil⟩
  have c_Block_made : C8.Met P w K mg base 1 (He.ga K "Block") "made" (spBmade (He.ga K "Block")) [] := ⟨_, _, _, [], OBlock.cl, me "Block" "made" (by trivial), ok_bmade OBlock F31 m_tuple, b31, .nil⟩
  have c_Block : MakR P w K mg base 1 "Block" (He.ga K "Block") (spBinit (He.ga K "Block")) := ⟨_, MBlock, ok_binit OBlock F27, gl "Block" (by trivial)⟩
  have c_Reader : C8.Mak P w K mg base 1 "Reader" (He.ga K "Reader") (spRinit (He.ga K "Block") (He.ga K "Reader")) [] := ⟨_, _, _, [], MReader, ok_rinit OReader F32, gl "Reader" (by trivial), b32, .nil⟩
  have c_Reader_added : C8.Met P w K mg base 2 (He.ga K "Reader") "added" (spRadded (He.ga K "Block") (He.ga K "Reader")) [] := ⟨_, _, _, [], OReader.cl, me "Reader" "added" (by trivial), ok_radded OReader F33 c_Block_add, b33, .nil⟩
  have c_Reader_opened : C8.Met P w K mg base 1 (He.ga K "Reader") "opened" (spRopened (He.ga K "Block") (He.ga K "Reader")) [] := ⟨_, _, _, [], OReader.cl, me "Reader" "opened" (by trivial), ok_ropened OReader F34 m_len m_max, b34, .nil⟩
  have c_Reader_named : C8.Met P w K mg base 3 (He.ga K "Reader") "named" (spRnamed (He.ga K "Block") (He.ga K "Reader")) [] := ⟨_, _, _, [], OReader.cl, me "Reader" "named" (by trivial), ok_rnamed OReader F35 c_Reader_added, b35, .nil⟩
  have c_Reader_turned : C8.Met P w K mg base 2 (He.ga K "Reader") "turned" (spRturned (He.ga K "Block") (He.ga K "Reader")) [] := ⟨_, _, _, [], OReader.cl, me "Reader" "turned" (by trivial), ok_rturned OBlock OReader F36 c_Block_is_guarding, b36, .nil⟩
  have c_Reader_ended : C8.Met P w K mg base 3 (He.ga K "Reader") "ended" (spRended (He.ga K "Block") (He.ga K "Reader")) [] := ⟨_, _, _, [], OReader.cl, me "Reader" "ended" (by trivial), ok_rended OBlock OReader F37 c_Block_is_guarding c_Block_made c_Reader_added m_tuple, b37, .nil⟩
  have c_Reader_may_give : C8.Met P w K mg base 1 (He.ga K "Reader") "may_give" (spRgive (He.ga K "Block") (He.ga K "Reader")) [] := ⟨_, _, _, [], OReader.cl, me "Reader" "may_give" (by trivial), ok_rgive OBlock OReader F38 m_any, b38, .nil⟩
  have c_Reader_may_pull : C8.Met P w K mg base 2 (He.ga K "Reader") "may_pull" (spRpull (He.ga K "Block") (He.ga K "Reader")) [] := ⟨_, _, _, [], OReader.cl, me "Reader" "may_pull" (by trivial), ok_rpull OBlock OReader F39 c_Block_keeps m_any (gr "HOWS" (by trivial)) ex.tHows, b39, .nil⟩
  have c_Reader_opened_definition : C8.Met P w K mg base 3 (He.ga K "Reader") "opened_definition" (spRdef (He.ga K "Block") (He.ga K "Reader")) [] := ⟨_, _, _, [], OReader.cl, me "Reader" "opened_definition" (by trivial), ok_rdef OReader F40 c_is_name c_Block, b40, .nil⟩
  have c_Reader_alone : C8.Met P w K mg base 3 (He.ga K "Reader") "alone" (spRalone (He.ga K "Block") (He.ga K "Reader")) [] := ⟨_, _, _, [], OReader.cl, me "Reader" "alone" (by trivial), ok_ralone OReader F41 c_Reader_turned c_Reader_opened c_Block c_Reader_may_give c_Reader_added, b41, .nil⟩
  have c_Reader_pulled : C8.Met P w K mg base 3 (He.ga K "Reader") "pulled" (spRpulled (He.ga K "Block") (He.ga K "Reader")) [] := ⟨_, _, _, [], OReader.cl, me "Reader" "pulled" (by trivial), ok_rpulled OReader F42 c_Reader_may_pull c_Reader_opened c_Block c_is_times m_all m_int, b42, .nil⟩
  have c_Reader_within : C8.Met P w K mg base 4 (He.ga K "Reader") "within" (spRwithin (He.ga K "Block") (He.ga K "Reader")) [] := ⟨_, _, _, [], OReader.cl, me "Reader" "within" (by trivial), ok_rwithin OReader F43 c_Reader_named c_Reader_opened c_Reader_pulled c_Reader_alone c_Block c_is_times c_is_name m_len m_int (gr "NAMED" (by trivial)) ex.tNamed, b43, .nil⟩
  have c_Reader_take : C8.Met P w K mg base 5 (He.ga K "Reader") "take" (spTaken (He.ga K "Block") (He.ga K "Reader")) [] := ⟨_, _, _, [], OReader.cl, me "Reader" "take" (by trivial), ok_taken OReader F44 c_Reader_opened_definition c_Reader_ended c_Reader_within m_len, b44, .nil⟩
  have okc : FnOk P w K mg base CX0 1 _ fd3 ["value", "deep"] spCopy := ok_copy D3 m_isinstance m_list m_dict m_tuple (fun a ha b hb => by
    simp only [List.mem_cons, List.not_mem_nil, or_false] at ha hb
    rcases ha with rfl | rfl <;> rcases hb with rfl | rfl | rfl
    · exact ex.k_int_list
    · exact ex.k_int_dict
    · exact ex.k_int_tuple
    · exact ex.k_str_list
    · exact ex.k_str_dict
    · exact ex.k_str_tuple)
  obtain ⟨dsc, vdc, bdc⟩ := D3.binds1 (ps := ["value", "deep"]) 1 0 (by intro z; cases z) rfl fun T kV doc pm an cdv ct us its h1 h2 => match us, its, h1, h2 with | [_], [_], _, _ => ⟨_, rfl, rfl⟩
  have c_own_copy : C8.Cal P w K mg base 1 "own_copy" spCopy [.int 9] := ⟨_, _, _, dsc, okc, gl "own_copy" (by trivial), D3.kp, bdc, vdc⟩
  have kE := He.keep_ok (factK c (f := .keep "BadRow") (by trivial))
  have kU := He.keep_ok (factK c (f := .keep "Unknown") (by trivial))
  have kT := He.keep_ok (factK c (f := .keep "TooMany") (by trivial))
  have nE := He.noat_ok (factK c (f := .noat "BadRow" "at") (by trivial))
  have nU := He.noat_ok (factK c (f := .noat "Unknown" "name") (by trivial))
  have oE : OexC K (He.ga K "BadRow") := ⟨ex.oEc, ex.saE, ex.suE, ex.tyE, kE⟩
  have oT : OexC K (He.ga K "TooMany") := ⟨ex.oTc, ex.saT, ex.suT, ex.tyT, kT⟩
  have oU : KexC K (He.ga K "Unknown") := ⟨ex.kUc, ex.saU, ex.suU, ex.tyU, kU⟩
  have okE := ok_bad (P := P) (w := w) (base := base) F49 oE nE c_own_copy (gl "LateError" (by trivial)) ex.rdL ex.sgL ex.vvL
  have c_BadRow : MakO P w K mg base 2 "BadRow" (He.ga K "BadRow") (spBad (He.ga K "BadRow")) := ⟨_, _, _, oE, ex.inE, ex.itE, okE, b49, gl "BadRow" (by trivial)⟩
  have c_TooMany : MakO P w K mg base 2 "TooMany" (He.ga K "TooMany") (fun _ _ _ _ => False) := ⟨_, _, _, oT, ex.inT, ex.itT, never_ok, b49, gl "TooMany" (by trivial)⟩
  have okU := ok_unk (P := P) (w := w) (base := base) F50 oU nU c_own_copy m_KeyError ex.vvK
  have c_Unknown : MakK P w K mg base 2 "Unknown" (He.ga K "Unknown") (spUnk (He.ga K "Unknown")) := ⟨_, _, _, oU, ex.inU, ex.itU, okU, b50, gl "Unknown" (by trivial)⟩
  have c_read_rows : CalX P w K mg base 6 "read_rows" (spRead (He.ga K "Block") (He.ga K "Reader") (He.ga K "BadRow")) [] := ⟨_, _, _, [], ok_read OReader F4 c_Reader c_Reader_take c_BadRow m_enumerate m_len, gl "read_rows" (by trivial), D4.kp, b4, .nil⟩
  have c_look_at_names : CalX P w K mg base 4 "look_at_names" (spLookN (He.ga K "Block") (He.ga K "Reader") (He.ga K "Unknown")) [] := ⟨_, _, _, [], ok_lookN OReader F5 c_Unknown, gl "look_at_names" (by trivial), D5.kp, b5, .nil⟩
  have c_look_at_size : CalX P w K mg base 4 "look_at_size" (spLookS (He.ga K "Block") (He.ga K "Reader")) [] := ⟨_, _, _, [], ok_lookS OReader F6 c_TooMany m_len (gi "MOST_ROWS" _ (by trivial)) (gi "MOST_JOBS" _ (by trivial)) (gi "MOST_WALKS" _ (by trivial)) (gi "MOST_DEEP" _ (by trivial)), gl "look_at_size" (by trivial), D6.kp, b6, .nil⟩
  have c_Program : C8.Mak P w K mg base 1 "Program" (He.ga K "Program") (spPinit (He.ga K "Block") (He.ga K "Reader") (He.ga K "Program")) [] := ⟨_, _, _, [], MProgram, ok_pinit OReader OProgram F45 m_tuple m_sorted, gl "Program" (by trivial), b45, .nil⟩
  have Fread := raw_nil (ok_pread (P := P) (w := w) (base := base) F51 c_read_rows c_look_at_names c_look_at_size c_Program m_len) b51
  have S : SMet K (He.ga K "Program") "read" (He.ma K (He.ga K "Program") "read") (He5.wf K (He.ga K "Program") "staticmethod" "read") := ⟨ex.rdP, ex.sgP, ex.wrap.1, ex.wrap.2, D51.kp⟩
  have iP : C8.InsC K (He.ga K "Program") := ⟨OProgram.cl, ex.clP, ex.gsd, ex.tkd, ex.moP, ex.meP⟩
  have gP := gr "Program" (by trivial)
  have Fstr := raw_nil (ok_pstr (P := P) (w := w) (base := base) OProgram F46 m_str) b46
  have mFstr := me "Program" "__str__" (by trivial)
  have Flen := raw_nil (ok_plen (P := P) (w := w) (base := base) OProgram F47 m_len) b47
  have mFlen := me "Program" "__len__" (by trivial)
  have Feq := raw_nil (ok_peq (P := P) (w := w) (base := base) OProgram F48 iP m_isinstance gP) b48
  have mFeq := me "Program" "__eq__" (by trivial)
  have c_l_is_name : C8.Cal P w K mg base 1 "_law_is_name" spName [] := ⟨_, _, _, [], ok_lname F17 m_len, gl "_law_is_name" (by trivial), D17.kp, b17, .nil⟩
  have c_l_is_bad : C8.Cal P w K mg base 2 "_law_is_bad" spLbad [] := ⟨_, _, _, [], ok_lbad F18 c_l_is_name m_len m_list, gl "_law_is_bad" (by trivial), D18.kp, b18, .nil⟩
  have c_l_read_due : C8.Cal P w K mg base 3 "_law_read_due" spLdue [] := ⟨_, _, _, [], ok_ldue F19 c_l_is_bad m_len m_enumerate m_tuple m_max m_int, gl "_law_read_due" (by trivial), D19.kp, b19, .nil⟩
  have c_l_due_heard : C8.Cal P w K mg base 4 "_law_due_heard" spLdh [] := ⟨_, _, _, [], ok_ldh F21 c_l_read_due, gl "_law_due_heard" (by trivial), D21.kp, b21, .nil⟩
  have c_l_named : C8.Cal P w K mg base 1 "_law_named" spLnamed [] := ⟨_, _, _, [], ok_lnamed F22, gl "_law_named" (by trivial), D22.kp, b22, .nil⟩
  have c_l_definitions : C8.Cal P w K mg base 1 "_law_definitions" spLdefs [] := ⟨_, _, _, [], ok_ldefs F24 m_len, gl "_law_definitions" (by trivial), D24.kp, b24, .nil⟩
  have c_l_all_names : C8.Cal P w K mg base 1 "_law_all_names" spLall [] := ⟨_, _, _, [], ok_lall F23 m_sorted m_set, gl "_law_all_names" (by trivial), D23.kp, b23, .nil⟩
  have c_l_box : C8.Cal P w K mg base 1 "_law_box" (spLbox K) [] := ⟨_, _, _, [], ok_lbox F7 m_len m_abs m_int, gl "_law_box" (by trivial), D7.kp, b7, .nil⟩
  have xE : ExcC K (He.ga K "BadRow") := ⟨ex.gaE, ex.ggE, ex.suE, ex.hdE, ex.clE, ex.gsd, ex.tkd, ex.moE⟩
  have xU : ExcC K (He.ga K "Unknown") := ⟨ex.gaU, ex.ggU, ex.suU, ex.hdU, ex.clU, ex.gsd, ex.tkd, ex.moU⟩
  have yE : XfC K (He.ga K "BadRow") := ⟨ex.gaE, ex.ggE, ex.suE, ex.hdE⟩
  have yU : XfC K (He.ga K "Unknown") := ⟨ex.gaU, ex.ggU, ex.suU, ex.hdU⟩
  have eEE := He.exm_ok (factK c (f := .exm "BadRow" "BadRow" true) (by trivial))
  have eUE := He.exm_ok (factK c (f := .exm "Unknown" "BadRow" false) (by trivial))
  have eUU := He.exm_ok (factK c (f := .exm "Unknown" "Unknown" true) (by trivial))
  have c_l_heard : C8.Cal P w K mg base 8 "_law_heard" spLdh [] := ⟨_, _, _, [], ok_heard F20 ex.cc ex.cp Fstr mFstr.at_ mFstr.fn S Fread gP (gr "LateError" (by trivial)) (gr "TooMany" (by trivial)) (gl "BadRow" (by trivial)) (gl "Unknown" (by trivial)) (gl "TooMany" (by trivial)) m_str m_isinstance xE xU yE yU nE nU eEE eUE eUU ex.kEL ex.kET ex.kUL, gl "_law_heard" (by trivial), D20.kp, b20, .nil⟩
  have Fbeg := ok_begins (P := P) (w := w) (base := base) F25 b25 c_l_heard c_l_due_heard m_range m_len m_repr
  have hfl := gl "law" (by trivial)
  have ef : f = He.ga K "law" := by rw [hf] at hfl; exact Value.ref.inj (Option.some.inj hfl)
  subst ef
  exact ok_law F26 b26 ex.cc ex.cp OProgram c_l_box c_l_take c_l_mixed c_l_world c_l_program c_l_all_names c_l_named c_l_definitions Fbeg (gl "_law_begins_right" (by trivial)) (He.keep_ok (factK c (f := .keep "_law_begins_right") (by trivial))) S Fread gP Flen mFlen.at_ mFlen.fn Feq ex.neP mFeq.at_ mFeq.fn ex.moP m_range m_max m_min m_len m_dict m_list m_tuple m_sorted m_enumerate m_zip
end K8
set_option Elab.async false
set_option linter.all false
set_option maxRecDepth 100000
set_option maxHeartbeats 0
open PySem PySem.W PySem.Calls PyProof.Rows
theorem PySem.Challenge.cw_lateyields_k08_whole_programs_put_togeth_holds : PySem.Challenge.rw_lateyields_k08_whole_programs_put_togeth.Holds := by
  w_on; o_law
  refine HandSHeadRun.head_any (r := K8.R) (q := view K8.R.prog [48]) (H := K8.hk) (ob := K8.ob) (M := 4000) (loose := K8.loose) (d := HandSHeadRun.topDef K8.R.prog 48) (kwd := []) K8.ob_eq
    (by kernel_rfl) (fun s => by kernel_rfl) K8.run (by kernel_rfl) (by kernel_rfl) (by kernel_rfl) (by rfl) (by first | assumption | decide +kernel) (by decide +kernel)
    ⟨rfl, rfl, rfl, rfl, rfl, by decide +kernel⟩ ?hw ?hc
  case hw => w_witness2
  case hc =>
    refine K8.end_ofG (l := PySem.Challenge.rw_lateyields_k08_whole_programs_put_togeth) (n := 63) (k := 18) rfl (by decide) (by kernel_rfl) ⟨rfl, by decide, by decide⟩ ?F
    intro w mg fl h Y G hm
    obtain ⟨K, kin, c, e⟩ := Y
    have en : (HandSHeadRun.topDef K8.R.prog 48).name = ("law" : PySem.Str) := by kernel_rfl
    rw [en] at hm
    exact ⟨K, K8.spLaw K, kin, fun H a ns hl hS => ⟨a, ns, rfl, hS, hl, fun _ => rfl⟩, fun base _ _ => K8.joined kin G hm c (K8.exK_ok e) base⟩
