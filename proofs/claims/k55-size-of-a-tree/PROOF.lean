import PyProof.Rows.All
import Wide.All
import OpenK.AllK
import Wide.FinOn
import HandS.ForMost
import HandS.Walk
import HandS.ExcOwn
import HandS.ExcInit
import HandS.CallSlots
import HandS.TryOnly
import HandS.Words
import HandS.WordsExc
import HandS.Defaults
import HandS.TupMul
import HandS.TupAny
import HandS.HeadHook1
import HandS.HeadHook2
import HandS.Text
import HandS.Codes
import KE.SortData
import HandS.HeadEnd
import HandS.RaiseMore
import PyProof.ReprReads
import PyProof.ReprLen
import PySem.Challenge.RW_keepsapart_k55_the_size_of_a_tree
import HandS.Head0
import HandS.Head1
import HandS.Head2
set_option Elab.async false
set_option linter.all false
set_option maxRecDepth 100000
set_option maxHeartbeats 4000000
/-! The abstract machine: values without addresses, a heap of cells by number, and what it means that the layer's heap bears them. -/
namespace Ab
open PySem PySem.Spec PyProof.Rows L2

/-- values; li: the l-th cell of the abstract heap (a list or an instance that may change) -/
inductive A where
  | non | bl (b : Bool) | int (i : Int) | str (s : Str) | txt (s : Str)
  | tup (xs : List A) | lst (xs : List A) | dct (kvs : List (Key × A)) | ins (c : Str) (fs : List (Str × A)) | li (l : Nat)
/-- a text of code points -/
def sOk (s : Str) : Bool := s.cps.toList.all fun c => decide (c < 0x110000)
inductive Cell where
  | lst (xs : List A) | ins (c : Str) (fs : List (Str × A)) | dead
abbrev AH := List Cell
abbrev Env := List (Option A)
/-- where the cells stand (none: given up), and what is hidden for a while -/
structure Mp where
  c : List (Option Addr)
  z : List Addr
def Mp.push (m : Mp) (p : Addr) : Mp := ⟨m.c ++ [some p], m.z⟩
def Mp.kill (m : Mp) (l : Nat) : Mp := ⟨m.c.set l none, m.z⟩
def Mp.hide (m : Mp) (d : Addr) : Mp := ⟨m.c, d :: m.z⟩
def Mp.bare (m : Mp) (z : List Addr) : Mp := ⟨m.c, z⟩

def Off (m : Mp) (p : Addr) : Prop := (∀ i : Nat, m.c[i]? ≠ some (some p)) ∧ p ∉ m.z

mutual
inductive Rep (K : PySem.W.Frag) (m : Mp) (H : Hp) : V → A → Prop where
  | non : Rep K m H .non .non
  | bl {b} : Rep K m H (.bl b) (.bl b)
  | int {i} : Rep K m H (.int i) (.int i)
  | str {s} : sOk s = true → Rep K m H (.str s) (.str s)
  | txt {s} : Rep K m H (.str s) (.txt s)
  | tup {p vs xs} : Rd H p (.tup vs) → Off m p → Reps K m H vs xs → Rep K m H (.ref p) (.tup xs)
  | tupK {p vs xs} : (∃ (o : Obj) (its : Array Value) (n : Nat), K.lookup p = some o ∧ o.cls = .type "tuple" ∧ o.data = .seq its n ∧ its.size ≤ sizeLine ∧ Vals vs its.toList) → Reps K m H vs xs → Rep K m H (.ref p) (.tup xs)
  | lst {p vs xs} : Rd H p (.lst vs) → Off m p → Reps K m H vs xs → Rep K m H (.ref p) (.lst xs)
  | lstK {p vs xs} : (∃ (o : Obj) (its : Array Value) (n : Nat), K.lookup p = some o ∧ o.cls = .type "list" ∧ o.dict = none ∧ o.data = .seq its n ∧ its.size ≤ sizeLine ∧ Vals vs its.toList) → Reps K m H vs xs → Rep K m H (.ref p) (.lst xs)
  | dct {p kvs us} : H p = some (.dK kvs) → Off m p → RepK K m H kvs us → Rep K m H (.ref p) (.dct us)
  | ins {p dx ffs c fs} : H p = some (.ins (He.ga K c) dx ffs) → Off m p → RepF K m H ffs fs → Rep K m H (.ref p) (.ins c fs)
  | li {l a} : m.c[l]? = some (some a) → Rep K m H (.ref a) (.li l)
  | ded {l v} : m.c[l]? = some none → Rep K m H v (.li l)
inductive Reps (K : PySem.W.Frag) (m : Mp) (H : Hp) : List V → List A → Prop where
  | nil : Reps K m H [] []
  | cons {v a vs xs} : Rep K m H v a → Reps K m H vs xs → Reps K m H (v :: vs) (a :: xs)
inductive RepF (K : PySem.W.Frag) (m : Mp) (H : Hp) : List (Str × V) → List (Str × A) → Prop where
  | nil : RepF K m H [] []
  | cons {f v a vs xs} : Rep K m H v a → RepF K m H vs xs → RepF K m H ((f, v) :: vs) ((f, a) :: xs)
inductive RepK (K : PySem.W.Frag) (m : Mp) (H : Hp) : List (Key × V) → List (Key × A) → Prop where
  | nil : RepK K m H [] []
  | cons {f v a vs xs} : Rep K m H v a → RepK K m H vs xs → RepK K m H ((f, v) :: vs) ((f, a) :: xs)
end

theorem upd_none {H : Hp} {a p : Addr} {o : HO} (h : upd H a o p = none) : H p = none := by
  by_cases e : p = a
  · subst e; rw [upd_same] at h; cases h
  · rw [upd_ne e] at h; exact h
structure Grow (m : Mp) (H : Hp) (m' : Mp) (H' : Hp) : Prop where
  ext : ∀ i : Nat, i < m.c.length → m'.c[i]? = m.c[i]? ∨ m'.c[i]? = some none
  len : m.c.length ≤ m'.c.length
  frm : ∀ p o, H p = some o → Off m p → H' p = some o ∧ Off m' p
  dom : ∀ p, H' p = none → H p = none
structure Step (m : Mp) (H : Hp) (m' : Mp) (H' : Hp) : Prop extends Grow m H m' H' where
  zeq : m'.z = m.z
  hid : ∀ d ∈ m.z, H' d = H d

section
variable {K : PySem.W.Frag} {m m' m'' : Mp} {H H' H'' : Hp}
theorem Grow.refl : Grow m H m H := ⟨fun _ _ => .inl rfl, Nat.le_refl _, fun _ _ h o => ⟨h, o⟩, fun _ h => h⟩
theorem Step.refl : Step m H m H := ⟨Grow.refl, rfl, fun _ _ => rfl⟩
theorem Grow.trans (a : Grow m H m' H') (b : Grow m' H' m'' H'') : Grow m H m'' H'' := by
  refine ⟨fun i hi => ?_, Nat.le_trans a.len b.len, fun p o h f => ?_, fun p h => a.dom p (b.dom p h)⟩
  · have hi' : i < m'.c.length := Nat.lt_of_lt_of_le hi a.len
    rcases b.ext i hi' with e | e
    · rcases a.ext i hi with e2 | e2
      · exact .inl (e.trans e2)
      · exact .inr (e.trans e2)
    · exact .inr e
  · obtain ⟨h1, f1⟩ := a.frm p o h f
    exact b.frm p o h1 f1
theorem Step.trans (a : Step m H m' H') (b : Step m' H' m'' H'') : Step m H m'' H'' := ⟨a.toGrow.trans b.toGrow, b.zeq.trans a.zeq, fun d hd => (b.hid d (by rw [a.zeq]; exact hd)).trans (a.hid d hd)⟩
theorem Grow.rd (s : Grow m H m' H') {p : Addr} {u : HO} (h : Rd H p u) (f : Off m p) : Rd H' p u ∧ Off m' p := by
  rcases h with h | ⟨o, h⟩
  · exact ⟨.inl (s.frm p _ h f).1, (s.frm p _ h f).2⟩
  · exact ⟨.inr ⟨o, (s.frm p _ h f).1⟩, (s.frm p _ h f).2⟩
theorem Grow.li (s : Grow m H m' H') {l : Nat} {x : Option Addr} (h : m.c[l]? = some x) : m'.c[l]? = some x ∨ m'.c[l]? = some none := by
  have hl : l < m.c.length := (List.getElem?_eq_some_iff.mp h).1
  rcases s.ext l hl with e | e
  · exact .inl (e.trans h)
  · exact .inr e
mutual
theorem Rep.grow (s : Grow m H m' H') : ∀ {v : V} {a : A}, Rep K m H v a → Rep K m' H' v a
  | _, _, .non => .non
  | _, _, .bl => .bl
  | _, _, .int => .int
  | _, _, .str q => .str q
  | _, _, .txt => .txt
  | _, _, .tup h f r => .tup (s.rd h f).1 (s.rd h f).2 (r.grow s)
  | _, _, .tupK h r => .tupK h (r.grow s)
  | _, _, .lst h f r => .lst (s.rd h f).1 (s.rd h f).2 (r.grow s)
  | _, _, .lstK h r => .lstK h (r.grow s)
  | _, _, .dct h f r => .dct (s.frm _ _ h f).1 (s.frm _ _ h f).2 (r.grow s)
  | _, _, .ins h f r => .ins (s.frm _ _ h f).1 (s.frm _ _ h f).2 (r.grow s)
  | _, _, .li h => match s.li h with
    | .inl e => .li e
    | .inr e => .ded e
  | _, _, .ded h => match s.li h with
    | .inl e => .ded e
    | .inr e => .ded e
theorem Reps.grow (s : Grow m H m' H') : ∀ {vs : List V} {xs : List A}, Reps K m H vs xs → Reps K m' H' vs xs
  | _, _, .nil => .nil
  | _, _, .cons r t => .cons (r.grow s) (t.grow s)
theorem RepF.grow (s : Grow m H m' H') : ∀ {vs : List (Str × V)} {xs : List (Str × A)}, RepF K m H vs xs → RepF K m' H' vs xs
  | _, _, .nil => .nil
  | _, _, .cons r t => .cons (r.grow s) (t.grow s)
theorem RepK.grow (s : Grow m H m' H') : ∀ {vs : List (Key × V)} {xs : List (Key × A)}, RepK K m H vs xs → RepK K m' H' vs xs
  | _, _, .nil => .nil
  | _, _, .cons r t => .cons (r.grow s) (t.grow s)
end
theorem Rep.step (s : Step m H m' H') {v : V} {a : A} (r : Rep K m H v a) : Rep K m' H' v a := r.grow s.toGrow
theorem Reps.step (s : Step m H m' H') {v : List V} {a : List A} (r : Reps K m H v a) : Reps K m' H' v a := r.grow s.toGrow
theorem RepF.step (s : Step m H m' H') {v : List (Str × V)} {a : List (Str × A)} (r : RepF K m H v a) : RepF K m' H' v a := r.grow s.toGrow
theorem RepK.step (s : Step m H m' H') {v : List (Key × V)} {a : List (Key × A)} (r : RepK K m H v a) : RepK K m' H' v a := r.grow s.toGrow
end

def CellR (K : PySem.W.Frag) (m : Mp) (H : Hp) (a : Addr) : Cell → Prop
  | .lst xs => ∃ vs, H a = some (.lst vs) ∧ Reps K m H vs xs
  | .ins c fs => ∃ dx ffs, H a = some (.ins (He.ga K c) dx ffs) ∧ RepF K m H ffs fs
  | .dead => False
structure Rel (K : PySem.W.Frag) (m : Mp) (H : Hp) (h : AH) : Prop where
  len : m.c.length = h.length
  inj : ∀ (i j : Nat) (a : Addr), m.c[i]? = some (some a) → m.c[j]? = some (some a) → i = j
  cell : ∀ (i : Nat) (a : Addr), m.c[i]? = some (some a) → ∃ c, h[i]? = some c ∧ CellR K m H a c
  ded : ∀ i : Nat, m.c[i]? = some none → h[i]? = some .dead
  hz : ∀ d ∈ m.z, (∃ o, H d = some o) ∧ ∀ i : Nat, m.c[i]? ≠ some (some d)

section
variable {K : PySem.W.Frag} {m m' : Mp} {H H' : Hp} {h : AH} {p a : Addr} {o : HO} {c : Cell} {l : Nat}
theorem CellR.some : ∀ {c : Cell}, CellR K m H a c → ∃ o, H a = some o
  | .lst _, ⟨_, e, _⟩ => ⟨_, e⟩
  | .ins _ _, ⟨_, _, e, _⟩ => ⟨_, e⟩
theorem Rel.live (r : Rel K m H h) (e : m.c[l]? = some (some a)) : ∃ o, H a = some o := by
  obtain ⟨c, _, hc⟩ := r.cell l a e
  exact hc.some
theorem Rel.off (r : Rel K m H h) (n : H p = none) : Off m p := by
  refine ⟨fun i e => ?_, fun hp => ?_⟩
  · obtain ⟨o, q⟩ := r.live e
    rw [n] at q
    cases q
  · obtain ⟨⟨o, q⟩, _⟩ := r.hz p hp
    rw [n] at q
    cases q
theorem Step.new (r : Rel K m H h) (n : H p = none) : Step m H m (upd H p o) := ⟨⟨fun _ _ => .inl rfl, Nat.le_refl _, fun q u hq f => ⟨by rw [upd_ne (ne_of_none hq n)]; exact hq, f⟩, fun _ => upd_none⟩, rfl, fun d hd => by
  obtain ⟨⟨u, q⟩, _⟩ := r.hz d hd
  exact upd_ne (ne_of_none q n)⟩
theorem CellR.to {c : Cell} (s : Step m H m' H') (e : H' a = H a) (r : CellR K m H a c) : CellR K m' H' a c := by
  cases c with
  | lst xs => obtain ⟨vs, h1, h2⟩ := r; exact ⟨vs, e.trans h1, h2.step s⟩
  | ins c fs => obtain ⟨dx, ffs, h1, h2⟩ := r; exact ⟨dx, ffs, e.trans h1, h2.step s⟩
  | dead => exact r
theorem Rel.new (r : Rel K m H h) (n : H p = none) : Rel K m (upd H p o) h := by
  refine ⟨r.len, r.inj, fun i a e => ?_, r.ded, fun d hd => ?_⟩
  · obtain ⟨c, h1, h2⟩ := r.cell i a e
    obtain ⟨u, hu⟩ := h2.some
    exact ⟨c, h1, h2.to (Step.new r n) (upd_ne (ne_of_none hu n))⟩
  · obtain ⟨⟨u, q⟩, f⟩ := r.hz d hd
    exact ⟨⟨u, by rw [upd_ne (ne_of_none q n)]; exact q⟩, f⟩
theorem push_at {i : Nat} {x : Option Addr} (e : (m.push p).c[i]? = some x) : (i < m.c.length ∧ m.c[i]? = some x) ∨ (i = m.c.length ∧ x = some p) := by
  unfold Mp.push at e
  by_cases hi : i < m.c.length
  · rw [List.getElem?_append_left hi] at e
    exact .inl ⟨hi, e⟩
  · rw [List.getElem?_append_right (Nat.le_of_not_lt hi)] at e
    cases h0 : i - m.c.length with
    | zero => rw [h0] at e; simp at e; exact .inr ⟨by omega, e.symm⟩
    | succ k => rw [h0] at e; simp at e
theorem push_last : (m.push p).c[m.c.length]? = some (some p) := by simp [Mp.push]
/-- a new cell -/
theorem Step.alloc (r : Rel K m H h) (n : H p = none) : Step m H (m.push p) (upd H p o) := by
  refine ⟨⟨fun i hi => .inl (List.getElem?_append_left hi), by simp [Mp.push], fun q u hq f => ?_, fun _ => upd_none⟩, rfl, (Step.new r n).hid⟩
  have hne := ne_of_none hq n
  refine ⟨by rw [upd_ne hne]; exact hq, fun i e => ?_, f.2⟩
  rcases push_at e with ⟨_, e⟩ | ⟨_, e⟩
  · exact f.1 i e
  · cases e; exact hne rfl
theorem Rel.alloc (r : Rel K m H h) (n : H p = none) (hc : CellR K (m.push p) (upd H p o) p c) : Rel K (m.push p) (upd H p o) (h ++ [c]) := by
  have st : Step m H (m.push p) (upd H p o) := Step.alloc r n
  refine ⟨by simp [Mp.push, r.len], fun i j a e1 e2 => ?_, fun i a e => ?_, fun i e => ?_, fun d hd => ?_⟩
  · rcases push_at e1 with ⟨h1, q1⟩ | ⟨h1, q1⟩ <;> rcases push_at e2 with ⟨h2, q2⟩ | ⟨h2, q2⟩
    · exact r.inj i j a q1 q2
    · cases q2
      obtain ⟨o', ho⟩ := r.live q1
      rw [n] at ho; cases ho
    · cases q1
      obtain ⟨o', ho⟩ := r.live q2
      rw [n] at ho; cases ho
    · omega
  · rcases push_at e with ⟨h1, q1⟩ | ⟨h1, q1⟩
    · obtain ⟨c', h2, h3⟩ := r.cell i a q1
      obtain ⟨u, hu⟩ := h3.some
      refine ⟨c', ?_, h3.to st (upd_ne (ne_of_none hu n))⟩
      rw [List.getElem?_append_left (by rw [← r.len]; exact h1)]
      exact h2
    · cases q1
      subst h1
      refine ⟨c, ?_, hc⟩
      rw [r.len, List.getElem?_append_right (Nat.le_refl _), Nat.sub_self]
      rfl
  · rcases push_at e with ⟨h1, q1⟩ | ⟨h1, q1⟩
    · rw [List.getElem?_append_left (by rw [← r.len]; exact h1)]
      exact r.ded i q1
    · cases q1
  · obtain ⟨⟨u, q⟩, f⟩ := r.hz d hd
    refine ⟨⟨u, by rw [upd_ne (ne_of_none q n)]; exact q⟩, fun i e => ?_⟩
    rcases push_at e with ⟨h1, q1⟩ | ⟨h1, q1⟩
    · exact f i q1
    · cases q1; exact ne_of_none q n rfl
/-- a store into a live cell -/
theorem Step.store (r : Rel K m H h) (e : m.c[l]? = some (some a)) : Step m H m (upd H a o) := ⟨⟨fun _ _ => .inl rfl, Nat.le_refl _, fun q u hq f => ⟨by
  rw [upd_ne (fun z => f.1 l (by rw [z]; exact e))]
  exact hq, f⟩, fun _ => upd_none⟩, rfl, fun d hd => upd_ne fun z => (r.hz d hd).2 l (by rw [z]; exact e)⟩
theorem Rel.store (r : Rel K m H h) (e : m.c[l]? = some (some a)) (hc : CellR K m (upd H a o) a c) : Rel K m (upd H a o) (h.set l c) := by
  have hl : l < h.length := by rw [← r.len]; exact (List.getElem?_eq_some_iff.mp e).1
  refine ⟨by simp [r.len], r.inj, fun i b eb => ?_, fun i ei => ?_, fun d hd => ?_⟩
  · by_cases hi : l = i
    · subst hi
      rw [e] at eb
      cases eb
      exact ⟨c, by rw [List.getElem?_set_self hl], hc⟩
    · obtain ⟨c', h1, h2⟩ := r.cell i b eb
      refine ⟨c', by rw [List.getElem?_set_ne hi]; exact h1, h2.to (Step.store r e) (upd_ne fun z => ?_)⟩
      subst z
      exact hi (r.inj l i _ e eb)
  · have hi : l ≠ i := fun z => by subst z; rw [e] at ei; cases ei
    rw [List.getElem?_set_ne hi]
    exact r.ded i ei
  · obtain ⟨⟨u, q⟩, f⟩ := r.hz d hd
    exact ⟨⟨u, by rw [upd_ne (fun z => f l (by rw [z]; exact e))]; exact q⟩, f⟩
/-- a cell is given up: what stands there is a value from now on -/
theorem kill_at {i : Nat} {x : Addr} (q : (m.kill l).c[i]? = some (some x)) : i ≠ l ∧ m.c[i]? = some (some x) := by
  unfold Mp.kill at q
  by_cases hi : l = i
  · subst hi
    by_cases hl : l < m.c.length
    · rw [List.getElem?_set_self hl] at q; cases q
    · rw [List.getElem?_eq_none (by simpa using hl)] at q; cases q
  · rw [List.getElem?_set_ne hi] at q
    exact ⟨fun z => hi z.symm, q⟩
theorem Step.kill (e : m.c[l]? = some (some a)) : Step m H (m.kill l) H := by
  have hl := (List.getElem?_eq_some_iff.mp e).1
  refine ⟨⟨fun i hi => ?_, by simp [Mp.kill], fun q u hq f => ⟨hq, fun i z => f.1 i (kill_at z).2, f.2⟩, fun _ h => h⟩, rfl, fun _ _ => rfl⟩
  unfold Mp.kill
  by_cases h0 : l = i
  · subst h0
    exact .inr (List.getElem?_set_self hl)
  · exact .inl (List.getElem?_set_ne h0)
theorem Rel.kill (r : Rel K m H h) (e : m.c[l]? = some (some a)) : Rel K (m.kill l) H (h.set l .dead) := by
  have hl := (List.getElem?_eq_some_iff.mp e).1
  refine ⟨by simp [Mp.kill, r.len], fun i j b e1 e2 => r.inj i j b (kill_at e1).2 (kill_at e2).2, fun i b eb => ?_, fun i ei => ?_, fun d hd => ⟨(r.hz d hd).1, fun i z => (r.hz d hd).2 i (kill_at z).2⟩⟩
  · obtain ⟨h1, h2⟩ := kill_at eb
    obtain ⟨c', h3, h4⟩ := r.cell i b h2
    exact ⟨c', by rw [List.getElem?_set_ne (fun z => h1 z.symm)]; exact h3, h4.to (Step.kill e) rfl⟩
  · unfold Mp.kill at ei
    by_cases h0 : l = i
    · subst h0
      exact List.getElem?_set_self (by rw [← r.len]; exact hl)
    · rw [List.getElem?_set_ne h0] at ei ⊢
      exact r.ded i ei
theorem Off.kill (r : Rel K m H h) (e : m.c[l]? = some (some a)) : Off (m.kill l) a := ⟨fun i z => (kill_at z).1 (r.inj i l a (kill_at z).2 e), fun hd => (r.hz a hd).2 l e⟩
end

theorem rd_new {H : Hp} {p d : Addr} {u o : HO} (n : H d = none) (h : Rd H p u) : Rd (upd H d o) p u := by
  rcases h with h | ⟨q, h⟩
  · exact .inl (by rw [upd_ne (ne_of_none h n)]; exact h)
  · exact .inr ⟨q, by rw [upd_ne (ne_of_none h n)]; exact h⟩
theorem rd_ne {H : Hp} {p d : Addr} {u : HO} (n : H d = none) (h : Rd H p u) : p ≠ d := by
  rcases h with h | ⟨q, h⟩
  · exact ne_of_none h n
  · exact ne_of_none h n
theorem rd_at {H : Hp} {p d : Addr} {u o : HO} (hn : p ≠ d) (h : Rd H p u) : Rd (upd H d o) p u := by
  rcases h with h | ⟨q, h⟩
  · exact .inl (by rw [upd_ne hn]; exact h)
  · exact .inr ⟨q, by rw [upd_ne hn]; exact h⟩
/-! ### hiding -/
section
variable {K : PySem.W.Frag} {m m' : Mp} {H H' : Hp} {h : AH} {d : Addr} {o : HO}
theorem Off.hide (f : Off m d) {q : Addr} (hq : Off m q) (hn : q ≠ d) : Off (m.hide d) q := ⟨hq.1, fun z => by
  rcases List.mem_cons.mp z with e | e
  · exact hn e
  · exact hq.2 e⟩
theorem Off.show_ {q : Addr} (hq : Off (m.hide d) q) : Off m q := ⟨hq.1, fun z => hq.2 (List.mem_cons_of_mem _ z)⟩
theorem Off.ne {q : Addr} (hq : Off (m.hide d) q) : q ≠ d := fun z => hq.2 (by rw [z]; exact List.mem_cons_self)
mutual
/-- a new address that is hidden -/
theorem Rep.hide (n : H d = none) (fd : Off m d) : ∀ {v : V} {a : A}, Rep K m H v a → Rep K (m.hide d) (upd H d o) v a
  | _, _, .non => .non
  | _, _, .bl => .bl
  | _, _, .int => .int
  | _, _, .str q => .str q
  | _, _, .txt => .txt
  | _, _, .tup h f r => .tup (rd_new n h) (fd.hide f (rd_ne n h)) (r.hide n fd)
  | _, _, .tupK h r => .tupK h (r.hide n fd)
  | _, _, .lst h f r => .lst (rd_new n h) (fd.hide f (rd_ne n h)) (r.hide n fd)
  | _, _, .lstK h r => .lstK h (r.hide n fd)
  | _, _, .dct h f r => .dct (by rw [upd_ne (ne_of_none h n)]; exact h) (fd.hide f (ne_of_none h n)) (r.hide n fd)
  | _, _, .ins h f r => .ins (by rw [upd_ne (ne_of_none h n)]; exact h) (fd.hide f (ne_of_none h n)) (r.hide n fd)
  | _, _, .li h => .li h
  | _, _, .ded h => .ded h
theorem Reps.hide (n : H d = none) (fd : Off m d) : ∀ {vs : List V} {xs : List A}, Reps K m H vs xs → Reps K (m.hide d) (upd H d o) vs xs
  | _, _, .nil => .nil
  | _, _, .cons r t => .cons (r.hide n fd) (t.hide n fd)
theorem RepF.hide (n : H d = none) (fd : Off m d) : ∀ {vs : List (Str × V)} {xs : List (Str × A)}, RepF K m H vs xs → RepF K (m.hide d) (upd H d o) vs xs
  | _, _, .nil => .nil
  | _, _, .cons r t => .cons (r.hide n fd) (t.hide n fd)
theorem RepK.hide (n : H d = none) (fd : Off m d) : ∀ {vs : List (Key × V)} {xs : List (Key × A)}, RepK K m H vs xs → RepK K (m.hide d) (upd H d o) vs xs
  | _, _, .nil => .nil
  | _, _, .cons r t => .cons (r.hide n fd) (t.hide n fd)
end
mutual
/-- what is hidden changes -/
theorem Rep.turn : ∀ {v : V} {a : A}, Rep K (m.hide d) H v a → Rep K (m.hide d) (upd H d o) v a
  | _, _, .non => .non
  | _, _, .bl => .bl
  | _, _, .int => .int
  | _, _, .str q => .str q
  | _, _, .txt => .txt
  | _, _, .tup h f r => .tup (rd_at f.ne h) f r.turn
  | _, _, .tupK h r => .tupK h r.turn
  | _, _, .lst h f r => .lst (rd_at f.ne h) f r.turn
  | _, _, .lstK h r => .lstK h r.turn
  | _, _, .dct h f r => .dct (by rw [upd_ne f.ne]; exact h) f r.turn
  | _, _, .ins h f r => .ins (by rw [upd_ne f.ne]; exact h) f r.turn
  | _, _, .li h => .li h
  | _, _, .ded h => .ded h
theorem Reps.turn : ∀ {vs : List V} {xs : List A}, Reps K (m.hide d) H vs xs → Reps K (m.hide d) (upd H d o) vs xs
  | _, _, .nil => .nil
  | _, _, .cons r t => .cons r.turn t.turn
theorem RepF.turn : ∀ {vs : List (Str × V)} {xs : List (Str × A)}, RepF K (m.hide d) H vs xs → RepF K (m.hide d) (upd H d o) vs xs
  | _, _, .nil => .nil
  | _, _, .cons r t => .cons r.turn t.turn
theorem RepK.turn : ∀ {vs : List (Key × V)} {xs : List (Key × A)}, RepK K (m.hide d) H vs xs → RepK K (m.hide d) (upd H d o) vs xs
  | _, _, .nil => .nil
  | _, _, .cons r t => .cons r.turn t.turn
end
mutual
/-- what was hidden is so no more -/
theorem Rep.show_ : ∀ {v : V} {a : A}, Rep K (m.hide d) H v a → Rep K m H v a
  | _, _, .non => .non
  | _, _, .bl => .bl
  | _, _, .int => .int
  | _, _, .str q => .str q
  | _, _, .txt => .txt
  | _, _, .tup h f r => .tup h f.show_ r.show_
  | _, _, .tupK h r => .tupK h r.show_
  | _, _, .lst h f r => .lst h f.show_ r.show_
  | _, _, .lstK h r => .lstK h r.show_
  | _, _, .dct h f r => .dct h f.show_ r.show_
  | _, _, .ins h f r => .ins h f.show_ r.show_
  | _, _, .li h => .li h
  | _, _, .ded h => .ded h
theorem Reps.show_ : ∀ {vs : List V} {xs : List A}, Reps K (m.hide d) H vs xs → Reps K m H vs xs
  | _, _, .nil => .nil
  | _, _, .cons r t => .cons r.show_ t.show_
theorem RepF.show_ : ∀ {vs : List (Str × V)} {xs : List (Str × A)}, RepF K (m.hide d) H vs xs → RepF K m H vs xs
  | _, _, .nil => .nil
  | _, _, .cons r t => .cons r.show_ t.show_
theorem RepK.show_ : ∀ {vs : List (Key × V)} {xs : List (Key × A)}, RepK K (m.hide d) H vs xs → RepK K m H vs xs
  | _, _, .nil => .nil
  | _, _, .cons r t => .cons r.show_ t.show_
end
theorem CellR.map {a : Addr} {c : Cell} (e : H' a = H a) (f : ∀ {vs xs}, Reps K m H vs xs → Reps K m' H' vs xs) (g : ∀ {vs xs}, RepF K m H vs xs → RepF K m' H' vs xs) (r : CellR K m H a c) : CellR K m' H' a c := by
  cases c with
  | lst xs => obtain ⟨vs, h1, h2⟩ := r; exact ⟨vs, e.trans h1, f h2⟩
  | ins c fs => obtain ⟨dx, ffs, h1, h2⟩ := r; exact ⟨dx, ffs, e.trans h1, g h2⟩
  | dead => exact r
theorem Rel.hide (r : Rel K m H h) (n : H d = none) : Rel K (m.hide d) (upd H d o) h := by
  have fd := r.off n
  refine ⟨r.len, r.inj, fun i a e => ?_, r.ded, fun b hb => ?_⟩
  · obtain ⟨c, h1, h2⟩ := r.cell i a e
    obtain ⟨u, hu⟩ := h2.some
    exact ⟨c, h1, h2.map (upd_ne (ne_of_none hu n)) (Reps.hide n fd) (RepF.hide n fd)⟩
  · rcases List.mem_cons.mp hb with e | e
    · subst e; exact ⟨⟨o, upd_same⟩, fd.1⟩
    · obtain ⟨⟨u, q⟩, f⟩ := r.hz b e
      exact ⟨⟨u, by rw [upd_ne (ne_of_none q n)]; exact q⟩, f⟩
theorem Rel.turn (r : Rel K (m.hide d) H h) : Rel K (m.hide d) (upd H d o) h := by
  have nd := (r.hz d List.mem_cons_self).2
  refine ⟨r.len, r.inj, fun i a e => ?_, r.ded, fun b hb => ?_⟩
  · obtain ⟨c, h1, h2⟩ := r.cell i a e
    exact ⟨c, h1, h2.map (upd_ne fun z => nd i (by rw [← z]; exact e)) Reps.turn RepF.turn⟩
  · obtain ⟨⟨u, q⟩, f⟩ := r.hz b hb
    by_cases hbd : b = d
    · subst hbd; exact ⟨⟨o, upd_same⟩, f⟩
    · exact ⟨⟨u, by rw [upd_ne hbd]; exact q⟩, f⟩
theorem Rel.show_ (r : Rel K (m.hide d) H h) : Rel K m H h := by
  refine ⟨r.len, r.inj, fun i a e => ?_, r.ded, fun b hb => r.hz b (List.mem_cons_of_mem _ hb)⟩
  obtain ⟨c, h1, h2⟩ := r.cell i a e
  exact ⟨c, h1, h2.map rfl Reps.show_ RepF.show_⟩
end

section
variable {K : PySem.W.Frag} {m m' m1 : Mp} {H H' H1 : Hp} {h : AH} {d : Addr} {o : HO}
theorem Grow.hide (n : H d = none) : Grow m H (m.hide d) (upd H d o) := ⟨fun _ _ => .inl rfl, Nat.le_refl _, fun p u e f => ⟨by rw [upd_ne (ne_of_none e n)]; exact e, f.1, fun z => by
  rcases List.mem_cons.mp z with q | q
  · exact ne_of_none e n q
  · exact f.2 q⟩, fun _ => upd_none⟩
theorem Grow.turn (n : H1 d = none) (g : Grow m1 H1 m H) : Grow m1 H1 m (upd H d o) := ⟨g.ext, g.len, fun p u e f => ⟨by rw [upd_ne (ne_of_none e n)]; exact (g.frm p u e f).1, (g.frm p u e f).2⟩, fun p h => g.dom p (upd_none h)⟩
theorem Step.turn (r1 : Rel K m1 H1 h) (n : H1 d = none) (g : Step m1 H1 m H) : Step m1 H1 m (upd H d o) := ⟨g.toGrow.turn n, g.zeq, fun b hb => by
  obtain ⟨⟨u, q⟩, _⟩ := r1.hz b hb
  rw [upd_ne (ne_of_none q n)]
  exact g.hid b hb⟩
theorem Step.show_ (hd : ∃ u, H d = some u) (fd : Off m d) (r : Rel K (m'.hide d) H' h) (s : Step (m.hide d) H (m'.hide d) H') : Step m H m' H' := by
  have zq : d :: m'.z = d :: m.z := s.zeq
  have zq' : m'.z = m.z := List.tail_eq_of_cons_eq zq
  refine ⟨⟨s.ext, s.len, fun p u e f => ?_, s.dom⟩, zq', fun b hb => s.hid b (List.mem_cons_of_mem _ hb)⟩
  by_cases hp : p = d
  · subst hp
    refine ⟨(s.hid p List.mem_cons_self).trans e, (r.hz p List.mem_cons_self).2, ?_⟩
    rw [zq']
    exact f.2
  · obtain ⟨h1, h2⟩ := s.frm p u e (fd.hide f hp)
    exact ⟨h1, h2.show_⟩
end

/-! ### slots -/
def RO (K : PySem.W.Frag) (m : Mp) (H : Hp) (x : Option V) : Option A → Prop
  | none => True
  | some a => ∃ v, x = some v ∧ Rep K m H v a
structure RSt (K : PySem.W.Frag) (m : Mp) (H : Hp) (σ : L2.St) (ρ : Env) : Prop where
  len : σ.length = ρ.length
  at_ : ∀ (i : Nat) (x : Option A), ρ[i]? = some x → RO K m H (σ[i]?.getD none) x
section
variable {K : PySem.W.Frag} {m m' : Mp} {H H' : Hp} {σ : L2.St} {ρ : Env} {i : Nat} {v : V} {a : A}
theorem RO.step (s : Step m H m' H') {x : Option V} : ∀ {y : Option A}, RO K m H x y → RO K m' H' x y
  | none, _ => trivial
  | some _, ⟨v, e, r⟩ => ⟨v, e, r.step s⟩
theorem RSt.step (s : Step m H m' H') (r : RSt K m H σ ρ) : RSt K m' H' σ ρ := ⟨r.len, fun i x e => (r.at_ i x e).step s⟩
theorem RO.grow (s : Grow m H m' H') {x : Option V} : ∀ {y : Option A}, RO K m H x y → RO K m' H' x y
  | none, _ => trivial
  | some _, ⟨v, e, r⟩ => ⟨v, e, r.grow s⟩
theorem RSt.grow (s : Grow m H m' H') (r : RSt K m H σ ρ) : RSt K m' H' σ ρ := ⟨r.len, fun i x e => (r.at_ i x e).grow s⟩
theorem RSt.hide {d : Addr} {o : HO} (n : H d = none) (r : RSt K m H σ ρ) : RSt K (m.hide d) (upd H d o) σ ρ := r.grow (Grow.hide n)
theorem RSt.turn {d : Addr} {o : HO} (r : RSt K (m.hide d) H σ ρ) : RSt K (m.hide d) (upd H d o) σ ρ := ⟨r.len, fun i x e => by
  have q := r.at_ i x e
  cases x with
  | none => trivial
  | some a => obtain ⟨v, h1, h2⟩ := q; exact ⟨v, h1, h2.turn⟩⟩
theorem RSt.get (r : RSt K m H σ ρ) (e : ρ[i]? = some (some a)) : ∃ v, σ[i]? = some (some v) ∧ Rep K m H v a := by
  obtain ⟨v, h1, h2⟩ := r.at_ i _ e
  refine ⟨v, ?_, h2⟩
  cases q : σ[i]? with
  | none => rw [q] at h1; cases h1
  | some z => rw [q] at h1; exact congrArg some h1
theorem RSt.set (r : RSt K m H σ ρ) (q : Rep K m H v a) : RSt K m H (σ.set i (some v)) (ρ.set i (some a)) := by
  refine ⟨by simp [r.len], fun j x e => ?_⟩
  by_cases hj : i = j
  · subst hj
    by_cases hi : i < ρ.length
    · rw [List.getElem?_set_self hi] at e
      cases e
      rw [List.getElem?_set_self (by rw [r.len]; exact hi)]
      exact ⟨v, rfl, q⟩
    · rw [List.getElem?_eq_none (by simpa using hi)] at e
      cases e
  · rw [List.getElem?_set_ne hj] at e ⊢
    exact r.at_ j x e
theorem RSt.unset (r : RSt K m H σ ρ) {x : Option V} : RSt K m H (σ.set i x) (ρ.set i none) := by
  refine ⟨by simp [r.len], fun j y e => ?_⟩
  by_cases hj : i = j
  · subst hj
    by_cases hi : i < ρ.length
    · rw [List.getElem?_set_self hi] at e
      cases e
      trivial
    · rw [List.getElem?_eq_none (by simpa using hi)] at e
      cases e
  · rw [List.getElem?_set_ne hj] at e ⊢
    exact r.at_ j y e
def wipeA (ρ : Env) : List Nat → Env
  | [] => ρ
  | v :: vs => (wipeA ρ vs).set v none
theorem RSt.wipe (r : RSt K m H σ ρ) : ∀ vs, RSt K m H (L2.wipe σ vs) (wipeA ρ vs)
  | [] => r
  | _ :: vs => (RSt.wipe r vs).unset
theorem reps_start : ∀ {vs : List V} {xs : List A} {n : Nat}, Reps K m H vs xs → RSt K m H (vs.map some ++ List.replicate n none) (xs.map some ++ List.replicate n none)
  | _, _, n, .nil => ⟨by simp, fun i x e => by
      have : x = none := by
        have := List.getElem?_eq_some_iff.mp e
        obtain ⟨h1, h2⟩ := this
        simp at h2
        exact h2.symm
      subst this
      trivial⟩
  | _, _, n, .cons (v := v) (a := a) (vs := vs) (xs := xs) q t => by
    have ih := reps_start (n := n) t
    refine ⟨by simpa using ih.len, fun i x e => ?_⟩
    cases i with
    | zero => simp at e; subst e; exact ⟨v, by simp, q⟩
    | succ i => simp at e ⊢; exact ih.at_ i x (by simpa using e)
theorem Reps.length : ∀ {vs : List V} {xs : List A}, Reps K m H vs xs → vs.length = xs.length
  | _, _, .nil => rfl
  | _, _, .cons _ t => congrArg Nat.succ t.length
theorem Reps.get : ∀ {vs : List V} {xs : List A} {i : Nat} {a : A}, Reps K m H vs xs → xs[i]? = some a → ∃ v, vs[i]? = some v ∧ Rep K m H v a
  | _, _, _, _, .nil, e => by simp at e
  | _, _, 0, _, .cons q _, e => by simp at e; subst e; exact ⟨_, rfl, q⟩
  | _, _, i + 1, _, .cons _ t, e => t.get (i := i) (by simpa using e)
theorem Reps.get' : ∀ {vs : List V} {xs : List A} {i : Nat} {v : V}, Reps K m H vs xs → vs[i]? = some v → ∃ a, xs[i]? = some a ∧ Rep K m H v a
  | _, _, _, _, .nil, e => by simp at e
  | _, _, 0, _, .cons q _, e => by simp at e; subst e; exact ⟨_, rfl, q⟩
  | _, _, i + 1, _, .cons _ t, e => t.get' (i := i) (by simpa using e)
theorem Reps.append : ∀ {vs ws : List V} {xs ys : List A}, Reps K m H vs xs → Reps K m H ws ys → Reps K m H (vs ++ ws) (xs ++ ys)
  | _, _, _, _, .nil, s => s
  | _, _, _, _, .cons q t, s => .cons q (t.append s)
theorem Reps.take : ∀ {vs : List V} {xs : List A} (n : Nat), Reps K m H vs xs → Reps K m H (vs.take n) (xs.take n)
  | _, _, 0, _ => by simp; exact .nil
  | _, _, _ + 1, .nil => .nil
  | _, _, n + 1, .cons q t => .cons q (t.take n)
theorem Reps.drop : ∀ {vs : List V} {xs : List A} (n : Nat), Reps K m H vs xs → Reps K m H (vs.drop n) (xs.drop n)
  | _, _, 0, r => r
  | _, _, _ + 1, .nil => .nil
  | _, _, n + 1, .cons _ t => t.drop n
theorem Reps.set : ∀ {vs : List V} {xs : List A} (i : Nat) {v : V} {a : A}, Rep K m H v a → Reps K m H vs xs → Reps K m H (vs.set i v) (xs.set i a)
  | _, _, _, _, _, _, .nil => .nil
  | _, _, 0, _, _, q, .cons _ t => .cons q t
  | _, _, i + 1, _, _, q, .cons p t => .cons p (t.set i q)
theorem Reps.erase : ∀ {vs : List V} {xs : List A} (i : Nat), Reps K m H vs xs → Reps K m H (vs.eraseIdx i) (xs.eraseIdx i)
  | _, _, _, .nil => .nil
  | _, _, 0, .cons _ t => t
  | _, _, i + 1, .cons p t => .cons p (t.erase i)
theorem Reps.reverse {vs : List V} {xs : List A} (r : Reps K m H vs xs) : Reps K m H vs.reverse xs.reverse := by
  induction xs generalizing vs with
  | nil => cases r; exact .nil
  | cons a xs ih =>
    cases r with
    | cons q t =>
      rw [List.reverse_cons, List.reverse_cons]
      exact (ih t).append (.cons q .nil)
theorem Reps.rep {vs : List V} {xs : List A} (r : Reps K m H vs xs) : ∀ k : Nat, Reps K m H (List.replicate k vs).flatten (List.replicate k xs).flatten
  | 0 => .nil
  | k + 1 => by
    rw [List.replicate_succ, List.replicate_succ, List.flatten_cons, List.flatten_cons]
    exact r.append (r.rep k)
theorem reps_map {β : Type} {f : β → V} {g : β → A} : ∀ {l : List β}, (∀ x ∈ l, Rep K m H (f x) (g x)) → Reps K m H (l.map f) (l.map g)
  | [], _ => .nil
  | x :: l, h => .cons (h x (by simp)) (reps_map fun y hy => h y (by simp [hy]))
end
end Ab

namespace Ab
open PySem PySem.Spec PyProof.Rows L2

/-- a test that the kernel never works out -/
def Gd (p : Prop) : Prop := p
noncomputable instance Gd.dec (p : Prop) : Decidable (Gd p) := Classical.propDecidable _
@[simp] theorem Gd_true {p : Prop} (h : p) : Gd p := h
/-! ### what a piece of code gives -/
inductive Out (α : Type) where
  | ok (a : α) (h : AH) | exc (c : Str) (fs : List (Str × A)) (h : AH) | bad
def Out.bind {α β : Type} (o : Out α) (k : α → AH → Out β) : Out β := match o with
  | .ok a h => k a h
  | .exc c fs h => .exc c fs h
  | .bad => .bad
@[simp] theorem Out.bind_ok {α β : Type} (a : α) (h : AH) (k : α → AH → Out β) : (Out.ok a h).bind k = k a h := rfl
@[simp] theorem Out.bind_exc {α β : Type} (c : Str) (fs : List (Str × A)) (h : AH) (k : α → AH → Out β) : (Out.exc c fs h).bind k = .exc c fs h := rfl
@[simp] theorem Out.bind_bad {α β : Type} (k : α → AH → Out β) : (Out.bad).bind k = .bad := rfl
/-- of an operation on values, which raises nothing -/
def Out.of {α : Type} : Option (α × AH) → Out α
  | some (a, h) => .ok a h
  | none => .bad
@[simp] theorem Out.of_some {α : Type} (a : α) (h : AH) : Out.of (some (a, h)) = .ok a h := rfl
@[simp] theorem Out.of_none {α : Type} : Out.of (none : Option (α × AH)) = .bad := rfl

def ExcR (K : PySem.W.Frag) (m : Mp) (H : Hp) (d : Option Addr) (fs : List (Str × A)) : Prop :=
  (∃ a ffs, d = some a ∧ H a = some (.xd ffs) ∧ Off m a ∧ RepF K m H ffs fs) ∨ (d = none ∧ fs = [])

section
variable {K : PySem.W.Frag} {W : WX} {σ : L2.St} {m : Mp} {H : Hp} {α β γ δ : Type}
def Post (K : PySem.W.Frag) (W : WX) (σ : L2.St) (m : Mp) (H : Hp) (R : Mp → Hp → β → α → Prop) (o : Out α) (Q : β → Hp → Prop) : Prop := match o with
  | .ok v h' => ∀ m' H' u, Step m H m' H' → Rel K m' H' h' → R m' H' u v → Q u H'
  | .exc c fs h' => ∀ m' H' d, Step m H m' H' → Rel K m' H' h' → ExcR K m' H' d fs → W (.ref (He.ga K c)) d σ H'
  | .bad => False
variable {R : Mp → Hp → β → α → Prop} {R' : Mp → Hp → δ → γ → Prop} {o : Out α} {Q Q' : β → Hp → Prop}
theorem Post.mono (h : Post K W σ m H R o Q) (q : ∀ u H', Q u H' → Q' u H') : Post K W σ m H R o Q' := by
  cases o with
  | ok v h' => exact fun m' H' u s r x => q u H' (h m' H' u s r x)
  | exc c fs h' => exact h
  | bad => exact h
theorem Post.bind {k : α → AH → Out γ} {Q' : δ → Hp → Prop} (h : Post K W σ m H R' (o.bind k) Q') :
    Post K W σ m H R o (fun u H1 => ∃ m1 h1 a, Step m H m1 H1 ∧ Rel K m1 H1 h1 ∧ R m1 H1 u a ∧ Post K W σ m1 H1 R' (k a h1) Q') := by
  cases o with
  | ok v h' =>
    intro m1 H1 u s1 r1 x1
    refine ⟨m1, h', v, s1, r1, x1, ?_⟩
    have h2 : Post K W σ m H R' (k v h') Q' := h
    cases q : k v h' with
    | ok v2 h2' =>
      rw [q] at h2
      exact fun m' H' u2 s r x => h2 m' H' u2 (s1.trans s) r x
    | exc c fs h2' =>
      rw [q] at h2
      exact fun m' H' u2 s r x => h2 m' H' u2 (s1.trans s) r x
    | bad =>
      rw [q] at h2
      exact h2
  | exc c fs h' => exact h
  | bad => exact h
/-- of an operation on values -/
def PostV (K : PySem.W.Frag) (m : Mp) (H : Hp) (R : Mp → Hp → β → α → Prop) (o : Option (α × AH)) (Q : β → Hp → Prop) : Prop := match o with
  | some (v, h') => ∀ m' H' u, Step m H m' H' → Rel K m' H' h' → R m' H' u v → Q u H'
  | none => False
theorem Post.of_ {o : Option (α × AH)} : Post K W σ m H R (Out.of o) Q ↔ PostV K m H R o Q := by
  cases o with
  | none => exact Iff.rfl
  | some p => exact Iff.rfl
/-- the value itself, nothing done -/
theorem PostV.now {v : α} {h : AH} (p : PostV K m H R (some (v, h)) Q) (r : Rel K m H h) {u : β} (x : R m H u v) : Q u H := p m H u Step.refl r x
end

/-! ### expressions -/
abbrev Xp := Env → AH → Out A
abbrev Tp := Env → AH → Out Bool
abbrev Ap := Env → AH → Out (List A)
abbrev RB : Mp → Hp → Bool → Bool → Prop := fun _ _ b c => b = c

def tE (K : PySem.W.Frag) (W : WX) (f : Xp) : TE := fun σ H Q => ∃ m ρ h, Rel K m H h ∧ RSt K m H σ ρ ∧ Post K W σ m H (Rep K) (f ρ h) Q
def tT (K : PySem.W.Frag) (W : WX) (f : Tp) : TT := fun σ H Q => ∃ m ρ h, Rel K m H h ∧ RSt K m H σ ρ ∧ Post K W σ m H RB (f ρ h) Q
def tA (K : PySem.W.Frag) (W : WX) (f : Ap) : TA := fun σ H Q => ∃ m ρ h, Rel K m H h ∧ RSt K m H σ ρ ∧ Post K W σ m H (Reps K) (f ρ h) Q

section
variable {X : Cx} {W : WX} {K : PySem.W.Frag} {e e1 e2 : Expr} {pos : Pos}
theorem _root_.L2.PE.imp {t t' : TE} (h : PE X e t) (q : ∀ σ H Q, t' σ H Q → t σ H Q) : PE X e t' := ⟨fun pins s σ H Q I x => h.run pins s σ H Q I (q σ H Q x)⟩
theorem _root_.L2.PT.imp {t t' : TT} (h : PT X e t) (q : ∀ σ H Q, t' σ H Q → t σ H Q) : PT X e t' := ⟨fun pins s σ H Q I x => h.run pins s σ H Q I (q σ H Q x)⟩
theorem _root_.L2.PW.imp {t t' : TT} (h : PW X e t) (q : ∀ σ H Q, t' σ H Q → t σ H Q) : PW X e t' := ⟨fun w pins s σ H Q I x => h.run w pins s σ H Q I (q σ H Q x)⟩
theorem _root_.L2.PA.imp {es : List Expr} {t t' : TA} (h : PA X es t) (q : ∀ σ H Q, t' σ H Q → t σ H Q) : PA X es t' := ⟨fun p pins s σ H Q I x => h.run p pins s σ H Q I (q σ H Q x)⟩
theorem _root_.L2.PS.imp {st : Stmt} {t t' : TS} (h : PS X st t) (q : ∀ D σ H, t' D σ H → t D σ H) : PS X st t' := ⟨fun pins s σ H D I x => h.run pins s σ H D I (q D σ H x)⟩
theorem _root_.L2.PSs.imp {st : List Stmt} {t t' : TS} (h : PSs X st t) (q : ∀ D σ H, t' D σ H → t D σ H) : PSs X st t' := ⟨fun pins s σ H D I x => h.run pins s σ H D I (q D σ H x)⟩

def eVar (i : Nat) : Xp := fun ρ h => match ρ[i]? with
  | some (some v) => .ok v h
  | _ => .bad
theorem sd_var (i : Nat) {x : Str} (hN : X.N[i]? = some x := by rfl) (hv : Vis X.env.scope x := by first | exact Or.inl rfl | exact Or.inr (Or.inl rfl) | exact Or.inr (Or.inr rfl)) (hd : (x == ("__debug__" : Str)) = false := by decide)
    (hcd : (x == ("__classdict__" : Str)) = false := by decide) : PE X (.Name x pos) (tE X.K W (eVar i)) := (pe_var hN hv hd hcd).imp fun σ H Q ⟨m, ρ, h, r, s, p⟩ => by
  unfold eVar at p
  split at p
  · next v q =>
    obtain ⟨u, h1, h2⟩ := s.get q
    exact ⟨u, h1, p m H u Step.refl r h2⟩
  · exact p.elim
def eC (v : A) : Xp := fun _ h => .ok v h
theorem sd_int {i : Int} {j pos} : PE X (.Constant (.int i) j pos) (tE X.K W (eC (.int i))) := pe_int.imp fun σ H Q ⟨m, ρ, h, r, s, p⟩ => p m H _ Step.refl r .int
theorem sd_bl {b : Bool} {j pos} : PE X (.Constant (.bool b) j pos) (tE X.K W (eC (.bl b))) := pe_bl.imp fun σ H Q ⟨m, ρ, h, r, s, p⟩ => p m H _ Step.refl r .bl
theorem sd_non {j pos} : PE X (.Constant .none j pos) (tE X.K W (eC .non)) := pe_non.imp fun σ H Q ⟨m, ρ, h, r, s, p⟩ => p m H _ Step.refl r .non
theorem sd_str {z : Str} {j pos} (hz : sOk z = true := by decide +kernel) : PE X (.Constant (.str z) j pos) (tE X.K W (eC (.str z))) := pe_str.imp fun σ H Q ⟨m, ρ, h, r, s, p⟩ => p m H _ Step.refl r (.str hz)
/-- a module's constant -/
theorem sd_gint {x : Str} {i : Int} (hg : Gl X x) (hm : ∃ t, X.mg x = some (.int i t)) (hd : (x == ("__debug__" : Str)) = false := by decide) : PE X (.Name x pos) (tE X.K W (eC (.int i))) := by
  obtain ⟨t, e⟩ := hm
  exact (pe_glob (v := .int i) hg e ⟨t, rfl⟩ hd).imp fun σ H Q ⟨m, ρ, h, r, s, p⟩ => p m H _ Step.refl r .int
theorem sd_gstr {x z : Str} (hg : Gl X x) (hm : ∃ t, X.mg x = some (.str z t)) (hz : sOk z = true := by decide +kernel) (hd : (x == ("__debug__" : Str)) = false := by decide) : PE X (.Name x pos) (tE X.K W (eC (.str z))) := by
  obtain ⟨t, e⟩ := hm
  exact (pe_glob (v := .str z) hg e ⟨t, rfl⟩ hd).imp fun σ H Q ⟨m, ρ, h, r, s, p⟩ => p m H _ Step.refl r (.str hz)

/-- an operation on two values -/
abbrev O2 := A → A → AH → Option (A × AH)
abbrev O1 := A → AH → Option (A × AH)
abbrev ON := List A → AH → Option (A × AH)
def eB (f : O2) (a b : Xp) : Xp := fun ρ h => (a ρ h).bind fun x h1 => (b ρ h1).bind fun y h2 => Out.of (f x y h2)
def eU (f : O1) (a : Xp) : Xp := fun ρ h => (a ρ h).bind fun x h1 => Out.of (f x h1)
def rO2 (K : PySem.W.Frag) (f : O2) : R2 := fun x y H Q => ∃ m h a b, Rel K m H h ∧ Rep K m H x a ∧ Rep K m H y b ∧ PostV K m H (Rep K) (f a b h) Q
def rO1 (K : PySem.W.Frag) (f : O1) : V → Hp → VK → Prop := fun x H Q => ∃ m h a, Rel K m H h ∧ Rep K m H x a ∧ PostV K m H (Rep K) (f a h) Q
def rON (K : PySem.W.Frag) (f : ON) : List V → Hp → VK → Prop := fun xs H Q => ∃ m h as, Rel K m H h ∧ Reps K m H xs as ∧ PostV K m H (Rep K) (f as h) Q
theorem step2 {f : O2} {fa fb : Xp} {σ : L2.St} {H : Hp} {Q : VK} (h : tE K W (eB f fa fb) σ H Q) : tOp (rO2 K f) (tE K W fa) (tE K W fb) σ H Q := by
  obtain ⟨m, ρ, h, r, s, p⟩ := h
  refine ⟨m, ρ, h, r, s, (Post.bind p).mono fun u H1 ⟨m1, h1, a, st1, r1, x1, p1⟩ => ?_⟩
  refine ⟨m1, ρ, h1, r1, s.step st1, (Post.bind p1).mono fun u2 H2 ⟨m2, h2, b, st2, r2, x2, p2⟩ => ?_⟩
  exact ⟨m2, h2, a, b, r2, x1.step st2, x2, Post.of_.mp p2⟩
theorem _root_.L2.OpR.imp {f : Value → Value → Sem Value} {r r' : R2} (h : OpR X f r) (q : ∀ x y H Q, r' x y H Q → r x y H Q) : OpR X f r' :=
  fun pins s σ H x y v u Q I rx ry z => h pins s σ H x y v u Q I rx ry (q x y H Q z)
theorem _root_.L2.CallR.imp {f : Value} {r r' : List V → Hp → VK → Prop} (h : CallR X f r) (q : ∀ xs H Q, r' xs H Q → r xs H Q) : CallR X f r' :=
  fun pins s σ H xs us Q I rx z => h pins s σ H xs us Q I rx (q xs H Q z)
theorem _root_.L2.MtR.imp {id : String} {r r' : V → List V → Hp → VK → Prop} (h : MtR X id r) (q : ∀ x xs H Q, r' x xs H Q → r x xs H Q) : MtR X id r' :=
  fun pins s σ H x xs v us Q I rx rs z => h pins s σ H x xs v us Q I rx rs (q x xs H Q z)
theorem _root_.L2.IxR.imp {r r' : R2} (h : IxR X r) (q : ∀ x y H Q, r' x y H Q → r x y H Q) : IxR X r' :=
  fun a b pins s σ H x y v u Q I rx ry z => h a b pins s σ H x y v u Q I rx ry (q x y H Q z)
/-- an operation's rule -/
theorem sd_bin {f : O2} {fa fb : Xp} {op : Operator} (ho : OpR X (binaryOp op) (rO2 X.K f)) (ha : PE X e1 (tE X.K W fa)) (hb : PE X e2 (tE X.K W fb)) : PE X (.BinOp e1 op e2 pos) (tE X.K W (eB f fa fb)) :=
  (pe_op ho ha hb).imp fun _ _ _ => step2
theorem sd_un {f : O1} {fa : Xp} {op : UnaryOp} (ho : UnR X (unaryOp op) (rO1 X.K f)) (ha : PE X e1 (tE X.K W fa)) : PE X (.UnaryOp op e1 pos) (tE X.K W (eU f fa)) :=
  (pe_un ho ha).imp fun σ H Q ⟨m, ρ, h, r, s, p⟩ => ⟨m, ρ, h, r, s, (Post.bind p).mono fun u H1 ⟨m1, h1, a, st1, r1, x1, p1⟩ => ⟨m1, h1, a, r1, x1, Post.of_.mp p1⟩⟩
theorem sd_cmp {f : O2} {fa fb : Xp} {op : CmpOp} (ho : OpR X (compareOp op) (rO2 X.K f)) (ha : PE X e1 (tE X.K W fa)) (hb : PE X e2 (tE X.K W fb)) (hm : behindInMarks op e2 = false := by first | exact nomark _ (by decide) (by decide) | rfl) :
    PE X (.Compare e1 [op] [e2] pos) (tE X.K W (eB f fa fb)) := (pe_cmpR ho ha hb hm).imp fun _ _ _ => step2
theorem sd_ix {f : O2} {fa fb : Xp} (ho : IxR X (rO2 X.K f)) (ha : PE X e1 (tE X.K W fa)) (hb : PE X e2 (tE X.K W fb)) (hs : PlainIx e2 := by exact fun _ _ => rfl) : PE X (.Subscript e1 e2 pos) (tE X.K W (eB f fa fb)) :=
  (pe_ix ho ha hb hs).imp fun _ _ _ => step2

/-! ### tests -/
def tB_ (e : Xp) : Tp := fun ρ h => (e ρ h).bind fun v h1 => match v with
  | .bl b => .ok b h1
  | _ => .bad
theorem step_tB {f : Xp} {σ : L2.St} {H : Hp} {Q : Bool → Hp → Prop} (h : tT K W (tB_ f) σ H Q) : tB (tE K W f) σ H Q := by
  obtain ⟨m, ρ, h, r, s, p⟩ := h
  refine ⟨m, ρ, h, r, s, (Post.bind p).mono fun u H1 ⟨m1, h1, a, st1, r1, x1, p1⟩ => ?_⟩
  cases a with
  | bl b =>
    cases x1
    exact ⟨b, rfl, p1 m1 H1 b Step.refl r1 rfl⟩
  | _ => exact p1.elim
theorem sd_tval {f : Xp} (h : PE X e (tE X.K W f)) (he : ∀ whole, isTrue e X.env whole = (do let v ← whole; standAt e.pos; holding [v] (truthy v)) := by intro _; rfl) : PT X e (tT X.K W (tB_ f)) :=
  (pt_val h he).imp fun _ _ _ => step_tB
theorem sd_tcmp {f : O2} {fa fb : Xp} {op : CmpOp} (ho : OpR X (compareOp op) (rO2 X.K f)) (ha : PE X e1 (tE X.K W fa)) (hb : PE X e2 (tE X.K W fb)) (hm : behindInMarks op e2 = false := by first | exact nomark _ (by decide) (by decide) | rfl) :
    PT X (.Compare e1 [op] [e2] pos) (tT X.K W (tB_ (eB f fa fb))) := (pt_cmpR ho ha hb hm).imp fun σ H Q h => by
  have h2 := step_tB h
  obtain ⟨m, ρ, h, r, s, p⟩ := h2
  exact step2 ⟨m, ρ, h, r, s, p⟩
def tAnd_ (a b : Tp) : Tp := fun ρ h => (a ρ h).bind fun c h1 => if c = true then b ρ h1 else .ok false h1
def tOr_ (a b : Tp) : Tp := fun ρ h => (a ρ h).bind fun c h1 => if c = true then .ok true h1 else b ρ h1
def tNot_ (a : Tp) : Tp := fun ρ h => (a ρ h).bind fun c h1 => .ok (!c) h1
theorem step_not {f : Tp} {σ : L2.St} {H : Hp} {Q : Bool → Hp → Prop} (h : tT K W (tNot_ f) σ H Q) : tNot (tT K W f) σ H Q := by
  obtain ⟨m, ρ, h, r, s, p⟩ := h
  refine ⟨m, ρ, h, r, s, (Post.bind p).mono fun u H1 ⟨m1, h1, a, st1, r1, x1, p1⟩ => ?_⟩
  cases x1
  exact p1 m1 H1 _ Step.refl r1 rfl
theorem step_and {f g : Tp} {σ : L2.St} {H : Hp} {Q : Bool → Hp → Prop} (h : tT K W (tAnd_ f g) σ H Q) : tAnd (tT K W f) (tT K W g) σ H Q := by
  obtain ⟨m, ρ, h, r, s, p⟩ := h
  refine ⟨m, ρ, h, r, s, (Post.bind p).mono fun u H1 ⟨m1, h1, a, st1, r1, x1, p1⟩ => ?_⟩
  cases x1
  split
  · next e => rw [if_pos e] at p1; exact ⟨m1, ρ, h1, r1, s.step st1, p1⟩
  · next e => rw [if_neg e] at p1; exact p1 m1 H1 _ Step.refl r1 rfl
theorem step_or {f g : Tp} {σ : L2.St} {H : Hp} {Q : Bool → Hp → Prop} (h : tT K W (tOr_ f g) σ H Q) : tOr (tT K W f) (tT K W g) σ H Q := by
  obtain ⟨m, ρ, h, r, s, p⟩ := h
  refine ⟨m, ρ, h, r, s, (Post.bind p).mono fun u H1 ⟨m1, h1, a, st1, r1, x1, p1⟩ => ?_⟩
  cases x1
  split
  · next e => rw [if_pos e] at p1; exact p1 m1 H1 _ Step.refl r1 rfl
  · next e => rw [if_neg e] at p1; exact ⟨m1, ρ, h1, r1, s.step st1, p1⟩
theorem sd_tnot {f : Tp} (h : PT X e (tT X.K W f)) : PT X (.UnaryOp .Not e pos) (tT X.K W (tNot_ f)) := (pt_not h).imp fun _ _ _ => step_not
theorem sd_and1 {f : Tp} (h : PT X e (tT X.K W f)) : PW X (.BoolOp .And [e] pos) (tT X.K W f) := pw_and1 h
theorem sd_or1 {f : Tp} (h : PT X e (tT X.K W f)) : PW X (.BoolOp .Or [e] pos) (tT X.K W f) := pw_or1 h
theorem sd_and {f g : Tp} {rest : List Expr} (h : PT X e (tT X.K W f)) (hb : PW X (.BoolOp .And (e2 :: rest) pos) (tT X.K W g)) : PW X (.BoolOp .And (e :: e2 :: rest) pos) (tT X.K W (tAnd_ f g)) := (pw_and h hb).imp fun _ _ _ => step_and
theorem sd_or {f g : Tp} {rest : List Expr} (h : PT X e (tT X.K W f)) (hb : PW X (.BoolOp .Or (e2 :: rest) pos) (tT X.K W g)) : PW X (.BoolOp .Or (e :: e2 :: rest) pos) (tT X.K W (tOr_ f g)) := (pw_or h hb).imp fun _ _ _ => step_or
/-- and, or, not as values: all but the last are truth values -/
def eAnd (a b : Xp) : Xp := fun ρ h => (a ρ h).bind fun v h1 => match v with
  | .bl c => if c = true then b ρ h1 else .ok (.bl false) h1
  | _ => .bad
def eOr (a b : Xp) : Xp := fun ρ h => (a ρ h).bind fun v h1 => match v with
  | .bl c => if c = true then .ok (.bl true) h1 else b ρ h1
  | _ => .bad
def eNot (a : Xp) : Xp := fun ρ h => (a ρ h).bind fun v h1 => match v with
  | .bl c => .ok (.bl (!c)) h1
  | _ => .bad
theorem sd_vone {f : Xp} {op : BoolOp} (h : PE X e (tE X.K W f)) : PE X (.BoolOp op [e] pos) (tE X.K W f) := pe_one h
theorem sd_vand {f g : Xp} {rest : List Expr} (ha : PE X e (tE X.K W f)) (hb : PE X (.BoolOp .And (e2 :: rest) pos) (tE X.K W g)) : PE X (.BoolOp .And (e :: e2 :: rest) pos) (tE X.K W (eAnd f g)) := (pe_and ha hb).imp fun σ H Q ⟨m, ρ, h, r, s, p⟩ => by
  refine ⟨m, ρ, h, r, s, (Post.bind p).mono fun u H1 ⟨m1, h1, a, st1, r1, x1, p1⟩ => ?_⟩
  cases a with
  | bl b =>
    cases x1
    refine ⟨b, rfl, ?_⟩
    split
    · next q => simp only [q, if_true] at p1; exact ⟨m1, ρ, h1, r1, s.step st1, p1⟩
    · next q => simp only [q, if_false] at p1; exact p1 m1 H1 _ Step.refl r1 .bl
  | _ => exact p1.elim
theorem sd_vor {f g : Xp} {rest : List Expr} (ha : PE X e (tE X.K W f)) (hb : PE X (.BoolOp .Or (e2 :: rest) pos) (tE X.K W g)) : PE X (.BoolOp .Or (e :: e2 :: rest) pos) (tE X.K W (eOr f g)) := (pe_or ha hb).imp fun σ H Q ⟨m, ρ, h, r, s, p⟩ => by
  refine ⟨m, ρ, h, r, s, (Post.bind p).mono fun u H1 ⟨m1, h1, a, st1, r1, x1, p1⟩ => ?_⟩
  cases a with
  | bl b =>
    cases x1
    refine ⟨b, rfl, ?_⟩
    split
    · next q => simp only [q, if_true] at p1; exact p1 m1 H1 _ Step.refl r1 .bl
    · next q => simp only [q, if_false] at p1; exact ⟨m1, ρ, h1, r1, s.step st1, p1⟩
  | _ => exact p1.elim
theorem sd_vnot {f : Xp} (ha : PE X e (tE X.K W f)) : PE X (.UnaryOp .Not e pos) (tE X.K W (eNot f)) := (pe_not ha).imp fun σ H Q ⟨m, ρ, h, r, s, p⟩ => by
  refine ⟨m, ρ, h, r, s, (Post.bind p).mono fun u H1 ⟨m1, h1, a, st1, r1, x1, p1⟩ => ?_⟩
  cases a with
  | bl b =>
    cases x1
    exact ⟨b, rfl, p1 m1 H1 _ Step.refl r1 .bl⟩
  | _ => exact p1.elim
def eIf (t : Tp) (a b : Xp) : Xp := fun ρ h => (t ρ h).bind fun c h1 => if c = true then a ρ h1 else b ρ h1
theorem sd_ifx {t : Tp} {f g : Xp} {c : Expr} (hc : PT X c (tT X.K W t)) (ha : PE X e1 (tE X.K W f)) (hb : PE X e2 (tE X.K W g)) : PE X (.IfExp c e1 e2 pos) (tE X.K W (eIf t f g)) := (pe_ifExp hc ha hb).imp fun σ H Q ⟨m, ρ, h, r, s, p⟩ => by
  refine ⟨m, ρ, h, r, s, (Post.bind p).mono fun u H1 ⟨m1, h1, a, st1, r1, x1, p1⟩ => ?_⟩
  cases x1
  split
  · next q => rw [if_pos q] at p1; exact ⟨m1, ρ, h1, r1, s.step st1, p1⟩
  · next q => rw [if_neg q] at p1; exact ⟨m1, ρ, h1, r1, s.step st1, p1⟩

/-! ### arguments, calls -/
def aNil : Ap := fun _ h => .ok [] h
def aCons (a : Xp) (r : Ap) : Ap := fun ρ h => (a ρ h).bind fun x h1 => (r ρ h1).bind fun xs h2 => .ok (x :: xs) h2
theorem sd_nil : PA X [] (tA X.K W aNil) := pa_nil.imp fun σ H Q ⟨m, ρ, h, r, s, p⟩ => p m H _ Step.refl r .nil
theorem sd_cons {f : Xp} {g : Ap} {es : List Expr} (ha : PE X e (tE X.K W f)) (hr : PA X es (tA X.K W g)) (hs : starEach (e :: es) X.env = (false, eval e X.env) :: starEach es X.env := by rfl) : PA X (e :: es) (tA X.K W (aCons f g)) := (pa_cons ha hr hs).imp fun σ H Q ⟨m, ρ, h, r, s, p⟩ => by
  refine ⟨m, ρ, h, r, s, (Post.bind p).mono fun u H1 ⟨m1, h1, a, st1, r1, x1, p1⟩ => ?_⟩
  refine ⟨m1, ρ, h1, r1, s.step st1, (Post.bind p1).mono fun u2 H2 ⟨m2, h2, b, st2, r2, x2, p2⟩ => ?_⟩
  exact p2 m2 H2 _ Step.refl r2 (.cons (x1.step st2) x2)
/-- a call of a built-in -/
def eN (f : ON) (as : Ap) : Xp := fun ρ h => (as ρ h).bind fun xs h1 => Out.of (f xs h1)
theorem stepN {f : ON} {g : Ap} {σ : L2.St} {H : Hp} {Q : VK} (h : tE K W (eN f g) σ H Q) : tCB (rON K f) (tA K W g) σ H Q := by
  obtain ⟨m, ρ, h, r, s, p⟩ := h
  exact ⟨m, ρ, h, r, s, (Post.bind p).mono fun u H1 ⟨m1, h1, a, st1, r1, x1, p1⟩ => ⟨m1, h1, a, r1, x1, Post.of_.mp p1⟩⟩
theorem sd_callB {f : ON} {g : Ap} {id : String} {x : Str} {p : Pos} {es : List Expr} (hc : CallR X (.builtin id) (rON X.K f)) (hg : Gl X x) (hm : X.mg x = none) (hv : bootBuiltins x = some (.builtin id)) (ha : PA X (e :: es) (tA X.K W g)) (hn : x ≠ "__name__" := by decide) (hdb : (x == ("__debug__" : Str)) = false := by decide)
    (he : starEach (e :: es) X.env = (false, eval e X.env) :: starEach es X.env := by rfl) (hpl : (backTo pos (starEach es X.env)).any (·.1) = false := by rfl) : PE X (.Call (.Name x p) (e :: es) [] pos) (tE X.K W (eN f g)) :=
  (pe_callB hc hg hm hv ha hn hdb he hpl).imp fun _ _ _ => stepN
theorem sd_callT {f : ON} {g : Ap} {T : String} {x : Str} {p : Pos} {es : List Expr} (hc : CallR X (.type T) (rON X.K f)) (hg : Gl X x) (hm : X.mg x = none) (hv : bootBuiltins x = some (.type T)) (ha : PA X (e :: es) (tA X.K W g)) (hn : x ≠ "__name__" := by decide) (hdb : (x == ("__debug__" : Str)) = false := by decide)
    (he : starEach (e :: es) X.env = (false, eval e X.env) :: starEach es X.env := by rfl) (hpl : (backTo pos (starEach es X.env)).any (·.1) = false := by rfl) : PE X (.Call (.Name x p) (e :: es) [] pos) (tE X.K W (eN f g)) :=
  (pe_callTy hc hg hm hv ha hn hdb he hpl).imp fun _ _ _ => stepN
/-- a method of a built-in's: the receiver, the arguments -/
abbrev OM := A → List A → AH → Option (A × AH)
def eM (ty : A → AH → Prop) [∀ a h, Decidable (ty a h)] (f : OM) (o : Xp) (as : Ap) : Xp := fun ρ h => (o ρ h).bind fun x h1 => if ty x h1 then (as ρ h1).bind fun xs h2 => Out.of (f x xs h2) else .bad
def rOM (K : PySem.W.Frag) (f : OM) : V → List V → Hp → VK → Prop := fun x xs H Q => ∃ m h a as, Rel K m H h ∧ Rep K m H x a ∧ Reps K m H xs as ∧ PostV K m H (Rep K) (f a as h) Q
def TyOk (K : PySem.W.Frag) (T : String) (ty : A → AH → Prop) : Prop := ∀ m H h x a, Rel K m H h → Rep K m H x a → ty a h → tyV K T x H
theorem sd_meth {ty : A → AH → Prop} [∀ a h, Decidable (ty a h)] {f : OM} {fo : Xp} {g : Ap} {o : Expr} {es : List Expr} {name : Str} {apos cpos : Pos} {T id : String} (hty : TyOk X.K T ty) (pa : PlainAttrs T) (slot : Slot T name id) (ht : typeOf (.builtin id) = pure (.type "method_descriptor")) (hm : MtR X id (rOM X.K f))
    (ho : PE X o (tE X.K W fo)) (ha : PA X (e :: es) (tA X.K W g))
    (hbase : attributeBase o name X.env (eval o X.env) = eval o X.env := by rfl)
    (hfew : ((backTo cpos (starEach (e :: es) X.env)).all (fun x => !x.1) && (backToKw cpos (keywordEach [] X.env)).all (fun x => x.1.isSome)
      && decide ((e :: es).length + ([] : List Keyword).length + (if ([] : List Keyword).isEmpty then 0 else 1) < 30)) = true := by rfl)
    (hline : (apos.endLine == cpos.line) = true := by rfl) (hs : starEach (e :: es) X.env = (false, eval e X.env) :: starEach es X.env := by rfl) (hplain : (backTo cpos (starEach es X.env)).any (·.1) = false := by rfl) :
    PE X (.Call (.Attribute o name apos) (e :: es) [] cpos) (tE X.K W (eM ty f fo g)) := (pe_bm pa slot ht hm ho ha hbase hfew hline hs hplain).imp fun σ H Q ⟨m, ρ, h, r, s, p⟩ => by
  refine ⟨m, ρ, h, r, s, (Post.bind p).mono fun u H1 ⟨m1, h1, a, st1, r1, x1, p1⟩ => ?_⟩
  split at p1
  · next q =>
    refine ⟨hty _ _ _ _ _ r1 x1 q, m1, ρ, h1, r1, s.step st1, (Post.bind p1).mono fun u2 H2 ⟨m2, h2, b, st2, r2, x2, p2⟩ => ?_⟩
    exact ⟨m2, h2, a, b, r2, x1.step st2, x2, Post.of_.mp p2⟩
  · exact p1.elim
theorem sd_meth0 {ty : A → AH → Prop} [∀ a h, Decidable (ty a h)] {f : OM} {fo : Xp} {o : Expr} {name : Str} {apos cpos : Pos} {T id : String} (hty : TyOk X.K T ty) (pa : PlainAttrs T) (slot : Slot T name id) (ht : typeOf (.builtin id) = pure (.type "method_descriptor")) (hm : MtR X id (rOM X.K f))
    (ho : PE X o (tE X.K W fo)) (hbase : attributeBase o name X.env (eval o X.env) = eval o X.env := by rfl) (hline : (apos.endLine == cpos.line) = true := by rfl) :
    PE X (.Call (.Attribute o name apos) [] [] cpos) (tE X.K W (eM ty f fo aNil)) := (pe_bm0 pa slot ht hm ho hbase hline).imp fun σ H Q ⟨m, ρ, h, r, s, p⟩ => by
  refine ⟨m, ρ, h, r, s, (Post.bind p).mono fun u H1 ⟨m1, h1, a, st1, r1, x1, p1⟩ => ?_⟩
  split at p1
  · next q => exact ⟨hty _ _ _ _ _ r1 x1 q, m1, h1, a, [], r1, x1, .nil, Post.of_.mp p1⟩
  · exact p1.elim

/-! ### own defs -/
abbrev Fn := List A → AH → Out A
/-- what a def promises that computes f -/
def spF (K : PySem.W.Frag) (n : Nat) (f : Fn) : Sp := fun vs H Q E => vs.length = n ∧ ∃ m h as, Rel K m H h ∧ Reps K m H vs as ∧ Post K (fun cls d _ H' => E cls d H') [] m H (Rep K) (f as h) Q
theorem Post.reslot {α β : Type} {R : Mp → Hp → β → α → Prop} {m : Mp} {H : Hp} {σ : L2.St} {o : Out α} {Q : β → Hp → Prop} (p : Post K W σ m H R o Q) : Post K (fun cls d _ H' => W cls d σ H') [] m H R o Q := by
  cases o with
  | ok v h' => exact p
  | exc c fs h' => exact p
  | bad => exact p
end
end Ab

namespace Ab
open PySem PySem.Spec PyProof.Rows L2

inductive Fl where
  | nx (ρ : Env) (h : AH) | rt (v : A) (h : AH) | bk (ρ : Env) (h : AH) | ct (ρ : Env) (h : AH) | exc (c : Str) (fs : List (Str × A)) (ρ : Env) (h : AH) | bad
abbrev Sm := Env → AH → Fl
def Out.fl {α : Type} (o : Out α) (ρ : Env) (k : α → AH → Fl) : Fl := match o with
  | .ok a h => k a h
  | .exc c fs h => .exc c fs ρ h
  | .bad => .bad
@[simp] theorem Out.fl_ok {α : Type} (a : α) (h : AH) (ρ : Env) (k : α → AH → Fl) : (Out.ok a h).fl ρ k = k a h := rfl
@[simp] theorem Out.fl_exc {α : Type} (c : Str) (fs : List (Str × A)) (h : AH) (ρ : Env) (k : α → AH → Fl) : (Out.exc c fs h : Out α).fl ρ k = .exc c fs ρ h := rfl
@[simp] theorem Out.fl_bad {α : Type} (ρ : Env) (k : α → AH → Fl) : (Out.bad : Out α).fl ρ k = .bad := rfl
def Fl.seq (f : Fl) (k : Env → AH → Fl) : Fl := match f with
  | .nx ρ h => k ρ h
  | f => f
@[simp] theorem Fl.seq_nx (ρ : Env) (h : AH) (k : Env → AH → Fl) : (Fl.nx ρ h).seq k = k ρ h := rfl
@[simp] theorem Fl.seq_rt (v : A) (h : AH) (k : Env → AH → Fl) : (Fl.rt v h).seq k = .rt v h := rfl
@[simp] theorem Fl.seq_bk (ρ : Env) (h : AH) (k : Env → AH → Fl) : (Fl.bk ρ h).seq k = .bk ρ h := rfl
@[simp] theorem Fl.seq_ct (ρ : Env) (h : AH) (k : Env → AH → Fl) : (Fl.ct ρ h).seq k = .ct ρ h := rfl
@[simp] theorem Fl.seq_exc (c : Str) (fs : List (Str × A)) (ρ : Env) (h : AH) (k : Env → AH → Fl) : (Fl.exc c fs ρ h).seq k = .exc c fs ρ h := rfl
@[simp] theorem Fl.seq_bad (k : Env → AH → Fl) : (Fl.bad).seq k = .bad := rfl

section
variable {K : PySem.W.Frag} {W : WX} {m : Mp} {H : Hp}
def PostS (K : PySem.W.Frag) (W : WX) (m : Mp) (H : Hp) (f : Fl) (D : Ends) : Prop := match f with
  | .nx ρ' h' => ∀ m' H' σ', Step m H m' H' → Rel K m' H' h' → RSt K m' H' σ' ρ' → D.nx σ' H'
  | .rt v h' => ∀ m' H' u, Step m H m' H' → Rel K m' H' h' → Rep K m' H' u v → D.rt u H'
  | .bk ρ' h' => ∀ m' H' σ', Step m H m' H' → Rel K m' H' h' → RSt K m' H' σ' ρ' → D.bk σ' H'
  | .ct ρ' h' => ∀ m' H' σ', Step m H m' H' → Rel K m' H' h' → RSt K m' H' σ' ρ' → D.ct σ' H'
  | .exc c fs ρ' h' => ∀ m' H' σ' d, Step m H m' H' → Rel K m' H' h' → RSt K m' H' σ' ρ' → ExcR K m' H' d fs → W (.ref (He.ga K c)) d σ' H'
  | .bad => False
theorem PostS.step {m1 : Mp} {H1 : Hp} {f : Fl} {D : Ends} (st : Step m H m1 H1) (p : PostS K W m H f D) : PostS K W m1 H1 f D := by
  cases f with
  | nx ρ h => exact fun m' H' σ' s => p m' H' σ' (st.trans s)
  | rt v h => exact fun m' H' σ' s => p m' H' σ' (st.trans s)
  | bk ρ h => exact fun m' H' σ' s => p m' H' σ' (st.trans s)
  | ct ρ h => exact fun m' H' σ' s => p m' H' σ' (st.trans s)
  | exc c fs ρ h => exact fun m' H' σ' d s => p m' H' σ' d (st.trans s)
  | bad => exact p
/-- an expression, then the rest -/
theorem PostS.fl {α β : Type} {R : Mp → Hp → β → α → Prop} {o : Out α} {ρ : Env} {k : α → AH → Fl} {D : Ends} {σ : L2.St} (s : RSt K m H σ ρ) (p : PostS K W m H (o.fl ρ k) D) :
    Post K W σ m H R o (fun u H1 => ∃ m1 h1 a, Step m H m1 H1 ∧ Rel K m1 H1 h1 ∧ R m1 H1 u a ∧ PostS K W m1 H1 (k a h1) D) := by
  cases o with
  | ok a h => exact fun m1 H1 u s1 r1 x1 => ⟨m1, h, a, s1, r1, x1, PostS.step s1 p⟩
  | exc c fs h => exact fun m1 H1 d s1 r1 x1 => p m1 H1 σ d s1 r1 (s.step s1) x1
  | bad => exact p
/-- a statement, then the rest -/
theorem PostS.seq {f : Fl} {k : Env → AH → Fl} {D : Ends} (p : PostS K W m H (f.seq k) D) :
    PostS K W m H f { D with nx := fun σ1 H1 => ∃ m1 h1 ρ1, Step m H m1 H1 ∧ Rel K m1 H1 h1 ∧ RSt K m1 H1 σ1 ρ1 ∧ PostS K W m1 H1 (k ρ1 h1) D } := by
  cases f with
  | nx ρ h => exact fun m1 H1 σ1 s1 r1 x1 => ⟨m1, h, ρ, s1, r1, x1, PostS.step s1 p⟩
  | rt v h => exact p
  | bk ρ h => exact p
  | ct ρ h => exact p
  | exc c fs ρ h => exact p
  | bad => exact p
theorem PostS.mono {f : Fl} {D D' : Ends} (p : PostS K W m H f D) (h1 : ∀ σ H, D.nx σ H → D'.nx σ H) (h2 : ∀ v H, D.rt v H → D'.rt v H) (h3 : ∀ σ H, D.bk σ H → D'.bk σ H) (h4 : ∀ σ H, D.ct σ H → D'.ct σ H) : PostS K W m H f D' := by
  cases f with
  | nx ρ h => exact fun m' H' σ' s r x => h1 _ _ (p m' H' σ' s r x)
  | rt v h => exact fun m' H' σ' s r x => h2 _ _ (p m' H' σ' s r x)
  | bk ρ h => exact fun m' H' σ' s r x => h3 _ _ (p m' H' σ' s r x)
  | ct ρ h => exact fun m' H' σ' s r x => h4 _ _ (p m' H' σ' s r x)
  | exc c fs ρ h => exact p
  | bad => exact p
end
def tS (K : PySem.W.Frag) (W : WX) (f : Sm) : TS := fun D σ H => ∃ m ρ h, Rel K m H h ∧ RSt K m H σ ρ ∧ PostS K W m H (f ρ h) D

section
variable {X : Cx} {W : WX} {K : PySem.W.Frag} {e e1 e2 : Expr} {pos : Pos} {st : Stmt} {rest : List Stmt}
def sNil : Sm := fun ρ h => .nx ρ h
def sSeq (a b : Sm) : Sm := fun ρ h => (a ρ h).seq b
theorem ss_nil : PSs X [] (tS X.K W sNil) := pss_nil.imp fun D σ H ⟨m, ρ, h, r, s, p⟩ => p m H σ Step.refl r s
theorem ss_cons {f g : Sm} (h1 : PS X st (tS X.K W f)) (h2 : PSs X rest (tS X.K W g)) : PSs X (st :: rest) (tS X.K W (sSeq f g)) := (pss_cons h1 h2).imp fun D σ H ⟨m, ρ, h, r, s, p⟩ => by
  refine ⟨m, ρ, h, r, s, (PostS.seq p).mono (fun σ1 H1 ⟨m1, h1, ρ1, st1, r1, s1, p1⟩ => ?_) (fun _ _ z => z) (fun _ _ z => z) (fun _ _ z => z)⟩
  exact ⟨m1, ρ1, h1, r1, s1, p1⟩
theorem ss_one {f : Sm} (h1 : PS X st (tS X.K W f)) : PSs X [st] (tS X.K W f) := pss_one h1
def sPass : Sm := fun ρ h => .nx ρ h
theorem ss_pass : PS X (.Pass pos) (tS X.K W sPass) := ps_pass.imp fun D σ H ⟨m, ρ, h, r, s, p⟩ => p m H σ Step.refl r s
def sBreak : Sm := fun ρ h => .bk ρ h
def sCont : Sm := fun ρ h => .ct ρ h
theorem ss_break : PS X (.Break pos) (tS X.K W sBreak) := ps_break.imp fun D σ H ⟨m, ρ, h, r, s, p⟩ => p m H σ Step.refl r s
theorem ss_cont : PS X (.Continue pos) (tS X.K W sCont) := ps_continue.imp fun D σ H ⟨m, ρ, h, r, s, p⟩ => p m H σ Step.refl r s
/-- what is never reached -/
def sBad : Sm := fun _ _ => .bad
theorem ss_bad : PS X st (tS X.K W sBad) := ps_never.imp fun D σ H ⟨m, ρ, h, r, s, p⟩ => p
theorem sss_bad {sts : List Stmt} : PSs X sts (tS X.K W sBad) := pss_never.imp fun D σ H ⟨m, ρ, h, r, s, p⟩ => p
def sExpr (f : Xp) : Sm := fun ρ h => (f ρ h).fl ρ fun _ h1 => .nx ρ h1
theorem ss_expr {f : Xp} (he : PE X e (tE X.K W f)) (hs : swapsWith e none pos.line X.env = pure false := by rfl) : PS X (.Expr e pos) (tS X.K W (sExpr f)) := (ps_expr he hs).imp fun D σ H ⟨m, ρ, h, r, s, p⟩ =>
  ⟨m, ρ, h, r, s, (PostS.fl s p).mono fun u H1 ⟨m1, h1, a, st1, r1, x1, p1⟩ => p1 m1 H1 σ Step.refl r1 (s.step st1)⟩
def sRet (f : Xp) : Sm := fun ρ h => (f ρ h).fl ρ fun v h1 => .rt v h1
theorem ss_ret {f : Xp} (he : PE X e (tE X.K W f)) : PS X (.Return (some e) pos) (tS X.K W (sRet f)) := (ps_ret he).imp fun D σ H ⟨m, ρ, h, r, s, p⟩ =>
  ⟨m, ρ, h, r, s, (PostS.fl s p).mono fun u H1 ⟨m1, h1, a, st1, r1, x1, p1⟩ => p1 m1 H1 u Step.refl r1 x1⟩
def sRetN : Sm := fun _ h => .rt .non h
theorem ss_retN : PS X (.Return none pos) (tS X.K W sRetN) := ps_retN.imp fun D σ H ⟨m, ρ, h, r, s, p⟩ => p m H _ Step.refl r .non
def sIf (t : Tp) (a b : Sm) : Sm := fun ρ h => (t ρ h).fl ρ fun c h1 => if c = true then a ρ h1 else b ρ h1
theorem ss_if {t : Tp} {f g : Sm} {c : Expr} {a b : List Stmt} (hc : PT X c (tT X.K W t)) (ha : PSs X a (tS X.K W f)) (hb : PSs X b (tS X.K W g)) : PS X (.If c a b pos) (tS X.K W (sIf t f g)) := (ps_if hc ha hb).imp fun D σ H ⟨m, ρ, h, r, s, p⟩ => by
  refine ⟨m, ρ, h, r, s, (PostS.fl s p).mono fun u H1 ⟨m1, h1, a, st1, r1, x1, p1⟩ => ?_⟩
  cases x1
  split
  · next q => rw [if_pos q] at p1; exact ⟨m1, ρ, h1, r1, s.step st1, p1⟩
  · next q => rw [if_neg q] at p1; exact ⟨m1, ρ, h1, r1, s.step st1, p1⟩

/-! ### targets -/
abbrev Tg := A → Env → Option Env
def tgN (i : Nat) : Tg := fun a ρ => some (ρ.set i (some a))
def tgAll : List Tg → List A → Env → Option Env
  | [], [], ρ => some ρ
  | t :: ts, a :: as, ρ => (t a ρ).bind fun ρ1 => tgAll ts as ρ1
  | _, _, _ => none
def tgT (ts : List Tg) : Tg := fun a ρ => match a with
  | .tup xs => tgAll ts xs ρ
  | _ => none
def rTg (K : PySem.W.Frag) (f : Tg) : TG := fun v σ H Q => ∃ m ρ h a ρ', Rel K m H h ∧ RSt K m H σ ρ ∧ Rep K m H v a ∧ f a ρ = some ρ' ∧ ∀ σ', RSt K m H σ' ρ' → σ'.length = σ.length → Q σ' H
def rTgs (K : PySem.W.Frag) (fs : List Tg) : TGs := fun vs σ H Q => ∃ m ρ h as ρ', Rel K m H h ∧ RSt K m H σ ρ ∧ Reps K m H vs as ∧ tgAll fs as ρ = some ρ' ∧ ∀ σ', RSt K m H σ' ρ' → σ'.length = σ.length → Q σ' H
theorem _root_.L2.PG.imp {t : Expr} {g g' : TG} (h : PG X t g) (q : ∀ v σ H Q, g' v σ H Q → g v σ H Q) : PG X t g' := ⟨fun pins s σ H v u Q I r z => h.run pins s σ H v u Q I r (q _ _ _ _ z)⟩
theorem _root_.L2.PGs.imp {t : List Expr} {g g' : TGs} (h : PGs X t g) (q : ∀ v σ H Q, g' v σ H Q → g v σ H Q) : PGs X t g' := ⟨fun pins s σ H v u Q I r z => h.run pins s σ H v u Q I r (q _ _ _ _ z)⟩
theorem sg_name (i : Nat) {x : Str} (hN : X.N.Nodup) (hi : X.N[i]? = some x := by rfl) (hx : Loc X.env.scope x := by first | exact .inl rfl | exact .inr rfl) (hf : X.fn x = true ∨ X.env.scope.names.lookup x = some .local := by first | exact .inl rfl | exact .inr rfl | assumption) :
    PG X (.Name x pos) (rTg X.K (tgN i)) := (pg_name hN hi hx hf).imp fun v σ H Q ⟨m, ρ, h, a, ρ', r, s, x, e, q⟩ => by
  cases e
  exact q _ (s.set x) (by simp)
theorem sg_nil : PGs X [] (rTgs X.K []) := pgs_nil.imp fun vs σ H Q ⟨m, ρ, h, as, ρ', r, s, x, e, q⟩ => by
  cases as with
  | nil => cases x; cases e; exact ⟨rfl, q σ s rfl⟩
  | cons a as => cases e
theorem sg_cons {f : Tg} {fs : List Tg} {t : Expr} {ts : List Expr} (h1 : PG X t (rTg X.K f)) (h2 : PGs X ts (rTgs X.K fs)) (hs : (assignEach (t :: ts) X.env).map (·.2) = assign t X.env :: (assignEach ts X.env).map (·.2) := by rfl) :
    PGs X (t :: ts) (rTgs X.K (f :: fs)) := (pgs_cons h1 h2 hs).imp fun vs σ H Q ⟨m, ρ, h, as, ρ', r, s, x, e, q⟩ => by
  cases as with
  | nil => cases e
  | cons a as =>
    cases x with
    | cons x xs =>
      refine ⟨_, _, rfl, ?_⟩
      cases q1 : f a ρ with
      | none => simp [tgAll, q1] at e
      | some ρ1 =>
        have e2 : tgAll fs as ρ1 = some ρ' := by simpa [tgAll, q1] using e
        exact ⟨m, ρ, h, a, ρ1, r, s, x, q1, fun σ1 s1 l1 => ⟨m, ρ1, h, as, ρ', r, s1, xs, e2, fun σ2 s2 l2 => q σ2 s2 (l2.trans l1)⟩⟩
theorem sqt_of {K : PySem.W.Frag} {m : Mp} {H : Hp} {v : V} {xs : List A} (x : Rep K m H v (.tup xs)) : ∃ p vs, v = .ref p ∧ SqT K H p vs ∧ Reps K m H vs xs := by
  cases x with
  | tup h f r => exact ⟨_, _, rfl, .inl h, r⟩
  | tupK h r => exact ⟨_, _, rfl, .inr h, r⟩
theorem sql_of {K : PySem.W.Frag} {m : Mp} {H : Hp} {v : V} {xs : List A} (x : Rep K m H v (.lst xs)) : ∃ p vs, v = .ref p ∧ SqL K H p vs ∧ Reps K m H vs xs := by
  cases x with
  | lst h f r => exact ⟨_, _, rfl, .inl h, r⟩
  | lstK h r => exact ⟨_, _, rfl, .inr h, r⟩
theorem tgAll_len : ∀ {ts : List Tg} {as : List A} {ρ ρ' : Env}, tgAll ts as ρ = some ρ' → as.length = ts.length
  | [], [], _, _, _ => rfl
  | [], _ :: _, _, _, e => by cases e
  | _ :: _, [], _, _, e => by cases e
  | t :: ts, a :: as, ρ, ρ', e => by
    cases q1 : t a ρ with
    | none => simp [tgAll, q1] at e
    | some ρ1 =>
      have e2 : tgAll ts as ρ1 = some ρ' := by simpa [tgAll, q1] using e
      exact congrArg Nat.succ (tgAll_len e2)
theorem sg_tup {fs : List Tg} {ts : List Expr} {k : Nat} {n : Nat} (hc : X.calm = true) (hl : fs.length = n) (h : PGs X ts (rTgs X.K fs)) (hn : (assignEach ts X.env).length = n := by rfl) (hst : (assignEach ts X.env).findIdx? (·.1) = none := by rfl) :
    PG X (.Tuple ts k pos) (rTg X.K (tgT fs)) := (pg_tup hc h hn hst).imp fun v σ H Q ⟨m, ρ, h, a, ρ', r, s, x, e, q⟩ => by
  cases a with
  | tup xs =>
    obtain ⟨p, vs, rfl, hq, xr⟩ := sqt_of x
    exact ⟨p, vs, rfl, hq, by rw [xr.length, tgAll_len e, hl], m, ρ, h, xs, ρ', r, s, xr, e, q⟩
  | _ => cases e

/-! ### assignments -/
def sAsg (g : Tg) (f : Xp) : Sm := fun ρ h => (f ρ h).fl ρ fun v h1 => match g v ρ with
  | some ρ1 => .nx ρ1 h1
  | none => .bad
theorem ss_asg {g : Tg} {f : Xp} {tg : Expr} (he : PE X e (tE X.K W f)) (hg : PG X tg (rTg X.K g)) (hs : swapsWithSole [tg] e pos.line X.env = pure false := by rfl) (hw : swappedStores [tg] e X.env = pure none := by rfl) (h1 : (assignEach [tg] X.env).map (·.2) = [assign tg X.env] := by rfl) :
    PS X (.Assign [tg] e pos) (tS X.K W (sAsg g f)) := (ps_asg he hg hs hw h1).imp fun D σ H ⟨m, ρ, h, r, s, p⟩ => by
  refine ⟨m, ρ, h, r, s, (PostS.fl s p).mono fun u H1 ⟨m1, h1, a, st1, r1, x1, p1⟩ => ?_⟩
  split at p1
  · next ρ1 q => exact ⟨m1, ρ, h1, a, ρ1, r1, s.step st1, x1, q, fun σ' s' _ => p1 m1 H1 σ' Step.refl r1 s'⟩
  · exact p1.elim
def sSet (i : Nat) (f : Xp) : Sm := fun ρ h => (f ρ h).fl ρ fun v h1 => .nx (ρ.set i (some v)) h1
theorem ss_set (i : Nat) {x : Str} {f : Xp} {pos' : Pos} (hN : X.N.Nodup) (he : PE X e (tE X.K W f)) (hi : X.N[i]? = some x := by rfl) (hx : Loc X.env.scope x := by first | exact .inl rfl | exact .inr rfl) (hs : swapsWith e (some (.Name x pos')) pos.line X.env = pure false := by rfl)
    (hf : X.fn x = true ∨ X.env.scope.names.lookup x = some .local := by first | exact .inl rfl | exact .inr rfl | assumption) : PS X (.Assign [.Name x pos'] e pos) (tS X.K W (sSet i f)) :=
  (ps_set hN hi hx he (hs := hs) (hf := hf)).imp fun D σ H ⟨m, ρ, h, r, s, p⟩ =>
    ⟨m, ρ, h, r, s, (PostS.fl s p).mono fun u H1 ⟨m1, h1, a, st1, r1, x1, p1⟩ => p1 m1 H1 _ Step.refl r1 ((s.step st1).set x1)⟩
/-- o[i] = e: the value first -/
abbrev O3 := A → A → A → AH → Option AH
def rO3 (K : PySem.W.Frag) (f : O3) : TSet := fun o i v H Q => ∃ m h a b c, Rel K m H h ∧ Rep K m H o a ∧ Rep K m H i b ∧ Rep K m H v c ∧ (match f a b c h with
  | some h' => ∀ m' H', Step m H m' H' → Rel K m' H' h' → Q H'
  | none => False)
def sPut (f : O3) (o i v : Xp) : Sm := fun ρ h => (v ρ h).fl ρ fun c h1 => (o ρ h1).fl ρ fun a h2 => (i ρ h2).fl ρ fun b h3 => match f a b c h3 with
  | some h4 => .nx ρ h4
  | none => .bad
theorem _root_.L2.PSet.imp {t t' : TSet} (h : PSet X t) (q : ∀ o i v H Q, t' o i v H Q → t o i v H Q) : PSet X t' := fun pins s σ H o i v ov iv u Q I r1 r2 r3 z => h pins s σ H o i v ov iv u Q I r1 r2 r3 (q _ _ _ _ _ z)
theorem ss_put {f : O3} {fo fi fv : Xp} {o i : Expr} {pos' : Pos} (hp : PSet X (rO3 X.K f)) (ho : PE X o (tE X.K W fo)) (hi : PE X i (tE X.K W fi)) (he : PE X e (tE X.K W fv))
    (ha : ∀ v, assign (.Subscript o i pos') X.env v = (do
      let ov ← holding [v] (eval o X.env)
      let iv ← holding [v, ov] (eval i X.env)
      standAt pos'
      holding [v, ov, iv] (setItem ov iv v)
      release [v, ov, iv] []) := by intro _; rfl)
    (hs : swapsWithSole [.Subscript o i pos'] e pos.line X.env = pure false := by rfl) (hw : swappedStores [.Subscript o i pos'] e X.env = pure none := by rfl) (h1 : (assignEach [.Subscript o i pos'] X.env).map (·.2) = [assign (.Subscript o i pos') X.env] := by rfl) :
    PS X (.Assign [.Subscript o i pos'] e pos) (tS X.K W (sPut f fo fi fv)) := (ps_asg he (pg_sub ho hi hp ha) hs hw h1).imp fun D σ H ⟨m, ρ, h, r, s, p⟩ => by
  refine ⟨m, ρ, h, r, s, (PostS.fl s p).mono fun u H1 ⟨m1, h1, c, st1, r1, x1, p1⟩ => ?_⟩
  refine ⟨m1, ρ, h1, r1, s.step st1, (PostS.fl (s.step st1) p1).mono fun u2 H2 ⟨m2, h2, a, st2, r2, x2, p2⟩ => ?_⟩
  refine ⟨m2, ρ, h2, r2, (s.step st1).step st2, (PostS.fl ((s.step st1).step st2) p2).mono fun u3 H3 ⟨m3, h3, b, st3, r3, x3, p3⟩ => ?_⟩
  refine ⟨m3, h3, a, b, c, r3, x2.step st3, x3, (x1.step st2).step st3, ?_⟩
  cases q : f a b c h3 with
  | none => rw [q] at p3; exact p3.elim
  | some h4 =>
    rw [q] at p3
    exact fun m' H' st r' => p3 m' H' σ st r' (((s.step st1).step st2).step (st3.trans st))
/-- x op= e of a local -/
def sAug (i : Nat) (f : O2) (g : Xp) : Sm := fun ρ h => (eVar i ρ h).fl ρ fun x h1 => (g ρ h1).fl ρ fun y h2 => (Out.of (f x y h2)).fl ρ fun z h3 => .nx (ρ.set i (some z)) h3
theorem ss_aug (i : Nat) {x : Str} {f : O2} {g : Xp} {op : Operator} {pos' : Pos} (hN : X.N.Nodup) (ho : OpR X (inplaceOp op) (rO2 X.K f)) (he : PE X e (tE X.K W g)) (hi : X.N[i]? = some x := by rfl) (hx : Loc X.env.scope x := by first | exact .inl rfl | exact .inr rfl)
    (hf : X.fn x = true ∨ X.env.scope.names.lookup x = some .local := by first | exact .inl rfl | exact .inr rfl | assumption) : PS X (.AugAssign (.Name x pos') op e pos) (tS X.K W (sAug i f g)) :=
  (ps_aug (ti := rO2 X.K f) hN hi hx he ho (hf := hf)).imp fun D σ H ⟨m, ρ, h, r, s, p⟩ => by
    unfold sAug eVar at p
    split at p
    · next v q =>
      obtain ⟨u, h1, h2⟩ := s.get q
      rw [Out.fl_ok] at p
      refine ⟨u, h1, m, ρ, h, r, s, (PostS.fl s p).mono fun u1 H1 ⟨m1, h1', a, st1, r1, x1, p1⟩ => ?_⟩
      refine ⟨m1, h1', v, a, r1, h2.step st1, x1, Post.of_.mp ((PostS.fl (s.step st1) p1).mono fun u2 H2 ⟨m2, h2', b, st2, r2, x2, p2⟩ => ?_)⟩
      exact p2 m2 H2 _ Step.refl r2 (((s.step st1).step st2).set x2)
    · exact p.elim
end
end Ab

namespace Ab
open PySem PySem.Spec PyProof.Rows L2
open Classical

/-! ### what is walked: the items, and what must hold of the heap meanwhile -/
structure WalkA (K : PySem.W.Frag) (m0 : Mp) (H0 : Hp) (J : It) (xs : List A) (chk : AH → Prop) : Prop where
  goes : ∀ i m H h, Grow m0 H0 m H → Rel K m H h → chk h → i < xs.length → J.go i H
  stops : ∀ m H h, Grow m0 H0 m H → Rel K m H h → chk h → J.stop xs.length H
  yields : ∀ i m H h x H', Grow m0 H0 m H → Rel K m H h → chk h → i < xs.length → J.yld i H x H' → ∃ a, xs[i]? = some a ∧ Step m H m H' ∧ Rel K m H' h ∧ Rep K m H' x a
abbrev Ip := Env → AH → Out (List A × (AH → Prop))
abbrev RI (K : PySem.W.Frag) : Mp → Hp → It → (List A × (AH → Prop)) → Prop := fun m H J p => WalkA K m H J p.1 p.2
def tI (K : PySem.W.Frag) (W : WX) (f : Ip) : TI := fun σ H R => ∃ m ρ h, Rel K m H h ∧ RSt K m H σ ρ ∧ Post K W σ m H (RI K) (f ρ h) R
theorem _root_.L2.PI.imp {X : Cx} {tg e : Expr} {t t' : TI} (h : PI X tg e t) (q : ∀ σ H R, t' σ H R → t σ H R) : PI X tg e t' := ⟨fun pins s σ H R I x => h.run pins s σ H R I (q σ H R x)⟩

noncomputable def forL (chk : AH → Prop) (g : Tg) (body : Sm) : List A → Env → AH → Fl
  | [], ρ, h => if chk h then .nx ρ h else .bad
  | x :: xs, ρ, h => if chk h then
      match g x ρ with
      | none => .bad
      | some ρ1 => match body ρ1 h with
        | .nx ρ2 h2 => forL chk g body xs ρ2 h2
        | .ct ρ2 h2 => forL chk g body xs ρ2 h2
        | .bk ρ2 h2 => .nx ρ2 h2
        | f => f
    else .bad
noncomputable def sFor (it : Ip) (g : Tg) (body : Sm) : Sm := fun ρ h => (it ρ h).fl ρ fun p h1 => forL p.2 g body p.1 ρ h1
def whileN (t : Tp) (body : Sm) : Nat → Env → AH → Fl
  | 0, _, _ => .bad
  | n + 1, ρ, h => (t ρ h).fl ρ fun c h1 => if c = true then
      match body ρ h1 with
      | .nx ρ2 h2 => whileN t body n ρ2 h2
      | .ct ρ2 h2 => whileN t body n ρ2 h2
      | .bk ρ2 h2 => .nx ρ2 h2
      | f => f
    else .nx ρ h1
def sWhile (n : Nat) (t : Tp) (body : Sm) : Sm := fun ρ h => whileN t body n ρ h

section
variable {X : Cx} {W : WX} {e e1 e2 iter target : Expr} {pos : Pos} {body : List Stmt}
theorem drop_cons {α : Type} {xs : List α} {i : Nat} {a : α} (h : xs[i]? = some a) : xs.drop i = a :: xs.drop (i + 1) := by
  obtain ⟨hi, e⟩ := List.getElem?_eq_some_iff.mp h
  rw [← e]
  exact List.drop_eq_getElem_cons hi
theorem ss_for {it : Ip} {g : Tg} {b : Sm} (po : PassesOwn (model X.prog X.w) X.A X.env X.xe) (hc : X.calm = true) (hi : PI X target iter (tI X.K W it)) (hg : PG X target (rTg X.K g)) (hb : PSs X body (tS X.K W b)) (hs : ∀ x, foldedSetIterable iter X.env x = pure x := by intro _; rfl) :
    PS X (.For target iter body [] pos) (tS X.K W (sFor it g b)) := (ps_for po hc hi hg hb hs).imp fun D σ H ⟨m, ρ, h, r, s, p⟩ => by
  refine ⟨m, ρ, h, r, s, (PostS.fl s p).mono fun J H1 ⟨m1, h1, q, st1, r1, wk, p1⟩ => ?_⟩
  refine ⟨fun i mm σ' H' => mm = q.1.length - i ∧ i ≤ q.1.length ∧ ∃ m2 ρ2 h2, Step m1 H1 m2 H' ∧ Rel X.K m2 H' h2 ∧ RSt X.K m2 H' σ' ρ2 ∧ PostS X.K W m2 H' (forL q.2 g b (q.1.drop i) ρ2 h2) D,
    ⟨_, rfl, Nat.zero_le _, m1, ρ, h1, Step.refl, r1, s.step st1, p1⟩, ?_⟩
  rintro i mm σ' H' ⟨rfl, hle, m2, ρ2, h2, st2, r2, s2, p2⟩
  by_cases hi : i < q.1.length
  · have ea : q.1.drop i = q.1[i] :: q.1.drop (i + 1) := List.drop_eq_getElem_cons hi
    rw [ea] at p2
    unfold forL at p2
    split at p2
    · next ck =>
      refine .inr ⟨wk.goes i m2 H' h2 st2.toGrow r2 ck hi, fun σ3 H3 => q.1.length - (i + 1) = q.1.length - (i + 1) ∧ i + 1 ≤ q.1.length ∧ ∃ m3 ρ3 h3, Step m1 H1 m3 H3 ∧ Rel X.K m3 H3 h3 ∧ RSt X.K m3 H3 σ3 ρ3 ∧ PostS X.K W m3 H3 (forL q.2 g b (q.1.drop (i + 1)) ρ3 h3) D,
        fun σ3 H3 n3 => ⟨_, by omega, n3⟩, fun x H3 y => ?_⟩
      obtain ⟨a, e1, st3, r3, x3⟩ := wk.yields i m2 H' h2 x H3 st2.toGrow r2 ck hi y
      rw [List.getElem?_eq_getElem hi] at e1
      cases e1
      split at p2
      · exact p2.elim
      · next ρ3 eg =>
        refine ⟨m2, ρ2, h2, _, ρ3, r3, s2.step st3, x3, eg, fun σ4 s4 _ => ⟨m2, ρ3, h2, r3, s4, ?_⟩⟩
        have p3 := PostS.step st3 p2
        have go : ∀ ρ5 h5, PostS X.K W m2 H3 (forL q.2 g b (q.1.drop (i + 1)) ρ5 h5) D → ∀ m6 H6 σ6, Step m2 H3 m6 H6 → Rel X.K m6 H6 h5 → RSt X.K m6 H6 σ6 ρ5 → (q.1.length - (i + 1) = q.1.length - (i + 1) ∧ i + 1 ≤ q.1.length ∧ ∃ m3 ρ3 h3, Step m1 H1 m3 H6 ∧ Rel X.K m3 H6 h3 ∧ RSt X.K m3 H6 σ6 ρ3 ∧ PostS X.K W m3 H6 (forL q.2 g b (q.1.drop (i + 1)) ρ3 h3) D) :=
          fun ρ5 h5 p5 m6 H6 σ6 st6 r6 s6 => ⟨rfl, hi, m6, ρ5, h5, (st2.trans st3).trans st6, r6, s6, PostS.step st6 p5⟩
        cases eb : b ρ3 h2 with
        | nx ρ5 h5 => rw [eb] at p3; exact go ρ5 h5 p3
        | ct ρ5 h5 => rw [eb] at p3; exact go ρ5 h5 p3
        | bk ρ5 h5 => rw [eb] at p3; exact p3
        | rt v h5 => rw [eb] at p3; exact p3
        | exc c fs ρ5 h5 => rw [eb] at p3; exact p3
        | bad => rw [eb] at p3; exact p3
    · exact p2.elim
  · have ei : i = q.1.length := by omega
    subst ei
    rw [List.drop_length] at p2
    unfold forL at p2
    split at p2
    · next ck => exact .inl ⟨wk.stops m2 H' h2 st2.toGrow r2 ck, p2 m2 H' σ' Step.refl r2 s2⟩
    · exact p2.elim
theorem ss_while (n : Nat) {t : Tp} {b : Sm} {c : Expr} (po : PassesOwn (model X.prog X.w) X.A X.env X.xe) (hc : PT X c (tT X.K W t)) (hb : PSs X body (tS X.K W b)) : PS X (.While c body [] pos) (tS X.K W (sWhile n t b)) := (ps_while po hc hb).imp fun D σ H ⟨m, ρ, h, r, s, p⟩ => by
  refine ⟨fun mm σ' H' => ∃ m2 ρ2 h2, Rel X.K m2 H' h2 ∧ RSt X.K m2 H' σ' ρ2 ∧ PostS X.K W m2 H' (whileN t b mm ρ2 h2) D, ⟨n, m, ρ, h, r, s, p⟩, ?_⟩
  rintro mm σ' H' ⟨m2, ρ2, h2, r2, s2, p2⟩
  cases mm with
  | zero => exact p2.elim
  | succ mm =>
    unfold whileN at p2
    refine ⟨m2, ρ2, h2, r2, s2, (PostS.fl s2 p2).mono fun u H3 ⟨m3, h3, a, st3, r3, x3, p3⟩ => ?_⟩
    cases x3
    split
    · next q =>
      rw [if_pos q] at p3
      refine ⟨fun σ4 H4 => ∃ m4 ρ4 h4, Rel X.K m4 H4 h4 ∧ RSt X.K m4 H4 σ4 ρ4 ∧ PostS X.K W m4 H4 (whileN t b mm ρ4 h4) D, fun σ4 H4 n4 => ⟨mm, Nat.lt_succ_self _, n4⟩, m3, ρ2, h3, r3, s2.step st3, ?_⟩
      have go : ∀ ρ5 h5, PostS X.K W m3 H3 (whileN t b mm ρ5 h5) D → ∀ m6 H6 σ6, Step m3 H3 m6 H6 → Rel X.K m6 H6 h5 → RSt X.K m6 H6 σ6 ρ5 → ∃ m4 ρ4 h4, Rel X.K m4 H6 h4 ∧ RSt X.K m4 H6 σ6 ρ4 ∧ PostS X.K W m4 H6 (whileN t b mm ρ4 h4) D :=
        fun ρ5 h5 p5 m6 H6 σ6 st6 r6 s6 => ⟨m6, ρ5, h5, r6, s6, PostS.step st6 p5⟩
      cases eb : b ρ2 h3 with
      | nx ρ5 h5 => rw [eb] at p3; exact go ρ5 h5 p3
      | ct ρ5 h5 => rw [eb] at p3; exact go ρ5 h5 p3
      | bk ρ5 h5 => rw [eb] at p3; exact p3
      | rt v h5 => rw [eb] at p3; exact p3
      | exc c fs ρ5 h5 => rw [eb] at p3; exact p3
      | bad => rw [eb] at p3; exact p3
    · next q => rw [if_neg q] at p3; exact p3 m3 H3 σ' Step.refl r3 (s2.step st3)
end

/-! ### the walked things -/
section
variable {X : Cx} {W : WX} {e iter target : Expr} {pos : Pos} {K : PySem.W.Frag} {m0 : Mp} {H0 : Hp}
theorem sql_step {m : Mp} {H : Hp} {v : V} {xs : List A} (x : Rep K m0 H0 v (.lst xs)) : ∃ p vs, v = .ref p ∧ Reps K m0 H0 vs xs ∧ ∀ m H, Grow m0 H0 m H → SqL K H p vs := by
  cases x with
  | lst h f r => exact ⟨_, _, rfl, r, fun m H st => .inl (st.rd h f).1⟩
  | lstK h r => exact ⟨_, _, rfl, r, fun m H st => .inr h⟩
theorem sqt_step {v : V} {xs : List A} (x : Rep K m0 H0 v (.tup xs)) : ∃ p vs, v = .ref p ∧ Reps K m0 H0 vs xs ∧ ∀ m H, Grow m0 H0 m H → SqT K H p vs := by
  cases x with
  | tup h f r => exact ⟨_, _, rfl, r, fun m H st => .inl (st.rd h f).1⟩
  | tupK h r => exact ⟨_, _, rfl, r, fun m H st => .inr h⟩
/-- by the layer's own walks -/
theorem WalkA.of {J : It} {vs : List V} {xs : List A} {G : Hp → Prop} {chk : AH → Prop} (hx : Reps K m0 H0 vs xs) (w : Walk J vs.length G (YAt vs)) (hG : ∀ m H h, Grow m0 H0 m H → Rel K m H h → chk h → G H) : WalkA K m0 H0 J xs chk := by
  have hl := hx.length
  refine ⟨fun i m H h st r ck hi => w.goes i H (by omega) (hG m H h st r ck), fun m H h st r ck => hl ▸ w.stops H (hG m H h st r ck), fun i m H h x H' st r ck hi y => ?_⟩
  obtain ⟨rfl, e⟩ := w.yields i H x H' (by omega) (hG m H h st r ck) y
  obtain ⟨a, e2, q⟩ := hx.get' e
  exact ⟨a, e2, Step.refl, r, q.grow st⟩
/-- a list, a tuple: a value that stays, or a cell that must stay meanwhile -/
noncomputable def iSeq (f : Xp) : Ip := fun ρ h => (f ρ h).bind fun v h1 => match v with
  | .lst xs => .ok (xs, fun _ => True) h1
  | .li l => (match h1[l]? with
    | some (.lst xs) => .ok (xs, fun h => h[l]? = some (.lst xs)) h1
    | _ => .bad)
  | _ => .bad
theorem si_list {f : Xp} (h : PE X e (tE X.K W f)) : PI X target e (tI X.K W (iSeq f)) := (pi_list h).imp fun σ H R ⟨m, ρ, h, r, s, p⟩ => by
  refine ⟨m, ρ, h, r, s, (Post.bind p).mono fun u H1 ⟨m1, h1, a, st1, r1, x1, p1⟩ => ?_⟩
  cases a with
  | lst xs =>
    obtain ⟨q, vs, rfl, hr, hs⟩ := sql_step (m := m1) (H := H1) x1
    exact ⟨q, rfl, ⟨vs, hs m1 H1 Grow.refl⟩, p1 m1 H1 _ Step.refl r1 (WalkA.of hr walk_list fun m H h st _ _ => hs m H st)⟩
  | li l =>
    dsimp only at p1
    split at p1
    · next xs q =>
      cases x1 with
      | li hm =>
        obtain ⟨c, e1, e2⟩ := r1.cell l _ hm
        rw [q] at e1
        cases e1
        obtain ⟨vs, hv, hr⟩ := e2
        refine ⟨_, rfl, ⟨vs, .inl (.inl hv)⟩, p1 m1 H1 _ Step.refl r1 ?_⟩
        have key : ∀ m H h, Grow m1 H1 m H → Rel X.K m H h → h[l]? = some (.lst xs) → ∃ ws, H _ = some (.lst ws) ∧ Reps X.K m H ws xs := fun m H h st r ck => by
          rcases st.li hm with e3 | e3
          · obtain ⟨c, f1, f2⟩ := r.cell l _ e3
            rw [ck] at f1
            cases f1
            exact f2
          · have := r.ded l e3
            rw [ck] at this
            cases this
        refine ⟨fun i m H h st r ck hi => ?_, fun m H h st r ck => ?_, fun i m H h x H' st r ck hi y => ?_⟩
        · obtain ⟨ws, hw, rw'⟩ := key m H h st r ck
          exact (walk_list (xs := ws)).goes i H (by rw [rw'.length]; exact hi) (.inl (.inl hw))
        · obtain ⟨ws, hw, rw'⟩ := key m H h st r ck
          have z := (walk_list (K := X.K) (xs := ws)).stops H (.inl (.inl hw))
          rw [rw'.length] at z
          exact z
        · obtain ⟨ws, hw, rw'⟩ := key m H h st r ck
          obtain ⟨rfl, e5⟩ := (walk_list (xs := ws)).yields i H x H' (by rw [rw'.length]; exact hi) (.inl (.inl hw)) y
          obtain ⟨a, e6, q6⟩ := rw'.get' e5
          exact ⟨a, e6, Step.refl, r, q6⟩
      | ded hm =>
        have := r1.ded l hm
        rw [q] at this
        cases this
    · exact p1.elim
  | _ => exact p1.elim
def iTup (f : Xp) : Ip := fun ρ h => (f ρ h).bind fun v h1 => match v with
  | .tup xs => .ok (xs, fun _ => True) h1
  | _ => .bad
theorem si_tup {f : Xp} (h : PE X e (tE X.K W f)) : PI X target e (tI X.K W (iTup f)) := (pi_tup h).imp fun σ H R ⟨m, ρ, h, r, s, p⟩ => by
  refine ⟨m, ρ, h, r, s, (Post.bind p).mono fun u H1 ⟨m1, h1, a, st1, r1, x1, p1⟩ => ?_⟩
  cases a with
  | tup xs =>
    obtain ⟨q, vs, rfl, hr, hs⟩ := sqt_step x1
    exact ⟨q, rfl, ⟨vs, hs m1 H1 Grow.refl⟩, p1 m1 H1 _ Step.refl r1 (WalkA.of hr walk_tup fun m H h st _ _ => hs m H st)⟩
  | _ => exact p1.elim
def rangeA (lo : Int) (n : Nat) : List A := (List.range n).map fun (i : Nat) => A.int (lo + (i : Int))
theorem walk_rng {lo : Int} {n : Nat} : WalkA K m0 H0 (Itr lo n) (rangeA lo n) (fun _ => True) := by
  have hl : (rangeA lo n).length = n := by simp [rangeA]
  refine ⟨fun i m H h _ _ _ hi => by rw [hl] at hi; exact hi, fun m H h _ _ _ => by rw [hl]; exact Nat.le_refl _, fun i m H h x H' _ r _ hi y => ?_⟩
  obtain ⟨rfl, rfl⟩ := y
  refine ⟨_, ?_, Step.refl, r, .int⟩
  rw [hl] at hi
  simp [rangeA, List.getElem?_map, List.getElem?_range hi]
noncomputable def iR1 (as : Ap) : Ip := fun ρ h => (as ρ h).bind fun xs h1 => match xs with
  | [.int j] => if Gd (-(2 ^ 62) ≤ j ∧ j < 2 ^ 62) then .ok (rangeA 0 j.toNat, fun _ => True) h1 else .bad
  | _ => .bad
theorem si_range1 {a : Expr} {g : Ap} {p : Pos} (hg : Gl X "range") (hm : X.mg "range" = none) (ha : PA X [a] (tA X.K W g)) (hs : starEach [a] X.env = [(false, eval a X.env)] := by rfl) : PI X target (.Call (.Name "range" p) [a] [] pos) (tI X.K W (iR1 g)) := (pi_range1 hg hm ha hs).imp fun σ H R ⟨m, ρ, h, r, s, p⟩ => by
  refine ⟨m, ρ, h, r, s, (Post.bind p).mono fun u H1 ⟨m1, h1, a, st1, r1, x1, p1⟩ => ?_⟩
  split at p1
  · next j =>
    split at p1
    · next hj =>
      cases x1 with
      | cons x x2 =>
        cases x; cases x2
        exact ⟨j, rfl, hj.1, hj.2, p1 m1 H1 _ Step.refl r1 walk_rng⟩
    · exact p1.elim
  · exact p1.elim
noncomputable def iR2 (as : Ap) : Ip := fun ρ h => (as ρ h).bind fun xs h1 => match xs with
  | [.int i, .int j] => if Gd (-(2 ^ 62) ≤ i ∧ i < 2 ^ 62 ∧ -(2 ^ 62) ≤ j ∧ j < 2 ^ 62) then .ok (rangeA i (j - i).toNat, fun _ => True) h1 else .bad
  | _ => .bad
theorem si_range2 {a b : Expr} {g : Ap} {p : Pos} (hg : Gl X "range") (hm : X.mg "range" = none) (ha : PA X [a, b] (tA X.K W g)) (hs : starEach [a, b] X.env = [(false, eval a X.env), (false, eval b X.env)] := by rfl) (hs2 : starEach [b] X.env = [(false, eval b X.env)] := by rfl) :
    PI X target (.Call (.Name "range" p) [a, b] [] pos) (tI X.K W (iR2 g)) := (pi_range2 hg hm ha hs hs2).imp fun σ H R ⟨m, ρ, h, r, s, p⟩ => by
  refine ⟨m, ρ, h, r, s, (Post.bind p).mono fun u H1 ⟨m1, h1, a, st1, r1, x1, p1⟩ => ?_⟩
  split at p1
  · next i j =>
    split at p1
    · next hj =>
      cases x1 with
      | cons x x2 =>
        cases x2 with
        | cons y x3 =>
          cases x; cases y; cases x3
          exact ⟨i, j, rfl, hj, p1 m1 H1 _ Step.refl r1 walk_rng⟩
    · exact p1.elim
  · exact p1.elim
end

/-! ### comprehensions -/
/-- a target that stores in these slots alone -/
def rTgV (K : PySem.W.Frag) (f : Tg) (vs : List Nat) : TG := fun v σ H Q => ∃ m ρ h a ρ', Rel K m H h ∧ RSt K m H σ ρ ∧ Rep K m H v a ∧ f a ρ = some ρ' ∧ ∀ σ', RSt K m H σ' ρ' → σ'.length = σ.length → (∀ j : Nat, j ∉ vs → σ'[j]? = σ[j]?) → Q σ' H
def rTgsV (K : PySem.W.Frag) (fs : List Tg) (vs : List Nat) : TGs := fun us σ H Q => ∃ m ρ h as ρ', Rel K m H h ∧ RSt K m H σ ρ ∧ Reps K m H us as ∧ tgAll fs as ρ = some ρ' ∧ ∀ σ', RSt K m H σ' ρ' → σ'.length = σ.length → (∀ j : Nat, j ∉ vs → σ'[j]? = σ[j]?) → Q σ' H
section
variable {X : Cx} {W : WX} {e iter target : Expr} {pos : Pos} {K : PySem.W.Frag} {vs : List Nat}
theorem sv_name (i : Nat) {x : Str} (hN : X.N.Nodup) (hv : i ∈ vs := by decide) (hi : X.N[i]? = some x := by rfl) (hx : Loc X.env.scope x := by first | exact .inl rfl | exact .inr rfl) (hf : X.fn x = true ∨ X.env.scope.names.lookup x = some .local := by first | exact .inl rfl | exact .inr rfl | assumption) :
    PG X (.Name x pos) (rTgV X.K (tgN i) vs) := (pg_name hN hi hx hf).imp fun v σ H Q ⟨m, ρ, h, a, ρ', r, s, x, e, q⟩ => by
  cases e
  exact q _ (s.set x) (by simp) fun j hj => List.getElem?_set_ne (fun z => hj (by rw [← z]; exact hv))
theorem sv_nil : PGs X [] (rTgsV X.K [] vs) := pgs_nil.imp fun us σ H Q ⟨m, ρ, h, as, ρ', r, s, x, e, q⟩ => by
  cases as with
  | nil => cases x; cases e; exact ⟨rfl, q σ s rfl fun _ _ => rfl⟩
  | cons a as => cases e
theorem sv_cons {f : Tg} {fs : List Tg} {t : Expr} {ts : List Expr} (h1 : PG X t (rTgV X.K f vs)) (h2 : PGs X ts (rTgsV X.K fs vs)) (hs : (assignEach (t :: ts) X.env).map (·.2) = assign t X.env :: (assignEach ts X.env).map (·.2) := by rfl) :
    PGs X (t :: ts) (rTgsV X.K (f :: fs) vs) := (pgs_cons h1 h2 hs).imp fun us σ H Q ⟨m, ρ, h, as, ρ', r, s, x, e, q⟩ => by
  cases as with
  | nil => cases e
  | cons a as =>
    cases x with
    | cons x xs =>
      refine ⟨_, _, rfl, ?_⟩
      cases q1 : f a ρ with
      | none => simp [tgAll, q1] at e
      | some ρ1 =>
        have e2 : tgAll fs as ρ1 = some ρ' := by simpa [tgAll, q1] using e
        exact ⟨m, ρ, h, a, ρ1, r, s, x, q1, fun σ1 s1 l1 n1 => ⟨m, ρ1, h, as, ρ', r, s1, xs, e2, fun σ2 s2 l2 n2 => q σ2 s2 (l2.trans l1) fun j hj => (n2 j hj).trans (n1 j hj)⟩⟩
theorem sv_tup {fs : List Tg} {ts : List Expr} {k : Nat} {n : Nat} (hc : X.calm = true) (hl : fs.length = n) (h : PGs X ts (rTgsV X.K fs vs)) (hn : (assignEach ts X.env).length = n := by rfl) (hst : (assignEach ts X.env).findIdx? (·.1) = none := by rfl) :
    PG X (.Tuple ts k pos) (rTgV X.K (tgT fs) vs) := (pg_tup hc h hn hst).imp fun v σ H Q ⟨m, ρ, h, a, ρ', r, s, x, e, q⟩ => by
  cases a with
  | tup xs =>
    obtain ⟨p, ws, rfl, hq, xr⟩ := sqt_of x
    exact ⟨p, ws, rfl, hq, by rw [xr.length, tgAll_len e, hl], m, ρ, h, xs, ρ', r, s, xr, e, q⟩
  | _ => cases e
theorem wipe_in {σ : L2.St} {i : Nat} : ∀ {vs : List Nat}, i ∈ vs → i < σ.length → (wipe σ vs)[i]? = some none
  | v :: vs, h, hl => by
    unfold wipe
    by_cases e : v = i
    · subst e; exact List.getElem?_set_self (by rw [wipe_length]; exact hl)
    · rw [List.getElem?_set_ne e]
      exact wipe_in ((List.mem_cons.mp h).resolve_left fun z => e z.symm) hl
theorem wipe_same {σ σ2 : L2.St} (hl : σ2.length = (wipe σ vs).length) (h : ∀ j : Nat, j ∉ vs → σ2[j]? = (wipe σ vs)[j]?) : wipe σ2 vs = wipe σ vs := by
  rw [wipe_length] at hl
  refine List.ext_getElem? fun j => ?_
  by_cases hj : j ∈ vs
  · by_cases hjl : j < σ.length
    · rw [wipe_in hj hjl, wipe_in hj (by rw [hl]; exact hjl)]
    · rw [List.getElem?_eq_none (by rw [wipe_length]; omega), List.getElem?_eq_none (by rw [wipe_length]; omega)]
  · rw [wipe_out hj]
    exact h j hj

def Out.nx {α : Type} (o : Out α) : Out α := match o with
  | .ok a h => .ok a h
  | _ => .bad
@[simp] theorem Out.nx_ok {α : Type} (a : α) (h : AH) : (Out.ok a h).nx = .ok a h := rfl
noncomputable def compL (chk : AH → Prop) (g : Tg) (t : Tp) (f : Xp) (ρ : Env) : List A → AH → List A → Out (List A)
  | [], h, acc => if chk h then .ok acc h else .bad
  | x :: xs, h, acc => if chk h then
      match g x ρ with
      | none => .bad
      | some ρ1 => (t ρ1 h).nx.bind fun c h1 => if c = true then (f ρ1 h1).nx.bind fun y h2 => if acc.length < 100000 then compL chk g t f ρ xs h2 (acc ++ [y]) else .bad else compL chk g t f ρ xs h1 acc
    else .bad
def tYesA : Tp := fun _ h => .ok true h
/-- of the new list what it holds -/
noncomputable def lcA (it : Ip) (g : Tg) (t : Tp) (f : Xp) (vs : List Nat) : Env → AH → Out (List A) := fun ρ h => (it ρ h).bind fun p h1 => compL p.2 g t f (wipeA ρ vs) p.1 h1 []
def WF : WX := fun _ _ _ _ => False
/-- a new list: at p, which nobody else knows -/
def PostL (K : PySem.W.Frag) (W : WX) (σ : L2.St) (m : Mp) (H : Hp) (o : Out (List A)) (Q : VK) : Prop := match o with
  | .ok xs h' => ∀ m' H' p us, Step m H m' H' → H p = none → Rel K (m'.hide p) H' h' → Off m' p → H' p = some (.lst us) → Reps K (m'.hide p) H' us xs → Q (.ref p) H'
  | .exc c fs h' => ∀ m' H' d, Step m H m' H' → Rel K m' H' h' → ExcR K m' H' d fs → W (.ref (He.ga K c)) d σ H'
  | .bad => False
def tL (K : PySem.W.Frag) (W : WX) (f : Ap) : TE := fun σ H Q => ∃ m ρ h, Rel K m H h ∧ RSt K m H σ ρ ∧ PostL K W σ m H (f ρ h) Q
theorem Post.nx_ {α β : Type} {R : Mp → Hp → β → α → Prop} {m : Mp} {H : Hp} {σ : L2.St} {o : Out α} {Q : β → Hp → Prop} (h : ∀ a h', o = .ok a h' → ∀ m' H' u, Step m H m' H' → Rel K m' H' h' → R m' H' u a → Q u H') (hb : ∃ a h', o = .ok a h') : Post K W σ m H R o Q := by
  obtain ⟨a, h', e⟩ := hb
  subst e
  exact h a h' rfl
theorem ok_of_nx {α β : Type} {o : Out α} {k : α → AH → Out β} (h : o.nx.bind k ≠ .bad) : ∃ a h', o = .ok a h' := by
  cases o with
  | ok a h' => exact ⟨a, h', rfl⟩
  | exc c fs h' => exact absurd rfl h
  | bad => exact absurd rfl h
theorem compL_ok {chk : AH → Prop} {g : Tg} {t : Tp} {f : Xp} {ρ : Env} : ∀ {xs : List A} {h : AH} {acc : List A}, (∃ ys h', compL chk g t f ρ xs h acc = .ok ys h') ∨ compL chk g t f ρ xs h acc = .bad
  | [], h, acc => by
    unfold compL
    split
    · exact .inl ⟨_, _, rfl⟩
    · exact .inr rfl
  | x :: xs, h, acc => by
    unfold compL
    split
    · split
      · exact .inr rfl
      · next ρ1 _ =>
        cases t ρ1 h with
        | ok c h1 =>
          rw [Out.nx_ok, Out.bind_ok]
          split
          · cases f ρ1 h1 with
            | ok y h2 =>
              rw [Out.nx_ok, Out.bind_ok]
              split
              · exact compL_ok
              · exact .inr rfl
            | exc c fs h' => exact .inr rfl
            | bad => exact .inr rfl
          · exact compL_ok
        | exc c fs h' => exact .inr rfl
        | bad => exact .inr rfl
    · exact .inr rfl
/-- the layer's comprehension does what lcA does -/
theorem lc_run {it : Ip} {g : Tg} {t : Tp} {f : Xp} {σ : L2.St} {H : Hp} {Q : VK} (z : tL K W (lcA it g t f vs) σ H Q) : tLc (tI K W it) (rTgV K g vs) (tT K WF t) (tE K WF f) vs σ H Q := by
  obtain ⟨m, ρ, h, r, s, p⟩ := z
  refine ⟨m, ρ, h, r, s, ?_⟩
  unfold lcA at p
  cases ei : it ρ h with
  | bad => rw [ei] at p; exact p.elim
  | exc c fs h' => rw [ei] at p; exact p
  | ok q h1 =>
    rw [ei, Out.bind_ok] at p
    intro m1 H1 J st1 r1 wk D nD
    obtain ⟨xs, chk⟩ := q
    have pf : ∀ (o : Out (List A)), PostL K W σ m H o Q → (∃ ys h', o = .ok ys h') ∨ o = .bad → ∃ ys h', o = .ok ys h' := fun o p e => by
      rcases e with e | e
      · exact e
      · subst e; exact p.elim
    have nD0 : H D = none := st1.dom D nD
    have fD : Off m1 D := r1.off nD
    obtain ⟨ys, hy, ey⟩ := pf _ p compL_ok
    let PD : Out (List A) → Prop := fun o => match o with
      | .ok ys h' => ∀ m' H'' us, Step m1 H1 m' H'' → Rel K (m'.hide D) H'' h' → Off m' D → H'' D = some (.lst us) → Reps K (m'.hide D) H'' us ys → Q (.ref D) H''
      | _ => False
    have p0 : PD (compL chk g t f (wipeA ρ vs) xs h1 []) := by
      rw [ey] at p
      show PD (compL (xs, chk).2 g t f (wipeA ρ vs) (xs, chk).1 h1 [])
      rw [ey]
      exact fun m' H'' us st r f0 hd hr => p m' H'' D us (st1.trans st) nD0 r f0 hd hr
    refine ⟨fun i mm H' => mm = xs.length - i ∧ i ≤ xs.length ∧ ∃ mk hk acc us, Step m1 H1 mk H' ∧ Grow m1 H1 (mk.hide D) H' ∧ Off mk D ∧ Rel K (mk.hide D) H' hk ∧ RSt K (mk.hide D) H' (wipe σ vs) (wipeA ρ vs) ∧ H' D = some (.lst us) ∧ Reps K (mk.hide D) H' us acc ∧ PD (compL chk g t f (wipeA ρ vs) (xs.drop i) hk acc),
      ⟨_, rfl, Nat.zero_le _, m1, h1, [], [], Step.new r1 nD, Grow.hide nD, fD, r1.hide nD, ((s.step st1).wipe vs).hide nD, upd_same, .nil, p0⟩, ?_⟩
    rintro i mm H' ⟨rfl, hle, mk, hk, acc, us, st2, gr2, f2, r2, s2, hd2, ac2, p2⟩
    by_cases hi : i < xs.length
    · have ea : xs.drop i = xs[i] :: xs.drop (i + 1) := List.drop_eq_getElem_cons hi
      rw [ea] at p2
      unfold compL at p2
      split at p2
      · next ck =>
        refine .inr ⟨wk.goes i (mk.hide D) H' hk gr2 r2 ck hi, _, fun H' hn => ⟨xs.length - (i + 1), by omega, rfl, hi, hn⟩, fun x H3 y => ?_⟩
        obtain ⟨a, e1, st3, r3, x3⟩ := wk.yields i (mk.hide D) H' hk x H3 gr2 r2 ck hi y
        have e1' : xs[i]? = some a := e1
        rw [List.getElem?_eq_getElem hi] at e1'
        cases e1'
        have st3' : Step mk H' mk H3 := Step.show_ ⟨_, hd2⟩ f2 r3 st3
        split at p2
        · exact p2.elim
        · next ρ3 eg =>
          refine ⟨mk.hide D, wipeA ρ vs, hk, _, ρ3, r3, s2.step st3, x3, eg, fun σ4 s4 l4 n4 => ⟨wipe_same l4 n4, mk.hide D, ρ3, hk, r3, s4, ?_⟩⟩
          have hd3 : H3 D = some (.lst us) := (st3.hid D List.mem_cons_self).trans hd2
          have sw := s2.step st3
          have ac3 := ac2.step st3
          have gr3 := gr2.trans st3.toGrow
          have st23 := st2.trans st3'
          cases et : t ρ3 hk with
          | bad => rw [et] at p2; exact p2.elim
          | exc c fs h' => rw [et] at p2; exact p2.elim
          | ok c h4 =>
            rw [et, Out.nx_ok, Out.bind_ok] at p2
            intro m4 H4 b st4 r4 eb
            cases eb
            obtain ⟨c4, z4⟩ := m4
            have zz : z4 = D :: mk.z := st4.zeq
            subst zz
            have r4' : Rel K ((⟨c4, mk.z⟩ : Mp).hide D) H4 h4 := r4
            have st4' : Step (mk.hide D) H3 ((⟨c4, mk.z⟩ : Mp).hide D) H4 := st4
            have stm : Step mk H3 ⟨c4, mk.z⟩ H4 := Step.show_ ⟨_, hd3⟩ f2 r4' st4'
            have f4 : Off (⟨c4, mk.z⟩ : Mp) D := ⟨(r4'.hz D List.mem_cons_self).2, f2.2⟩
            have hd4 : H4 D = some (.lst us) := (st4'.hid D List.mem_cons_self).trans hd3
            split
            · next hc =>
              rw [if_pos hc] at p2
              refine ⟨(⟨c4, mk.z⟩ : Mp).hide D, ρ3, h4, r4', s4.step st4', ?_⟩
              cases ef : f ρ3 h4 with
              | bad => rw [ef] at p2; exact p2.elim
              | exc c fs h' => rw [ef] at p2; exact p2.elim
              | ok y2 h5 =>
                rw [ef, Out.nx_ok, Out.bind_ok] at p2
                intro m5 H5 u st5 r5 x5
                obtain ⟨c5, z5⟩ := m5
                have zz : z5 = D :: mk.z := st5.zeq
                subst zz
                have r5' : Rel K ((⟨c5, mk.z⟩ : Mp).hide D) H5 h5 := r5
                have st5' : Step ((⟨c4, mk.z⟩ : Mp).hide D) H4 ((⟨c5, mk.z⟩ : Mp).hide D) H5 := st5
                have stm5 : Step ⟨c4, mk.z⟩ H4 ⟨c5, mk.z⟩ H5 := Step.show_ ⟨_, hd4⟩ f4 r5' st5'
                have f5 : Off (⟨c5, mk.z⟩ : Mp) D := ⟨(r5'.hz D List.mem_cons_self).2, f2.2⟩
                have hd5 : H5 D = some (.lst us) := (st5'.hid D List.mem_cons_self).trans hd4
                have x5' : Rep K ((⟨c5, mk.z⟩ : Mp).hide D) H5 u y2 := x5
                split at p2
                · next hz =>
                  have ac5 := (ac3.step st4').step st5'
                  refine ⟨us, hd5, by rw [ac5.length]; exact Nat.lt_of_lt_of_le hz (by decide), (⟨c5, mk.z⟩ : Mp), h5, acc ++ [y2], us ++ [u], ?_, ?_, f5, r5'.turn, ((sw.step st4').step st5').turn, upd_same, (ac5.append (.cons x5' .nil)).turn, p2⟩
                  · exact ((st23.trans stm).trans stm5).turn r1 nD
                  · exact ((gr3.trans st4'.toGrow).trans st5'.toGrow).turn nD
                · exact p2.elim
            · next hc =>
              rw [if_neg hc] at p2
              exact ⟨(⟨c4, mk.z⟩ : Mp), h4, acc, us, st23.trans stm, gr3.trans st4'.toGrow, f4, r4', sw.step st4', hd4, ac3.step st4', p2⟩
      · exact p2.elim
    · have ei : i = xs.length := by omega
      subst ei
      rw [List.drop_length] at p2
      unfold compL at p2
      split at p2
      · next ck =>
        exact .inl ⟨wk.stops (mk.hide D) H' hk gr2 r2 ck, p2 mk H' us st2 r2 f2 hd2 ac2⟩
      · exact p2.elim
end
end Ab

namespace Ab
open PySem PySem.Spec PyProof.Rows L2

/-! ### new lists -/
section
variable {X : Cx} {W : WX} {K : PySem.W.Frag} {e e1 e2 : Expr} {pos : Pos} {σ : L2.St} {m : Mp} {H : Hp}
/-- a new list as a value | as a cell -/
def eFz (f : Ap) : Xp := fun ρ h => (f ρ h).bind fun xs h1 => .ok (.lst xs) h1
def eNw (f : Ap) : Xp := fun ρ h => (f ρ h).bind fun xs h1 => .ok (.li h1.length) (h1 ++ [.lst xs])
theorem Off.push {m : Mp} {p q : Addr} (h : Off (m.hide p) q) : Off (m.push p) q := ⟨fun i z => by
  rcases push_at z with ⟨_, q1⟩ | ⟨_, q1⟩
  · exact h.1 i q1
  · cases q1; exact h.ne rfl, h.show_.2⟩
theorem li_push {m : Mp} {p : Addr} {l : Nat} {x : Option Addr} (e : (m.hide p).c[l]? = some x) : (m.push p).c[l]? = some x := by
  have hl : l < m.c.length := (List.getElem?_eq_some_iff.mp e).1
  unfold Mp.push
  rw [List.getElem?_append_left hl]
  exact e
mutual
/-- what was hidden becomes a cell -/
theorem Rep.push {m : Mp} {H : Hp} {p : Addr} : ∀ {v : V} {a : A}, Rep K (m.hide p) H v a → Rep K (m.push p) H v a
  | _, _, .non => .non
  | _, _, .bl => .bl
  | _, _, .int => .int
  | _, _, .str q => .str q
  | _, _, .txt => .txt
  | _, _, .tup h f r => .tup h f.push r.push
  | _, _, .tupK h r => .tupK h r.push
  | _, _, .lst h f r => .lst h f.push r.push
  | _, _, .lstK h r => .lstK h r.push
  | _, _, .dct h f r => .dct h f.push r.push
  | _, _, .ins h f r => .ins h f.push r.push
  | _, _, .li h => .li (li_push h)
  | _, _, .ded h => .ded (li_push h)
theorem Reps.push {m : Mp} {H : Hp} {p : Addr} : ∀ {vs : List V} {xs : List A}, Reps K (m.hide p) H vs xs → Reps K (m.push p) H vs xs
  | _, _, .nil => .nil
  | _, _, .cons r t => .cons r.push t.push
theorem RepF.push {m : Mp} {H : Hp} {p : Addr} : ∀ {vs : List (Str × V)} {xs : List (Str × A)}, RepF K (m.hide p) H vs xs → RepF K (m.push p) H vs xs
  | _, _, .nil => .nil
  | _, _, .cons r t => .cons r.push t.push
theorem RepK.push {m : Mp} {H : Hp} {p : Addr} : ∀ {vs : List (Key × V)} {xs : List (Key × A)}, RepK K (m.hide p) H vs xs → RepK K (m.push p) H vs xs
  | _, _, .nil => .nil
  | _, _, .cons r t => .cons r.push t.push
end
theorem push_step {m m' : Mp} {H H' : Hp} {p : Addr} (st : Step m H m' H') (n : H p = none) : Step m H (m'.push p) H' := by
  refine ⟨⟨fun i hi => ?_, Nat.le_trans st.len (by simp [Mp.push]), fun q u e f => ?_, st.dom⟩, st.zeq, st.hid⟩
  · have hi' : i < m'.c.length := Nat.lt_of_lt_of_le hi st.len
    have := st.ext i hi
    unfold Mp.push
    rw [List.getElem?_append_left hi']
    exact this
  · obtain ⟨h1, h2⟩ := st.frm q u e f
    refine ⟨h1, fun i z => ?_, h2.2⟩
    rcases push_at z with ⟨_, q1⟩ | ⟨_, q1⟩
    · exact h2.1 i q1
    · cases q1; exact ne_of_none e n rfl
theorem push_rel {m : Mp} {H : Hp} {h : AH} {p : Addr} {c : Cell} (r : Rel K (m.hide p) H h) (f : Off m p) (hc : CellR K (m.push p) H p c) : Rel K (m.push p) H (h ++ [c]) := by
  have rl : m.c.length = h.length := r.len
  refine ⟨by simp [Mp.push, rl], fun i j a e1 e2 => ?_, fun i a e => ?_, fun i e => ?_, fun d hd => ⟨(r.hz d (List.mem_cons_of_mem _ hd)).1, fun i z => ?_⟩⟩
  · rcases push_at e1 with ⟨h1, q1⟩ | ⟨h1, q1⟩ <;> rcases push_at e2 with ⟨h2, q2⟩ | ⟨h2, q2⟩
    · exact r.inj i j a q1 q2
    · cases q2; exact (f.1 i q1).elim
    · cases q1; exact (f.1 j q2).elim
    · omega
  · rcases push_at e with ⟨h1, q1⟩ | ⟨h1, q1⟩
    · obtain ⟨c', h2, h3⟩ := r.cell i a q1
      refine ⟨c', ?_, h3.map rfl Reps.push RepF.push⟩
      rw [List.getElem?_append_left (by rw [← rl]; exact h1)]
      exact h2
    · cases q1
      subst h1
      refine ⟨c, ?_, hc⟩
      rw [rl, List.getElem?_append_right (Nat.le_refl _), Nat.sub_self]
      rfl
  · rcases push_at e with ⟨h1, q1⟩ | ⟨h1, q1⟩
    · rw [List.getElem?_append_left (by rw [← rl]; exact h1)]
      exact r.ded i q1
    · cases q1
  · rcases push_at z with ⟨_, q1⟩ | ⟨_, q1⟩
    · exact (r.hz d (List.mem_cons_of_mem _ hd)).2 i q1
    · cases q1; exact f.2 hd
theorem sd_fz {f : Ap} (h : PE X e (tL X.K W f)) : PE X e (tE X.K W (eFz f)) := h.imp fun σ H Q z => by
  obtain ⟨m, ρ, h, r, s, p⟩ := z
  refine ⟨m, ρ, h, r, s, ?_⟩
  unfold eFz at p
  cases q : f ρ h with
  | ok xs h' =>
    rw [q] at p
    exact fun m' H' a us st n r' o e x => p m' H' _ st r'.show_ (.lst (.inl e) o x.show_)
  | exc c fs h' => rw [q] at p; exact p
  | bad => rw [q] at p; exact p
theorem sd_nw {f : Ap} (h : PE X e (tL X.K W f)) : PE X e (tE X.K W (eNw f)) := h.imp fun σ H Q z => by
  obtain ⟨m, ρ, h, r, s, p⟩ := z
  refine ⟨m, ρ, h, r, s, ?_⟩
  unfold eNw at p
  cases q : f ρ h with
  | ok xs h' =>
    rw [q] at p
    intro m' H' a us st n r' o e x
    refine p (m'.push a) H' _ (push_step st n) (push_rel r' o ⟨us, e, x.push⟩) (.li ?_)
    have rl : m'.c.length = h'.length := r'.len
    rw [← rl]
    exact push_last
  | exc c fs h' => rw [q] at p; exact p
  | bad => rw [q] at p; exact p
/-- a new list with these items -/
theorem PostL.new {m0 : Mp} {H0 : Hp} {h : AH} {xs : List A} {us : List V} {Q : VK} (p : PostL K W σ m0 H0 (.ok xs h) Q) (st : Step m0 H0 m H) (r : Rel K m H h) (x : Reps K m H us xs) {a : Addr} (n : H a = none) : Q (.ref a) (upd H a (.lst us)) :=
  p m _ a us (st.trans (Step.new r n)) (st.dom a n) (r.hide n) (r.off n) upd_same (x.hide n (r.off n))
def PostLV (K : PySem.W.Frag) (m : Mp) (H : Hp) (o : Option (List A × AH)) (Q : VK) : Prop := match o with
  | some (xs, h') => ∀ m' H' p us, Step m H m' H' → H p = none → Rel K (m'.hide p) H' h' → Off m' p → H' p = some (.lst us) → Reps K (m'.hide p) H' us xs → Q (.ref p) H'
  | none => False
theorem PostLV.of_ {o : Option (List A × AH)} {Q : VK} : PostL K W σ m H (Out.of o) Q ↔ PostLV K m H o Q := by
  cases o with
  | none => exact Iff.rfl
  | some p => exact Iff.rfl
theorem PostLV.new {h : AH} {xs : List A} {us : List V} {Q : VK} (p : PostLV K m H (some (xs, h)) Q) (r : Rel K m H h) (x : Reps K m H us xs) {a : Addr} (n : H a = none) : Q (.ref a) (upd H a (.lst us)) :=
  p m _ a us (Step.new r n) n (r.hide n) (r.off n) upd_same (x.hide n (r.off n))
theorem PostL.bind {α β : Type} {R : Mp → Hp → β → α → Prop} {o : Out α} {k : α → AH → Out (List A)} {Q : VK} (h : PostL K W σ m H (o.bind k) Q) :
    Post K W σ m H R o (fun u H1 => ∃ m1 h1 a, Step m H m1 H1 ∧ Rel K m1 H1 h1 ∧ R m1 H1 u a ∧ PostL K W σ m1 H1 (k a h1) Q) := by
  cases o with
  | ok v h' =>
    intro m1 H1 u s1 r1 x1
    refine ⟨m1, h', v, s1, r1, x1, ?_⟩
    have h2 : PostL K W σ m H (k v h') Q := h
    cases q : k v h' with
    | ok v2 h2' =>
      rw [q] at h2
      exact fun m' H' p us s n r x => h2 m' H' p us (s1.trans s) (s1.dom p n) r x
    | exc c fs h2' =>
      rw [q] at h2
      exact fun m' H' u2 s r x => h2 m' H' u2 (s1.trans s) r x
    | bad =>
      rw [q] at h2
      exact h2
  | exc c fs h' => exact h
  | bad => exact h
/-- [e, ..] -/
def lDisp (g : Ap) : Ap := fun ρ h => (g ρ h).bind fun xs h1 => if xs.length ≤ 100000 then .ok xs h1 else .bad
theorem sl_disp {g : Ap} {es : List Expr} (h : PA X es (tA X.K W g)) : PE X (.List es pos) (tL X.K W (lDisp g)) := (pe_lst h).imp fun σ H Q ⟨m, ρ, h, r, s, p⟩ => by
  refine ⟨m, ρ, h, r, s, (PostL.bind p).mono fun u H1 ⟨m1, h1, a, st1, r1, x1, p1⟩ => ?_⟩
  split at p1
  · next q =>
    exact ⟨Nat.le_trans (by rw [x1.length]; exact q) (by decide), fun a n => PostL.new p1 Step.refl r1 x1 n⟩
  · exact p1.elim
/-- [e for ..] -/
theorem sl_comp {elt tg iter : Expr} {ifs : List Expr} {scope : Scope} {own : List (Str × Nat)} {it : Ip} {g : Tg} {t : Tp} {f : Xp} (vs : List Nat) (hv : own.map (·.2) = vs) (hc : X.calm = true) (hN : X.N.Nodup) (hi : PI X tg iter (tI X.K W it)) (ok : BlkOk X.N X.env.scope scope own)
    (hg : ∀ (s : Shared) (H : Hp) (C : Addr) (cl : List (Str × Addr)) (fp : List Addr), PG (X.blk s H scope (compEnvC scope cl C X.env) fp) tg (rTgV X.K g vs)) (ht : ∀ (s : Shared) (H : Hp) (C : Addr) (cl : List (Str × Addr)) (fp : List Addr), PTs (X.blk s H scope (compEnvC scope cl C X.env) fp) ifs (tT X.K WF t))
    (he : ∀ (s : Shared) (H : Hp) (C : Addr) (cl : List (Str × Addr)) (fp : List Addr), PE (X.blk s H scope (compEnvC scope cl C X.env) fp) elt (tE X.K WF f)) (hs : ∀ x, foldedSetIterable iter X.env x = pure x := by intro _; rfl) :
    PE X (.ListComp elt [⟨tg, iter, ifs, 0⟩] scope pos) (tL X.K W (lcA it g t f vs)) := by
  subst hv
  exact (pe_lc hc hN hi ok hg ht he hs).imp fun σ H Q z => lc_run z
theorem st_nil : PTs X [] (tT X.K W tYesA) := ⟨fun pins s σ H Q I ⟨m, ρ, h, r, sr, p⟩ => pts_nil.run pins s σ H Q I (p m H true Step.refl r rfl)⟩
theorem st_one {c : Expr} {t : Tp} (h : PT X c (tT X.K W t)) : PTs X [c] (tT X.K W t) := pts_one h
/-- y = [e for ..] -/
def sSetL (nw : Bool) (i : Nat) (f : Ap) : Sm := sSet i (bif nw then eNw f else eFz f)
theorem ss_comp (nw : Bool) (i : Nat) {y : Str} {py : Pos} {elt tg iter : Expr} {ifs : List Expr} {scope : Scope} {own : List (Str × Nat)} {spos : Pos} {it : Ip} {g : Tg} {t : Tp} {f : Xp} (vs : List Nat) (hv : own.map (·.2) = vs) (hc : X.calm = true) (hN : X.N.Nodup)
    (hi : PI X tg iter (tI X.K W it)) (ok : BlkOk X.N X.env.scope scope own)
    (hg : ∀ (s : Shared) (H : Hp) (C : Addr) (cl : List (Str × Addr)) (fp : List Addr), PG (X.blk s H scope (compEnvC scope cl C X.env) fp) tg (rTgV X.K g vs)) (ht : ∀ (s : Shared) (H : Hp) (C : Addr) (cl : List (Str × Addr)) (fp : List Addr), PTs (X.blk s H scope (compEnvC scope cl C X.env) fp) ifs (tT X.K WF t))
    (he : ∀ (s : Shared) (H : Hp) (C : Addr) (cl : List (Str × Addr)) (fp : List Addr), PE (X.blk s H scope (compEnvC scope cl C X.env) fp) elt (tE X.K WF f))
    (hsw : swapsWith (.ListComp elt [⟨tg, iter, ifs, 0⟩] scope pos) (some (.Name y py)) spos.line X.env = pure true) (hy : X.N[i]? = some y := by rfl) (hyl : X.env.scope.names.lookup y = some .local := by rfl) (hs : ∀ x, foldedSetIterable iter X.env x = pure x := by intro _; rfl) :
    PS X (.Assign [.Name y py] (.ListComp elt [⟨tg, iter, ifs, 0⟩] scope pos) spos) (tS X.K W (sSetL nw i (lcA it g t f vs))) := by
  subst hv
  refine (ps_setLc hc hN hy hyl hsw hi ok hg ht he hs).imp fun D σ H ⟨m, ρ, h, r, s, p⟩ => lc_run ?_
  refine ⟨m, ρ, h, r, s, ?_⟩
  unfold sSetL at p
  cases q : lcA it g t f (own.map (·.2)) ρ h with
  | ok xs h' =>
    intro m' H' a us st n r' o e x
    cases nw with
    | true =>
      have p2 : PostS X.K W m H ((eNw (lcA it g t f (own.map (·.2))) ρ h).fl ρ fun v h1 => .nx (ρ.set i (some v)) h1) D := p
      unfold eNw at p2
      rw [q] at p2
      refine p2 (m'.push a) H' _ (push_step st n) (push_rel r' o ⟨us, e, x.push⟩) ((s.step (push_step st n)).set (.li ?_))
      have rl : m'.c.length = h'.length := r'.len
      rw [← rl]
      exact push_last
    | false =>
      have p2 : PostS X.K W m H ((eFz (lcA it g t f (own.map (·.2))) ρ h).fl ρ fun v h1 => .nx (ρ.set i (some v)) h1) D := p
      unfold eFz at p2
      rw [q] at p2
      exact p2 m' H' _ st r'.show_ ((s.step st).set (.lst (.inl e) o x.show_))
  | exc c fs h' =>
    intro m' H' d st r' x
    cases nw with
    | true =>
      have p2 : PostS X.K W m H ((eNw (lcA it g t f (own.map (·.2))) ρ h).fl ρ fun v h1 => .nx (ρ.set i (some v)) h1) D := p
      unfold eNw at p2
      rw [q] at p2
      exact p2 m' H' σ d st r' (s.step st) x
    | false =>
      have p2 : PostS X.K W m H ((eFz (lcA it g t f (own.map (·.2))) ρ h).fl ρ fun v h1 => .nx (ρ.set i (some v)) h1) D := p
      unfold eFz at p2
      rw [q] at p2
      exact p2 m' H' σ d st r' (s.step st) x
  | bad =>
    cases nw with
    | true =>
      have p2 : PostS X.K W m H ((eNw (lcA it g t f (own.map (·.2))) ρ h).fl ρ fun v h1 => .nx (ρ.set i (some v)) h1) D := p
      unfold eNw at p2
      rw [q] at p2
      exact p2.elim
    | false =>
      have p2 : PostS X.K W m H ((eFz (lcA it g t f (own.map (·.2))) ρ h).fl ρ fun v h1 => .nx (ρ.set i (some v)) h1) D := p
      unfold eFz at p2
      rw [q] at p2
      exact p2.elim
end
end Ab

namespace Ab
open PySem PySem.Spec PyProof.Rows L2

/-! ### tuple * int, any int -/
theorem tuple_mul1 (l : Addr) (items : Array Value) (n : Nat) (dd : Option Addr) (sl : Array (Option Value)) (x : Int) (u : Tok) (c0 : (decide (x < -(2 ^ 63)) || decide (x ≥ 2 ^ 63)) = false) (c1 : (items.isEmpty || x == 1) = true) :
    Meets (Builtin.«tuple.__mul__» ⟨[.ref l, .int x u], []⟩) (fun _ R s => s.heap.get? l = some { cls := .type "tuple", dict := dd, data := .seq items n, slots := sl } ∧ R (.ok (.ret (Value.ref l))) s) :=
  .of_wp fun prog w A R s h => by
    obtain ⟨hp, g, d, tk, os⟩ := s
    obtain ⟨hl, h⟩ := h
    have f1 := AutoSeq1.idx_int
    wp_walk using wpAny_loadPart' hl
    repeat (first
      | (refine wpAny_ite_false (decide_eq_false (by rw [c0]; exact Bool.false_ne_true)) ?_; wp_walk using wpAny_loadPart' hl)
      | (refine wpAny_ite_true (decide_eq_true (by rw [c1])) ?_; wp_walk using wpAny_loadPart' hl))
    exact ⟨_, rfl, h⟩
theorem tuple_mul0 (l : Addr) (items : Array Value) (n : Nat) (dd : Option Addr) (sl : Array (Option Value)) (x : Int) (u : Tok) (c0 : (decide (x < -(2 ^ 63)) || decide (x ≥ 2 ^ 63)) = false) (c1 : (items.isEmpty || x == 1) = false) (c2 : (decide (x ≤ 0) || items.isEmpty) = true) :
    Meets (Builtin.«tuple.__mul__» ⟨[.ref l, .int x u], []⟩) (fun _ R s => s.heap.get? l = some { cls := .type "tuple", dict := dd, data := .seq items n, slots := sl } ∧ R (.ok (.ret (Value.ref s.heap.objs.size))) { s with heap := s.heap.push { cls := Value.type "tuple", data := Data.seq #[] } }) :=
  .of_wp fun prog w A R s h => by
    obtain ⟨hp, g, d, tk, os⟩ := s
    obtain ⟨hl, h⟩ := h
    have f1 := AutoSeq1.idx_int
    wp_walk using wpAny_loadPart' hl
    repeat (first
      | (refine wpAny_ite_false (decide_eq_false (by rw [c0]; exact Bool.false_ne_true)) ?_; wp_walk using wpAny_loadPart' hl)
      | (refine wpAny_ite_false (decide_eq_false (by rw [c1]; exact Bool.false_ne_true)) ?_; wp_walk using wpAny_loadPart' hl)
      | (refine wpAny_ite_true (decide_eq_true (by rw [c2])) ?_; wp_walk using wpAny_loadPart' hl))
    exact ⟨_, rfl, h⟩
def rRepB (K : PySem.W.Frag) : R2 := fun x y H Q => ∃ l k xs, x = .ref l ∧ y = .int k ∧ SqT K H l xs ∧ -1000 ≤ k ∧ k ≤ 1000 ∧ xs.length ≤ 1000 ∧ ((k = 1 ∨ xs = []) → Q (.ref l) H) ∧ (k ≠ 1 → xs ≠ [] → ∀ p, H p = none → Q (.ref p) (upd H p (.tup (List.replicate k.toNat xs).flatten)))
section
variable {X : Cx}
theorem op_repB : OpR X (binaryOp .Mult) (rRepB X.K) := by
  intro pins s σ H x y v u Q I rx ry h
  obtain ⟨l, k, xs, rfl, rfl, hT, h1, h2, hz, q1, q2⟩ := h
  by_cases hbig : xs ≠ [] ∧ 2 ≤ k
  · exact op_repT pins s σ H _ _ v u Q I rx ry ⟨l, k, xs, rfl, rfl, hT, hbig.1, hbig.2, h2, hz, q2 (by omega) hbig.1⟩
  · cases rx
    obtain ⟨t, rfl⟩ := ry
    obtain ⟨its, r, ⟨⟨cls, dd, data, sl⟩, ho, hc, n, hd⟩, hs⟩ := I.tuple hT
    simp only at hc hd
    subst hc hd
    have hle : its.length = xs.length := r.length.symm
    have c0 : (decide (k < -(2 ^ 63)) || decide (k ≥ 2 ^ 63)) = false := by
      rw [decide_eq_false (by omega), decide_eq_false (by omega)] <;> rfl
    by_cases hone : k = 1 ∨ xs = []
    · have c1 : (its.toArray.isEmpty || k == 1) = true := by
        rcases hone with e | e
        · subst e; simp
        · subst e
          have : its = [] := List.eq_nil_of_length_eq_zero hle
          subst this; rfl
      refine wpAny_binaryOp_repeat_ref (T := "tuple") (U := "int") (by decide) ⟨_, ho, rfl⟩ (fun s' => typeIs_int s' k t) noFill_tuple_mul F.fills_int_mul F.slot_int_rmul repeat_tuple F.slot_int_index.lookup
        (call_meets F.slot_int_rmul (typeIs_int s k t) F.entry_int_rmul (F.args_int_rmul_2 _ _) (int_rmul_tuple k t l its.toArray n dd sl)
          ⟨ho, rfl, ⟨_, ho, rfl⟩, call_meets F.slot_tuple_mul ⟨_, ho, rfl⟩ F.entry_tuple_mul (F.args_tuple_mul_2 _ _) (tuple_mul1 l its.toArray n dd sl k t c0 c1) ⟨ho, ?_⟩⟩)
      exact ⟨.ref l, H, I, rfl, q1 hone⟩
    · have hne : xs ≠ [] := fun e => hone (.inr e)
      have hk : k ≤ 0 := by
        have : ¬ (2 ≤ k) := fun e => hbig ⟨hne, e⟩
        have : k ≠ 1 := fun e => hone (.inl e)
        omega
      have hi : its.toArray.isEmpty = false := by
        cases its with
        | nil => exact absurd (List.eq_nil_of_length_eq_zero hle.symm) hne
        | cons a b => rfl
      have c1 : (its.toArray.isEmpty || k == 1) = false := by
        rw [hi, Bool.false_or]
        exact beq_eq_false_iff_ne.mpr (by omega)
      have c2 : (decide (k ≤ 0) || its.toArray.isEmpty) = true := by rw [decide_eq_true hk]; rfl
      refine wpAny_binaryOp_repeat_ref (T := "tuple") (U := "int") (by decide) ⟨_, ho, rfl⟩ (fun s' => typeIs_int s' k t) noFill_tuple_mul F.fills_int_mul F.slot_int_rmul repeat_tuple F.slot_int_index.lookup
        (call_meets F.slot_int_rmul (typeIs_int s k t) F.entry_int_rmul (F.args_int_rmul_2 _ _) (int_rmul_tuple k t l its.toArray n dd sl)
          ⟨ho, rfl, ⟨_, ho, rfl⟩, call_meets F.slot_tuple_mul ⟨_, ho, rfl⟩ F.entry_tuple_mul (F.args_tuple_mul_2 _ _) (tuple_mul0 l its.toArray n dd sl k t c0 c1 c2) ⟨ho, ?_⟩⟩)
      have q := q2 (by omega) hne s.heap.objs.size (I.hok.fresh (Nat.le_refl _))
      have e0 : k.toNat = 0 := by omega
      rw [e0] at q
      refine ⟨.ref s.heap.objs.size, _, I.laid (t' := s.toks) (o := .tup []) (fun b ob q => Heap.get?_push_of_some _ q) (Nat.le_refl _) ?_, rfl, q⟩
      exact ⟨Nat.zero_le _, [], .nil, IsTup.new _ _⟩
end

/-! ### reading sequences -/
/-- a list's items: a value or a cell -/
def lstOf : A → AH → Option (List A)
  | .lst xs, _ => some xs
  | .li l, h => (match h[l]? with
    | some (.lst xs) => some xs
    | _ => none)
  | _, _ => none
def tupOf : A → Option (List A)
  | .tup xs => some xs
  | _ => none
def seqOf (a : A) (h : AH) : Option (List A) := match a with
  | .tup xs => some xs
  | a => lstOf a h
section
variable {X : Cx} {K : PySem.W.Frag} {m : Mp} {H : Hp} {h : AH} {v : V} {a : A} {xs : List A}
theorem lst_rd (r : Rel K m H h) (x : Rep K m H v a) (e : lstOf a h = some xs) : ∃ p vs, v = .ref p ∧ SqL K H p vs ∧ Reps K m H vs xs := by
  cases a with
  | lst ys =>
    cases e
    exact sql_of x
  | li l =>
    have e2 : h[l]? = some (.lst xs) := by
      have e' : (match h[l]? with | some (.lst xs) => some xs | _ => none) = some xs := e
      split at e'
      · next ys q => cases e'; exact q
      · cases e'
    cases x with
    | li hm =>
      obtain ⟨c, e1, hc⟩ := r.cell l _ hm
      rw [e2] at e1
      cases e1
      obtain ⟨vs, hv, hr⟩ := hc
      exact ⟨_, vs, rfl, .inl (.inl hv), hr⟩
    | ded hm =>
      have := r.ded l hm
      rw [e2] at this
      cases this
  | _ => cases e
theorem seq_rd (r : Rel K m H h) (x : Rep K m H v a) (e : seqOf a h = some xs) : ∃ p vs, v = .ref p ∧ (SqL K H p vs ∨ SqT K H p vs) ∧ Reps K m H vs xs := by
  unfold seqOf at e
  split at e
  · next ys =>
    cases e
    obtain ⟨p, vs, rfl, hq, hr⟩ := sqt_of x
    exact ⟨p, vs, rfl, .inr hq, hr⟩
  · obtain ⟨p, vs, rfl, hq, hr⟩ := lst_rd r x e
    exact ⟨p, vs, rfl, .inl hq, hr⟩
/-- a cell's list -/
theorem cell_rd {l : Nat} (r : Rel K m H h) (x : Rep K m H v (.li l)) (e : h[l]? = some (.lst xs)) : ∃ p vs, v = .ref p ∧ m.c[l]? = some (some p) ∧ H p = some (.lst vs) ∧ Reps K m H vs xs := by
  cases x with
  | li hm =>
    obtain ⟨c, e1, hc⟩ := r.cell l _ hm
    rw [e] at e1
    cases e1
    obtain ⟨vs, hv, hr⟩ := hc
    exact ⟨_, vs, rfl, hm, hv, hr⟩
  | ded hm =>
    have := r.ded l hm
    rw [e] at this
    cases this
theorem Reps.ints : ∀ {vs : List V} {ns : List Int}, Reps K m H vs (ns.map A.int) → vs = ns.map V.int
  | _, [], .nil => rfl
  | _, n :: ns, .cons q t => by
    cases q
    rw [List.map_cons, Reps.ints t]
def strsOf : List A → Option (List Str)
  | [] => some []
  | .str s :: r => (strsOf r).map (s :: ·)
  | _ :: _ => none
theorem strsOf_map : ∀ ss : List Str, strsOf (ss.map A.str) = some ss
  | [] => rfl
  | s :: ss => by
    show (strsOf (ss.map A.str)).map (s :: ·) = _
    rw [strsOf_map ss]
    rfl
theorem Reps.strs : ∀ {vs : List V} {xs : List A} {ss : List Str}, Reps K m H vs xs → strsOf xs = some ss → vs = ss.map V.str ∧ ∀ s ∈ ss, sOk s = true
  | _, [], _, .nil, e => by cases e; exact ⟨rfl, fun s hs => by cases hs⟩
  | _, x :: xs, ss, .cons q t, e => by
    cases x with
    | str s =>
      unfold strsOf at e
      cases e2 : strsOf xs with
      | none => rw [e2] at e; cases e
      | some ts =>
        rw [e2] at e
        cases e
        cases q with
        | str hs =>
          obtain ⟨e3, h3⟩ := t.strs e2
          exact ⟨by rw [e3]; rfl, fun z hz => by
            rcases List.mem_cons.mp hz with q | q
            · rw [q]; exact hs
            · exact h3 z q⟩
    | _ => cases e
theorem push_tup {h : AH} {us : List V} {xs : List A} {p : Addr} (r : Rel K m H h) (x : Reps K m H us xs) (n : H p = none) : Step m H m (upd H p (.tup us)) ∧ Rel K m (upd H p (.tup us)) h ∧ Rep K m (upd H p (.tup us)) (.ref p) (.tup xs) :=
  ⟨Step.new r n, r.new n, .tup (.inl upd_same) (r.off n) (x.step (Step.new r n))⟩
end

/-! ### (a, b, ..) -/
section
variable {X : Cx} {W : WX} {pos : Pos}
def eTup (g : Ap) : Xp := fun ρ h => (g ρ h).bind fun xs h1 => if xs.length ≤ 100000 then .ok (.tup xs) h1 else .bad
theorem sd_tup {g : Ap} {es : List Expr} {k} (h : PA X es (tA X.K W g)) : PE X (.Tuple es k pos) (tE X.K W (eTup g)) := (pe_tup h).imp fun σ H Q ⟨m, ρ, h, r, s, p⟩ => by
  refine ⟨m, ρ, h, r, s, (Post.bind p).mono fun u H1 ⟨m1, h1, a, st1, r1, x1, p1⟩ => ?_⟩
  split at p1
  · next q =>
    refine ⟨Nat.le_trans (by rw [x1.length]; exact q) (by decide), fun a n => ?_⟩
    obtain ⟨t1, t2, t3⟩ := push_tup r1 x1 n
    exact p1 m1 _ _ t1 t2 t3
  · exact p1.elim
end

/-! ### operations on ints and texts -/
def sz (n : Nat) : Prop := n ≤ 100000
instance (n : Nat) : Decidable (sz n) := inferInstanceAs (Decidable (n ≤ 100000))
theorem sz_line {n : Nat} (h : sz n) : n ≤ sizeLine := Nat.le_trans h (by decide)
theorem sOk_app {x y : Str} (hx : sOk x = true) (hy : sOk y = true) : sOk (x ++ y) = true := by
  have e : (x ++ y).cps.toList = x.cps.toList ++ y.cps.toList := TL.tl_append x y
  unfold sOk at *
  rw [e, List.all_append, hx, hy]
  rfl
def oAdd : O2 := fun x y h => match x, y with
  | .int i, .int j => some (.int (i + j), h)
  | .str s, .str t => if sz (s.length + t.length) then some (.str (s ++ t), h) else none
  | .tup xs, .tup ys => if sz (xs.length + ys.length) then some (.tup (xs ++ ys), h) else none
  | _, _ => none
def oIadd : O2 := fun x y h => match x, y with
  | .int i, .int j => some (.int (i + j), h)
  | .str s, .str t => if sz (s.length + t.length) then some (.str (s ++ t), h) else none
  | _, _ => none
def oSub : O2 := fun x y h => match x, y with
  | .int i, .int j => some (.int (i - j), h)
  | _, _ => none
noncomputable def oMul : O2 := fun x y h => match x, y with
  | .int i, .int j => if Gd ((-(2 ^ 64) < i ∧ i < 2 ^ 64) ∨ (-(2 ^ 64) < j ∧ j < 2 ^ 64)) then some (.int (i * j), h) else none
  | .tup xs, .int k => if Gd (-1000 ≤ k ∧ k ≤ 1000 ∧ xs.length ≤ 1000) then some (.tup (List.replicate k.toNat xs).flatten, h) else none
  | _, _ => none
noncomputable def oMod : O2 := fun x y h => match x, y with
  | .int i, .int j => if Gd (0 < j) then some (.int (i % j), h) else none
  | _, _ => none
noncomputable def oDiv : O2 := fun x y h => match x, y with
  | .int i, .int j => if Gd (0 < j ∧ j < 1073741824) then some (.int (i / j), h) else none
  | _, _ => none
noncomputable def oPow : O2 := fun x y h => match x, y with
  | .int i, .int j => if Gd (0 ≤ j ∧ j ≤ 1000000 ∧ i.natAbs < 2 ^ 64) then some (.int (i ^ j.toNat), h) else none
  | _, _ => none
def oNeg : O1 := fun x h => match x with
  | .int i => some (.int (-i), h)
  | _ => none
def oLt : O2 := fun x y h => match x, y with
  | .int i, .int j => some (.bl (decide (i < j)), h)
  | .str s, .str t => some (.bl (decide (s.cps.toList < t.cps.toList)), h)
  | _, _ => none
def oLe : O2 := fun x y h => match x, y with
  | .int i, .int j => some (.bl (decide (i ≤ j)), h)
  | .str s, .str t => some (.bl (!decide (t.cps.toList < s.cps.toList)), h)
  | _, _ => none
def oGt : O2 := fun x y h => match x, y with
  | .int i, .int j => some (.bl (decide (j < i)), h)
  | .str s, .str t => some (.bl (decide (t.cps.toList < s.cps.toList)), h)
  | _, _ => none
def oGe : O2 := fun x y h => match x, y with
  | .int i, .int j => some (.bl (decide (j ≤ i)), h)
  | .str s, .str t => some (.bl (!decide (s.cps.toList < t.cps.toList)), h)
  | _, _ => none
section
variable {X : Cx}
theorem so_add : OpR X (binaryOp .Add) (rO2 X.K oAdd) := (op_add.or (op_add_str.or op_catA)).imp fun x y H Q ⟨m, h, a, b, r, ra, rb, p⟩ => by
  unfold oAdd at p
  split at p
  · cases ra; cases rb
    exact .inl ⟨_, _, rfl, rfl, p m H _ Step.refl r .int⟩
  · cases ra with
    | str q1 => cases rb with
      | str q2 =>
        split at p
        · next q => exact .inr (.inl ⟨_, _, rfl, rfl, sz_line q, p m H _ Step.refl r (.str (sOk_app q1 q2))⟩)
        · exact p.elim
  · next xs ys =>
    split at p
    · next q =>
      obtain ⟨p1, vs, rfl, h1, r1⟩ := sqt_of ra
      obtain ⟨p2, ws, rfl, h2, r2⟩ := sqt_of rb
      refine .inr (.inr ⟨p1, p2, vs, ws, rfl, rfl, h1, h2, by rw [r1.length, r2.length]; exact sz_line q, fun e => ?_, fun e1 e2 => ?_, fun e1 e2 a n => ?_⟩)
      · subst e
        cases r1
        exact p m H _ Step.refl r rb
      · subst e2
        cases r2
        rw [List.append_nil] at p
        exact p m H _ Step.refl r ra
      · obtain ⟨t1, t2, t3⟩ := push_tup r (r1.append r2) n
        exact p m _ _ t1 t2 t3
    · exact p.elim
  · exact p.elim
theorem so_iadd : OpR X (inplaceOp .Add) (rO2 X.K oIadd) := (iop_add.or iop_add_str).imp fun x y H Q ⟨m, h, a, b, r, ra, rb, p⟩ => by
  unfold oIadd at p
  split at p
  · cases ra; cases rb
    exact .inl ⟨_, _, rfl, rfl, p m H _ Step.refl r .int⟩
  · cases ra with
    | str q1 => cases rb with
      | str q2 =>
        split at p
        · next q => exact .inr ⟨_, _, rfl, rfl, sz_line q, p m H _ Step.refl r (.str (sOk_app q1 q2))⟩
        · exact p.elim
  · exact p.elim
theorem so_sub : OpR X (binaryOp .Sub) (rO2 X.K oSub) := op_sub.imp fun x y H Q ⟨m, h, a, b, r, ra, rb, p⟩ => by
  unfold oSub at p
  split at p
  · cases ra; cases rb
    exact ⟨_, _, rfl, rfl, p m H _ Step.refl r .int⟩
  · exact p.elim
theorem so_mul : OpR X (binaryOp .Mult) (rO2 X.K oMul) := (op_mul.or op_repB).imp fun x y H Q ⟨m, h, a, b, r, ra, rb, p⟩ => by
  unfold oMul at p
  split at p
  · split at p
    · next q => cases ra; cases rb; exact .inl ⟨_, _, rfl, rfl, q, p m H _ Step.refl r .int⟩
    · exact p.elim
  · next xs k =>
    split at p
    · next q =>
      obtain ⟨p1, vs, rfl, h1, r1⟩ := sqt_of ra
      cases rb
      refine .inr ⟨p1, k, vs, rfl, rfl, h1, q.1, q.2.1, by rw [r1.length]; exact q.2.2, fun e => ?_, fun e1 e2 a n => ?_⟩
      · have e3 : (List.replicate k.toNat xs).flatten = xs := by
          rcases e with e | e
          · subst e; simp
          · subst e
            cases r1
            simp
        rw [e3] at p
        exact p m H _ Step.refl r ra
      · obtain ⟨t1, t2, t3⟩ := push_tup r (r1.rep k.toNat) n
        exact p m _ _ t1 t2 t3
    · exact p.elim
  · exact p.elim
theorem so_mod : OpR X (binaryOp .Mod) (rO2 X.K oMod) := op_mod.imp fun x y H Q ⟨m, h, a, b, r, ra, rb, p⟩ => by
  unfold oMod at p
  split at p
  · split at p
    · next q => cases ra; cases rb; exact ⟨_, _, rfl, rfl, q, p m H _ Step.refl r .int⟩
    · exact p.elim
  · exact p.elim
theorem so_div : OpR X (binaryOp .FloorDiv) (rO2 X.K oDiv) := op_fdiv.imp fun x y H Q ⟨m, h, a, b, r, ra, rb, p⟩ => by
  unfold oDiv at p
  split at p
  · split at p
    · next q => cases ra; cases rb; exact ⟨_, _, rfl, rfl, q, p m H _ Step.refl r .int⟩
    · exact p.elim
  · exact p.elim
theorem so_pow : OpR X (binaryOp .Pow) (rO2 X.K oPow) := op_pow.imp fun x y H Q ⟨m, h, a, b, r, ra, rb, p⟩ => by
  unfold oPow at p
  split at p
  · split at p
    · next q => cases ra; cases rb; exact ⟨_, _, rfl, rfl, q, p m H _ Step.refl r .int⟩
    · exact p.elim
  · exact p.elim
theorem so_neg : UnR X (unaryOp .USub) (rO1 X.K oNeg) := fun pins s σ H x v Q I rx ⟨m, h, a, r, ra, p⟩ => by
  refine un_neg pins s σ H x v Q I rx ?_
  unfold oNeg at p
  split at p
  · cases ra; exact ⟨_, rfl, p m H _ Step.refl r .int⟩
  · exact p.elim
theorem so_lt : OpR X (compareOp .Lt) (rO2 X.K oLt) := (op_lt.or op_lt_str).imp fun x y H Q ⟨m, h, a, b, r, ra, rb, p⟩ => by
  unfold oLt at p
  split at p
  · cases ra; cases rb; exact .inl ⟨_, _, rfl, rfl, p m H _ Step.refl r .bl⟩
  · cases ra; cases rb; exact .inr ⟨_, _, rfl, rfl, p m H _ Step.refl r .bl⟩
  · exact p.elim
theorem so_le : OpR X (compareOp .LtE) (rO2 X.K oLe) := (op_le.or op_le_str).imp fun x y H Q ⟨m, h, a, b, r, ra, rb, p⟩ => by
  unfold oLe at p
  split at p
  · cases ra; cases rb; exact .inl ⟨_, _, rfl, rfl, p m H _ Step.refl r .bl⟩
  · cases ra; cases rb; exact .inr ⟨_, _, rfl, rfl, p m H _ Step.refl r .bl⟩
  · exact p.elim
theorem so_gt : OpR X (compareOp .Gt) (rO2 X.K oGt) := (op_gt.or op_gt_str).imp fun x y H Q ⟨m, h, a, b, r, ra, rb, p⟩ => by
  unfold oGt at p
  split at p
  · cases ra; cases rb; exact .inl ⟨_, _, rfl, rfl, p m H _ Step.refl r .bl⟩
  · cases ra; cases rb; exact .inr ⟨_, _, rfl, rfl, p m H _ Step.refl r .bl⟩
  · exact p.elim
theorem so_ge : OpR X (compareOp .GtE) (rO2 X.K oGe) := (op_ge.or op_ge_str).imp fun x y H Q ⟨m, h, a, b, r, ra, rb, p⟩ => by
  unfold oGe at p
  split at p
  · cases ra; cases rb; exact .inl ⟨_, _, rfl, rfl, p m H _ Step.refl r .bl⟩
  · cases ra; cases rb; exact .inr ⟨_, _, rfl, rfl, p m H _ Step.refl r .bl⟩
  · exact p.elim
end
end Ab

namespace Ab
open PySem PySem.Spec PyProof.Rows L2

/-- as the layer's FnOk, of calls that no repr surrounds -/
structure FnG (P : Program) (w : World) (K : PySem.W.Frag) (mg : Str → Option Value) (base : Heap) (CX : CXT) (k : Nat) (f : Addr) (fd : FuncData) (ps : List Str) (sp : Sp) : Prop where
  len : ∀ vs H Q E, sp vs H Q E → vs.length = ps.length
  run : ∀ (A : Around) (outer : List PySem.Env) (s : Shared) (H : Hp) (args : Args) (us : List Value) (vs : List V) (Q : VK) (E : XK), A.guards = some [] → Room k A → Env0 P w K mg base A outer s H → BindsTo s fd args (ps.zip us) →
    Vals vs us → sp vs H Q E → codeAny (model P w) A (.call (.ref f) args) (CR CX outer P w H s Q E) s
section
variable {P : Program} {w : World} {K : PySem.W.Frag} {mg : Str → Option Value} {base : Heap} {CX : CXT} {x qual : Str} {params : Arguments} {body : List Stmt} {scope : Scope} {dvs : List V} {kws : List (Str × V)} {f : Addr} {fd : FuncData}
theorem fnG_of {N ps : List Str} {k : Nat} {sp : Sp} (F : FunD K x qual params body scope dvs kws f fd) (S : FnScope N ps scope) (len : ∀ vs H Q E, sp vs H Q E → vs.length = ps.length)
    (hb : ∀ (cdv : Value) (A : Around) (outer : List PySem.Env) (s : Shared) (H : Hp) (vs : List V) (Q : VK) (E : XK), A.guards = some [] → Room k (A.deeper (envOfC qual scope s.heap.objs.size f cdv)) → sp vs H Q E →
      ∃ t, PSs (cxOf CX P w K mg base N qual scope f cdv A outer s H E) body t ∧ t ⟨fun _ H' => Q .non H', Q, fun _ _ => False, fun _ _ => False⟩ (start N vs) H) : FnG P w K mg base CX (k + 1) f fd ps sp := by
  obtain ⟨oc, od, dV, kV, doc, pm, an, cdv, ct, osl, hfd, lk, hcd, hdf, hkf⟩ := F.ex
  subst hfd
  constructor
  · exact len
  intro A outer s H args us vs Q E hg hr e0 hbd hv hsp
  have inb : ∀ b o, base.get? b = some o → s.heap.get? b = some o := fun b o e => (e0.bs b o e).1
  have KX := e0.mod.kin.keeps inb
  have NL := e0.mod.nolimit.keeps inb
  have kinds : ∀ y ∈ ps.zip us, scope.names.lookup y.1 = some .local ∨ (scope.names.lookup y.1 = some .cell ∧ ((cellsFrom (s.heap.objs.size + 1) scope.names []).lookup y.1).isSome = true) := by
    intro y hy
    cases S.par y.1 (List.of_mem_zip hy).1 with
    | inl q => exact Or.inl q
    | inr q => exact Or.inr ⟨q, PySem.W.cellsFrom_some _ _ _ (Or.inl q)⟩
  apply codeAny_call_function hr.depth (KX _ _ lk) rfl S.co S.gen rfl (PySem.W.codeRec_of KX hcd)
  apply hbd
  apply wpAny_newFunctionEnv_cells S.kind kinds
  intro env he s1 lay
  subst he
  constructor
  · exact NL.keeps lay.toInCall.keep
  apply codeAny_func
  obtain ⟨t, ht, hq⟩ := hb cdv A outer s H vs Q E hg (hr.deeper _) hsp
  have I0 := inv_start (CX := CX) (E := E) (qual := qual) S hr.hd e0 (len _ _ _ _ hsp) hv lay
  refine wpAny_mono (ht.run [] s1 (start N vs) H _ I0 hq) ?_ fun _ _ z => z
  intro fl s' hs
  cases fl with
  | ret u => exact let ⟨v, _, H', J, rv, q⟩ := hs; ⟨v, H', J.os, J.bare, J.base, J.hok, rv, q⟩
  | next => exact let ⟨_, H', J, q⟩ := hs; ⟨.non, H', J.os, J.bare, J.base, J.hok, rfl, q⟩
  | brk => exact let ⟨_, _, _, q⟩ := hs; q.elim
  | cont => exact let ⟨_, _, _, q⟩ := hs; q.elim
theorem FnG.mono {j k : Nat} {ps : List Str} {sp : Sp} (F : FnG P w K mg base CX j f fd ps sp) (h : j ≤ k) : FnG P w K mg base CX k f fd ps sp :=
  ⟨F.len, fun A outer s H args us vs Q E hg hr => F.run A outer s H args us vs Q E hg (hr.mono h)⟩
end

/-- what every piece of a body stands in -/
structure Cg (X : Cx) (W : WX) (k : Nat) : Prop where
  tk : Takes X W
  gd : X.A.guards = some []
  rm : Room k X.A
  po : PassesOwn (model X.prog X.w) X.A X.env X.xe
theorem Cg.mono {X : Cx} {W : WX} {j k : Nat} (g : Cg X W k) (h : j ≤ k) : Cg X W j := ⟨g.tk, g.gd, g.rm.mono h, g.po⟩

section
variable {X : Cx} {W : WX} {k : Nat} {f : Addr} {fd : FuncData} {ps : List Str} {sp : Sp} {dvs : List V} {ds : List Value}
/-- the callee runs; what it raises is wished for at the caller's slots -/
theorem run_G {pins : List (Addr × Obj)} {σ : L2.St} {H : Hp} {s : Shared} {Q : VK} {us : List Value} {vs : List V} (g : Cg X W k) (F : FnG X.prog X.w X.K X.mg X.base (L2.CX X.prog X.w) k f fd ps sp) (hb : Binds X.K fd ps ds) (hd : Vals dvs ds)
    (I : Inv X pins σ H s) (r : Vals vs us) (h : sp (vs ++ dvs) H Q fun cls d H' => W cls d σ H') : wpAny (model X.prog X.w) X.A (call (.ref f) us) (EP X pins σ Q) X.xe s := by
  have rr := r.append hd
  have hl : (us ++ ds).length = ps.length := rr.length.symm.trans (F.len _ _ _ _ h)
  apply wpAny_call
  apply codeAny_mono (F.run X.A X.stack s H ⟨us, []⟩ (us ++ ds) (vs ++ dvs) Q _ g.gd g.rm I.env0 (hb s us I.kIn hl) rr h)
  intro res s' hq
  match res, hq with
  | .error e, hq => exact g.tk e s' (XE.of_call I (fun _ _ _ z => z) hq)
  | .ok (.ret u), hq => exact I.after hq
  | .ok .next, hq => exact hq.elim
  | .ok .brk, hq => exact hq.elim
  | .ok .cont, hq => exact hq.elim
/-- f(e, ..), the defaults das behind -/
def eF (n : Nat) (f : Fn) (as : Ap) (das : List A) : Xp := fun ρ h => (as ρ h).bind fun xs h1 => if (xs ++ das).length = n then f (xs ++ das) h1 else .bad
theorem stepF {K : PySem.W.Frag} {n : Nat} {f : Fn} {g : Ap} {das : List A} {σ : L2.St} {H : Hp} {Q : VK} (hda : ∀ m H, Reps K m H dvs das) (h : tE K W (eF n f g das) σ H Q) : tA K W g σ H fun vs H1 => spF K n f (vs ++ dvs) H1 Q (fun cls d H' => W cls d σ H') := by
  obtain ⟨m, ρ, h, r, s, p⟩ := h
  refine ⟨m, ρ, h, r, s, (Post.bind p).mono fun u H1 ⟨m1, h1, a, st1, r1, x1, p1⟩ => ?_⟩
  split at p1
  · next q =>
    have xx := x1.append (hda m1 H1)
    exact ⟨xx.length.trans q, m1, h1, _, r1, xx, p1.reslot⟩
  · exact p1.elim
theorem sd_call {n : Nat} {fn : Fn} {as : Ap} {das : List A} {x : Str} {p pos : Pos} {e : Expr} {es : List Expr} (g : Cg X W k) (F : FnG X.prog X.w X.K X.mg X.base (L2.CX X.prog X.w) k f fd ps (spF X.K n fn)) (hg : Gl X x) (hm : X.mg x = some (.ref f)) (hk : PySem.W.keepIn X.K (.ref f) = true)
    (hb : Binds X.K fd ps ds) (hd : Vals dvs ds) (hda : ∀ m H, Reps X.K m H dvs das) (ha : PA X (e :: es) (tA X.K W as)) (hdb : (x == ("__debug__" : Str)) = false := by decide) (he : starEach (e :: es) X.env = (false, eval e X.env) :: starEach es X.env := by rfl) (hpl : (backTo pos (starEach es X.env)).any (·.1) = false := by rfl) :
    PE X (.Call (.Name x p) (e :: es) [] pos) (tE X.K W (eF n fn as das)) := by
  constructor
  intro pins s σ H Q I h
  refine wpAny_Call_Name_kw (ld_glob I hg hm ?_ hdb)
  refine PySem.W.callWith_K (h₀ := X.base) I.ok.mod.kin hk (thn (ha.run pos pins s σ H _ I (stepF hda h)) fun us s1 ⟨vs, H1, I1, r, q⟩ => ⟨I1.kIn, run_G g F hb hd I1 r q⟩) he hpl
theorem sd_call0 {n : Nat} {fn : Fn} {das : List A} {x : Str} {p pos : Pos} (g : Cg X W k) (F : FnG X.prog X.w X.K X.mg X.base (L2.CX X.prog X.w) k f fd ps (spF X.K n fn)) (hg : Gl X x) (hm : X.mg x = some (.ref f)) (hk : PySem.W.keepIn X.K (.ref f) = true)
    (hb : Binds X.K fd ps ds) (hd : Vals dvs ds) (hda : ∀ m H, Reps X.K m H dvs das) (hdb : (x == ("__debug__" : Str)) = false := by decide) :
    PE X (.Call (.Name x p) [] [] pos) (tE X.K W (eF n fn aNil das)) := by
  constructor
  intro pins s σ H Q I h
  refine wpAny_Call_Name_kw (ld_glob I hg hm ?_ hdb)
  obtain ⟨m, ρ, h, r, sr, p⟩ := stepF hda h
  exact PySem.W.callWith_K0 I.kIn hk (run_G (us := []) (vs := []) g F hb hd I .nil (p m H _ Step.refl r .nil))
end

/-! ### a def's body -/
def runS (n : Nat) (b : Sm) : Fn := fun as h => match b (as.map some ++ List.replicate (n - as.length) none) h with
  | .nx _ h' => .ok .non h'
  | .rt v h' => .ok v h'
  | .exc c fs _ h' => .exc c fs h'
  | _ => .bad
section
variable {P : Program} {w : World} {K : PySem.W.Frag} {mg : Str → Option Value} {base : Heap} {x qual : Str} {params : Arguments} {body : List Stmt} {scope : Scope} {dvs : List V} {kws : List (Str × V)} {f : Addr} {fd : FuncData}
/-- what is wished of an exception that leaves the def -/
abbrev WE (E : XK) : WX := fun cls d _ H' => E cls d H'
theorem def_ok {N ps : List Str} {k : Nat} {b : Sm} (F : FunD K x qual params body scope dvs kws f fd) (S : FnScope N ps scope)
    (hb : ∀ (cdv : Value) (A : Around) (outer : List PySem.Env) (s : Shared) (H : Hp) (E : XK), Cg (cxOf (L2.CX P w) P w K mg base N qual scope f cdv A outer s H E) (WE E) k →
      PSs (cxOf (L2.CX P w) P w K mg base N qual scope f cdv A outer s H E) body (tS K (WE E) b)) : FnG P w K mg base (L2.CX P w) (k + 1) f fd ps (spF K ps.length (runS N.length b)) := by
  refine fnG_of F S (fun vs H Q E z => z.1) fun cdv A outer s H vs Q E hg hr z => ?_
  obtain ⟨hl, m, h, as, r, x, p⟩ := z
  refine ⟨_, hb cdv A outer s H E ⟨takes_of rfl rfl rfl rfl, hg, hr, passes_of rfl⟩, m, _, h, r, reps_start x, ?_⟩
  have el : vs.length = as.length := x.length
  rw [el]
  unfold runS at p
  cases q : b (as.map some ++ List.replicate (N.length - as.length) none) h with
  | nx ρ h' => rw [q] at p; exact fun m' H' σ' st r' _ => p m' H' .non st r' .non
  | rt v h' => rw [q] at p; exact p
  | bk ρ h' => rw [q] at p; exact p.elim
  | ct ρ h' => rw [q] at p; exact p.elim
  | exc c fs ρ h' => rw [q] at p; exact fun m' H' σ' d st r' _ xr => p m' H' d st r' xr
  | bad => rw [q] at p; exact p.elim
end

/-! ### the law's end -/
section
variable {P : Program} {w : World} {K : PySem.W.Frag} {mg mb : Str → Option Value} {k : Nat} {fa a : Addr} {fd : FuncData} {x : Str} {sp : Sp} {s0 : Shared} {vs : List Value} {ns : List Int}
/-- the script's list stands in the heap: told, and locked -/
theorem script_heap (KX : K.In s0.heap) (ha : s0.heap.get? a = some { cls := .type "list", data := .seq vs.toArray }) (hi : IntsAre vs ns) (hl : ns.length ≤ sizeLine) :
    ∃ H : Hp, Only H ∧ SqL K H a (ns.map V.int) ∧ HOk P w H s0.heap ∧ (∀ b, H b ≠ none → b = a ∧ K.lookup a = none) := by
  have rv := vals_ints hi
  cases hk : K.lookup a with
  | some o =>
    have e : o = { cls := .type "list", data := .seq vs.toArray } := Option.some.inj ((KX a o hk).symm.trans ha)
    subst e
    have hz : vs.toArray.size ≤ sizeLine := by
      rw [List.size_toArray, hi.length]
      exact hl
    exact ⟨fun _ => none, fun _ => .inl rfl, .inr ⟨_, _, _, hk, rfl, rfl, rfl, hz, by simpa using rv⟩, fun _ _ z => (nomatch z), fun _ z => (z rfl).elim⟩
  | none =>
    let o : Obj := { cls := .type "list", data := .seq vs.toArray }
    let H : Hp := upd (fun _ => none) a (.frz o (.lst (ns.map V.int)))
    have hne : ∀ b, b ≠ a → H b = none := fun b hb => upd_ne hb
    refine ⟨H, fun b => ?_, .inl (.inr ⟨o, upd_same⟩), fun b u z => ?_, fun b z => ⟨Classical.byContradiction fun hb => z (hne b hb), rfl⟩⟩
    · by_cases hb : b = a
      · subst hb; exact .inr ⟨_, _, upd_same⟩
      · exact .inl (hne b hb)
    · by_cases hb : b = a
      · subst hb
        have e : u = .frz o (.lst (ns.map V.int)) := Option.some.inj (z.symm.trans upd_same)
        subst e
        have hz : (ns.map V.int).length ≤ sizeLine := by
          rw [List.length_map]
          exact hl
        exact ⟨ha, hz, vs, _, rv, ha⟩
      · rw [hne b hb] at z
        cases z
theorem law_G (KX : K.In s0.heap) (hns : s0.heap.Ns mainGlobals mg) (hb : s0.heap.Ns builtinsNs mb) (hbb : ∀ x : Str, x ≠ "__name__" → mb x = bootBuiltins x) (hlim : s0.heap.NoLimit) (hg : s0.gens = #[])
    (ha : s0.heap.get? a = some { cls := .type "list", data := .seq vs.toArray }) (hi : IntsAre vs ns) (hl : ns.length ≤ sizeLine) (hr : Room k callerA)
    (F : ∀ base : Heap, K.In base → base.Ns mainGlobals mg → FnG P w K mg base (L2.CX P w) k fa fd [x] sp) (hbind : ∀ (s : Shared) (u : Value), BindsTo s fd ⟨[u], []⟩ [(x, u)])
    (hsp : ∀ H : Hp, Only H → SqL K H a (ns.map V.int) → sp [.ref a] H (fun v _ => v = .bl true) fun _ _ _ => False) :
    codeAny (model P w) callerA (.call (.ref fa) ⟨[.ref a], []⟩) (fun r s' => r = .ok (.ret (.bool true)) ∧ OldK s0.heap s'.heap ∧ s'.os = s0.os ∧ AllBare s'.gens) s0 := by
  obtain ⟨H, hO, hS, hok, hA⟩ := script_heap (P := P) (w := w) KX ha hi hl
  have notDict : ∀ {b : Addr} {o : Obj} {es : Array DictEntry} {ep : Nat}, s0.heap.get? b = some o → o.data = .dict es ep → H b = none := by
    intro b o es ep e d
    refine Classical.byContradiction fun z => ?_
    have e2 := (hA b z).1
    subst e2
    have e3 : o = { cls := .type "list", data := .seq vs.toArray } := Option.some.inj (e.symm.trans ha)
    subst e3
    cases d
  have nsIn : ∀ {b : Addr} {m : Str → Option Value}, s0.heap.Ns b m → (hidT s0.heap H).Ns b m := fun ⟨o, es, ep, e, d, r⟩ => ⟨o, es, ep, hidT_get e (notDict e d), d, r⟩
  have kIn : K.In (hidT s0.heap H) := by
    intro b o e
    refine hidT_get (KX b o e) (Classical.byContradiction fun z => ?_)
    obtain ⟨e2, e3⟩ := hA b z
    subst e2
    rw [e3] at e
    cases e
  have hM : Mod K mg (hidT s0.heap H) := ⟨kIn, nsIn hns, ⟨mb, nsIn hb, hbb⟩, hlim.elim fun mc z => ⟨mc, nsIn z.1, z.2⟩⟩
  have e0 : Env0 P w K mg (hidT s0.heap H) callerA [] s0 H := ⟨rfl, hM, fun _ _ => of_hidT, Nat.le_of_eq (hidT_size _ _), trivial, fun b z => absurd z List.not_mem_nil, hok, .of_eq hg⟩
  apply codeAny_mono ((F _ kIn (nsIn hns)).run callerA [] s0 H ⟨[.ref a], []⟩ [.ref a] [.ref a] _ _ rfl hr e0 (hbind s0 (.ref a)) (.cons rfl .nil) (hsp H hO hS))
  intro res s' z
  match res, z with
  | .error e, z =>
    obtain ⟨_, _, _, _, _, _, _, _, _, _, _, _, no⟩ := z
    exact no.elim
  | .ok .next, z => exact z.elim
  | .ok .brk, z => exact z.elim
  | .ok .cont, z => exact z.elim
  | .ok (.ret u), z =>
    obtain ⟨v, H', os, bare, un, hok', rv, q⟩ := z
    have q2 : v = V.bl true := q
    subst q2
    have q3 : u = Value.bool true := rv
    subst q3
    refine ⟨rfl, OldK.of_keep fun b o e => ?_, os, bare⟩
    rcases hO b with hn | ⟨ob, xs, hf⟩
    · exact un.keep b o e hn (fun z => absurd z List.not_mem_nil) (fun z => absurd z List.not_mem_nil)
    · have e1 := (hok b _ hf).1
      have e2 := (hok' b _ (un.frzs b ob _ hf)).1
      rw [← Option.some.inj (e1.symm.trans e)]
      exact e2
end
/-- the goal behind a head by facts -/
theorem walk_G {l : PySem.W.OpenLaw} {n k : Nat} {q : Program} {loose : List Str} {XP : (Str → Option Value) → Heap → Prop} {YP : World → Heap → Prop} {d : DefRec} {x : Str}
    (hn : l.most = some n) (hn2 : n ≤ sizeLine) (hdf : d.params.defaults = []) (hr : Room k callerA)
    (F : ∀ (w : World) (mg : Str → Option Value) (fa : Addr) (h : Heap), YP w h → h.Ns mainGlobals mg → mg d.name = some (.ref fa) →
      ∃ (K : PySem.W.Frag) (fd : FuncData) (sp : Sp), K.In h ∧ (∀ (s : Shared) (u : Value), BindsTo s fd ⟨[u], []⟩ [(x, u)]) ∧
        (∀ (H : Hp) (a : Addr) (ns : List Int), ns.length ≤ n → Only H → SqL K H a (ns.map V.int) → sp [.ref a] H (fun v _ => v = .bl true) fun _ _ _ => False) ∧
        ∀ base : Heap, K.In base → base.Ns mainGlobals mg → FnG l.prog w K mg base (L2.CX l.prog w) k fa fd [x] sp) :
    PySem.W.WalkO q loose XP YP l.row.toRowW d [] (fun f vs => PySem.call f vs) := by
  apply Att.attach_call hn hdf
  intro w s0 s1 mg mb fa o pm cd doc a vs ns G Y ho hd hcd hmg hobj hints hlen hg
  obtain ⟨K, fd, sp, KX, hb, hsp, hF⟩ := F w mg fa _ Y G.T.g hmg
  exact law_G KX G.T.g G.T.b G.T.builtins G.T.nolimit hg hobj hints (Nat.le_trans hlen hn2) hr hF hb fun H hO hS => hsp H a ns hlen hO hS
end Ab

namespace Ab
open PySem PySem.Spec PyProof.Rows L2

/-! ### data -/
mutual
def pd : A → PyData
  | .non => .none
  | .bl b => .bool b
  | .int i => .int i
  | .str s => .str s
  | .tup xs => .tuple (pds xs)
  | .lst xs => .list (pds xs)
  | _ => .none
def pds : List A → List PyData
  | [] => []
  | x :: xs => pd x :: pds xs
end
theorem pds_map : ∀ xs : List A, pds xs = xs.map pd
  | [] => rfl
  | x :: xs => by
    show pd x :: pds xs = pd x :: xs.map pd
    rw [pds_map xs]
/-- dok data, at most n deep -/
def dok : Nat → A → Bool
  | _, .non => true
  | _, .bl _ => true
  | _, .int _ => true
  | _, .str _ => true
  | n + 1, .tup xs => xs.all (dok n)
  | n + 1, .lst xs => xs.all (dok n)
  | _, _ => false
/-- a list that is a cell, as a value -/
def thaw (a : A) (h : AH) : A := match a with
  | .li l => (match h[l]? with
    | some (.lst xs) => .lst xs
    | _ => .li l)
  | a => a
section
variable {X : Cx} {K : PySem.W.Frag} {m : Mp} {H : Hp} {h : AH}
theorem canLayAll {xs : List PyData} : (∀ d ∈ xs, d.canLay0 = true) → PyData.canLayAll0 xs = true := by
  induction xs with
  | nil => intro _; rfl
  | cons x xs ih => intro z; simp only [PyData.canLayAll0, Bool.and_eq_true]; exact ⟨z x (by simp), ih fun d hd => z d (by simp [hd])⟩
theorem depthAll_le {n : Nat} {xs : List PyData} : (∀ d ∈ xs, d.depth ≤ n) → PyData.depthAll xs ≤ n := by
  induction xs with
  | nil => intro _; simp [PyData.depthAll]
  | cons x xs ih => intro z; simp only [PyData.depthAll]; exact Nat.max_le.mpr ⟨z x (by simp), ih fun d hd => z d (by simp [hd])⟩
theorem sOk_strOk {s : Str} (h : sOk s = true) : PyData.strOk s = true := by
  unfold PyData.strOk
  unfold sOk at h
  rw [← Array.all_toList]
  exact h
theorem dok_data : ∀ (n : Nat) {v : V} {a : A}, Rep K m H v a → dok n a = true → Dp K H v (pd a) ∧ (pd a).canLay0 = true ∧ (pd a).depth ≤ n := by
  intro n
  induction n with
  | zero =>
    intro v a r p
    cases r with
    | non => exact ⟨.non, rfl, Nat.le_refl _⟩
    | bl => exact ⟨.bl _, rfl, Nat.le_refl _⟩
    | int => exact ⟨.int _, rfl, Nat.le_refl _⟩
    | str hs => exact ⟨.str _, sOk_strOk hs, Nat.le_refl _⟩
    | _ => cases p
  | succ n ih =>
    have all : ∀ {vs : List V} {xs : List A}, Reps K m H vs xs → xs.all (dok n) = true → DpAll K H vs (pds xs) ∧ (∀ d ∈ pds xs, d.canLay0 = true) ∧ (∀ d ∈ pds xs, d.depth ≤ n) := by
      intro vs xs r
      induction xs generalizing vs with
      | nil => intro _; cases r; exact ⟨.nil, fun d hd => (nomatch hd), fun d hd => (nomatch hd)⟩
      | cons x xs ihx =>
        intro p
        rw [List.all_cons, Bool.and_eq_true] at p
        cases r with
        | cons q t =>
          obtain ⟨a1, a2, a3⟩ := ih q p.1
          obtain ⟨b1, b2, b3⟩ := ihx t p.2
          exact ⟨.cons a1 b1, fun d hd => by
            rcases List.mem_cons.mp hd with e | e
            · rw [e]; exact a2
            · exact b2 d e, fun d hd => by
            rcases List.mem_cons.mp hd with e | e
            · rw [e]; exact a3
            · exact b3 d e⟩
    intro v a r p
    cases a with
    | non => cases r; exact ⟨.non, rfl, Nat.zero_le _⟩
    | bl b => cases r; exact ⟨.bl _, rfl, Nat.zero_le _⟩
    | int i => cases r; exact ⟨.int _, rfl, Nat.zero_le _⟩
    | str s => cases r with | str hs => exact ⟨.str _, sOk_strOk hs, Nat.zero_le _⟩
    | tup xs =>
      obtain ⟨q, vs, rfl, hq, hr⟩ := sqt_of r
      obtain ⟨a1, a2, a3⟩ := all hr p
      exact ⟨.tup hq a1, canLayAll a2, Nat.succ_le_succ (depthAll_le a3)⟩
    | lst xs =>
      obtain ⟨q, vs, rfl, hq, hr⟩ := sql_of r
      obtain ⟨a1, a2, a3⟩ := all hr p
      exact ⟨.lst hq a1, canLayAll a2, Nat.succ_le_succ (depthAll_le a3)⟩
    | _ => cases p
theorem thaw_data (n : Nat) {v : V} {a : A} (r0 : Rel K m H h) (r : Rep K m H v a) (p : dok n (thaw a h) = true) : Dp K H v (pd (thaw a h)) ∧ (pd (thaw a h)).canLay0 = true ∧ (pd (thaw a h)).depth ≤ n := by
  cases a with
  | li l =>
    unfold thaw at p ⊢
    cases q : h[l]? with
    | none => simp only [q] at p; cases n <;> cases p
    | some c =>
      cases c with
      | lst xs =>
        simp only [q] at p ⊢
        obtain ⟨pp, vs, rfl, hm, hv, hr⟩ := cell_rd r0 r q
        cases n with
        | zero => cases p
        | succ n =>
          -- the cell's items as a value at the same address
          have key : ∀ {vs : List V} {xs : List A}, Reps K m H vs xs → xs.all (dok n) = true → DpAll K H vs (pds xs) ∧ (∀ d ∈ pds xs, d.canLay0 = true) ∧ (∀ d ∈ pds xs, d.depth ≤ n) := by
            intro vs xs r
            induction xs generalizing vs with
            | nil => intro _; cases r; exact ⟨.nil, fun d hd => (nomatch hd), fun d hd => (nomatch hd)⟩
            | cons x xs ihx =>
              intro p
              rw [List.all_cons, Bool.and_eq_true] at p
              cases r with
              | cons q t =>
                obtain ⟨a1, a2, a3⟩ := dok_data n q p.1
                obtain ⟨b1, b2, b3⟩ := ihx t p.2
                exact ⟨.cons a1 b1, fun d hd => by
                  rcases List.mem_cons.mp hd with e | e
                  · rw [e]; exact a2
                  · exact b2 d e, fun d hd => by
                  rcases List.mem_cons.mp hd with e | e
                  · rw [e]; exact a3
                  · exact b3 d e⟩
          obtain ⟨a1, a2, a3⟩ := key hr p
          exact ⟨.lst (.inl (.inl hv)) a1, canLayAll a2, Nat.succ_le_succ (depthAll_le a3)⟩
      | _ => simp only [q] at p; cases n <;> cases p
  | _ => exact dok_data n r p
theorem shaped_of {d : PyData} (h1 : d.canLay0 = true) (h2 : d.depth ≤ 60) : SeqAt.shaped d = true := by
  unfold SeqAt.shaped
  rw [h1, decide_eq_true (by omega)]
  rfl
end
/-- == of data -/
def aEq (x y : A) : Bool := PyData.eqv (pd x) (pd y)
def oEq : O2 := fun x y h => match x, y with
  | .txt s, .txt t => some (.bl (decide (s = t)), h)
  | x, y => if dok 60 (thaw x h) = true ∧ dok 60 (thaw y h) = true then some (.bl (aEq (thaw x h) (thaw y h)), h) else none
def oNe : O2 := fun x y h => match x, y with
  | .txt s, .txt t => some (.bl (!decide (s = t)), h)
  | x, y => if dok 60 (thaw x h) = true ∧ dok 60 (thaw y h) = true then some (.bl (!aEq (thaw x h) (thaw y h)), h) else none
section
variable {X : Cx}
theorem so_eq (hu : X.A.units + 64 < cLine) : OpR X (compareOp .Eq) (rO2 X.K oEq) := (op_eq.or (op_eqD hu)).imp fun x y H Q ⟨m, h, a, b, r, ra, rb, p⟩ => by
  unfold oEq at p
  split at p
  · next s t =>
    cases ra; cases rb
    refine .inl ⟨rfl, ?_⟩
    have e : decide (V.str s = V.str t) = decide (s = t) := by
      by_cases q : s = t
      · subst q; simp
      · rw [decide_eq_false q, decide_eq_false fun z => q (V.str.inj z)]
    rw [e]
    exact p m H _ Step.refl r .bl
  · split at p
    · next q =>
      obtain ⟨a1, a2, a3⟩ := thaw_data 60 r ra q.1
      obtain ⟨b1, b2, b3⟩ := thaw_data 60 r rb q.2
      exact .inr ⟨_, _, a1, b1, shaped_of a2 a3, shaped_of b2 b3, p m H _ Step.refl r .bl⟩
    · exact p.elim
theorem so_ne (hu : X.A.units + 64 < cLine) : OpR X (compareOp .NotEq) (rO2 X.K oNe) := (op_ne.or (op_neD hu)).imp fun x y H Q ⟨m, h, a, b, r, ra, rb, p⟩ => by
  unfold oNe at p
  split at p
  · next s t =>
    cases ra; cases rb
    refine .inl ⟨rfl, ?_⟩
    have e : decide (V.str s = V.str t) = decide (s = t) := by
      by_cases q : s = t
      · subst q; simp
      · rw [decide_eq_false q, decide_eq_false fun z => q (V.str.inj z)]
    rw [e]
    exact p m H _ Step.refl r .bl
  · split at p
    · next q =>
      obtain ⟨a1, a2, a3⟩ := thaw_data 60 r ra q.1
      obtain ⟨b1, b2, b3⟩ := thaw_data 60 r rb q.2
      exact .inr ⟨_, _, a1, b1, shaped_of a2 a3, shaped_of b2 b3, p m H _ Step.refl r .bl⟩
    · exact p.elim
end
/-- repr of data -/
def oRepr : ON := fun xs h => match xs with
  | [a] => if dok 60 a = true ∧ (pd a).showable = true ∧ (pd a).shown.length ≤ sizeLine then some (.txt (pd a).shown, h) else none
  | _ => none

/-! ### places -/
def oIx : O2 := fun x y h => match x, y with
  | .str z, .int i => if sz z.length then (match atI z.cps.toList i with
    | some c => some (.str ⟨#[c]⟩, h)
    | none => none) else none
  | x, .int i => (match seqOf x h with
    | some xs => (match atI xs i with
      | some v => some (v, h)
      | none => none)
    | none => none)
  | _, _ => none
theorem atI_reps {K : PySem.W.Frag} {m : Mp} {H : Hp} {vs : List V} {xs : List A} {i : Int} {a : A} (r : Reps K m H vs xs) (e : atI xs i = some a) : ∃ v, atI vs i = some v ∧ Rep K m H v a := by
  unfold atI at *
  rw [r.length]
  cases q : ixN xs.length i with
  | none => rw [q] at e; cases e
  | some j =>
    rw [q] at e
    obtain ⟨v, h1, h2⟩ := r.get (show xs[j]? = some a from e)
    exact ⟨v, h1, h2⟩
section
variable {X : Cx}
theorem so_ix : IxR X (rO2 X.K oIx) := ix_seq.imp fun x y H Q ⟨m, h, a, b, r, ra, rb, p⟩ => by
  unfold oIx at p
  split at p
  · next z i =>
    split at p
    · next q =>
      split at p
      · next c qc =>
        cases rb
        cases ra with
        | str hs =>
          refine .inr (.inr ⟨z, i, c, rfl, rfl, sz_line q, qc, p m H _ Step.refl r (.str ?_)⟩)
          unfold sOk at *
          have hc : c ∈ z.cps.toList := by
            unfold atI at qc
            cases q2 : ixN z.cps.toList.length i with
            | none => rw [q2] at qc; cases qc
            | some j => rw [q2] at qc; exact List.mem_of_getElem? qc
          simpa using List.all_eq_true.mp hs c hc
      · exact p.elim
    · exact p.elim
  · next i _ =>
    split at p
    · next xs qs =>
      split at p
      · next v qv =>
        obtain ⟨pp, vs, rfl, hq, hr⟩ := seq_rd r ra qs
        obtain ⟨u, hu, xu⟩ := atI_reps hr qv
        cases rb
        rcases hq with hq | hq
        · exact .inl ⟨pp, vs, i, u, rfl, rfl, hq, hu, p m H _ Step.refl r xu⟩
        · exact .inr (.inl ⟨pp, vs, i, u, rfl, rfl, hq, hu, p m H _ Step.refl r xu⟩)
      · exact p.elim
    · exact p.elim
  · exact p.elim
end
/-- l[i] = v -/
def oPut : O3 := fun o i v h => match o, i with
  | .li l, .int k => (match h[l]? with
    | some (.lst xs) => (match ixN xs.length k with
      | some j => some (h.set l (.lst (xs.set j v)))
      | none => none)
    | _ => none)
  | _, _ => none
section
variable {X : Cx} {K : PySem.W.Frag} {m : Mp} {H : Hp} {h : AH}
/-- a cell's list is stored anew -/
theorem put_cell {l : Nat} {p : Addr} {vs ws : List V} {xs ys : List A} (r : Rel K m H h) (hm : m.c[l]? = some (some p)) (y : Reps K m H ws ys) : Step m H m (upd H p (.lst ws)) ∧ Rel K m (upd H p (.lst ws)) (h.set l (.lst ys)) :=
  ⟨Step.store r hm, r.store hm ⟨ws, upd_same, y.step (Step.store r hm)⟩⟩
theorem so_put : PSet X (rO3 X.K oPut) := set_list.imp fun o i v H Q ⟨m, h, a, b, c, r, ra, rb, rc, p⟩ => by
  cases a with
  | li l =>
    cases b with
    | int k =>
      dsimp only [oPut] at p
      cases q : h[l]? with
      | none => simp only [q] at p
      | some ce =>
        cases ce with
        | lst xs =>
          cases qj : ixN xs.length k with
          | none => simp only [q, qj] at p
          | some j =>
            simp only [q, qj] at p
            obtain ⟨pp, vs, rfl, hm, hv, hr⟩ := cell_rd r ra q
            cases rb
            obtain ⟨t1, t2⟩ := put_cell (vs := vs) (xs := xs) r hm (hr.set j rc)
            exact ⟨pp, vs, k, j, rfl, rfl, hv, by rw [hr.length]; exact qj, p m _ t1 t2⟩
        | _ => simp only [q] at p
    | _ => exact p.elim
  | _ => exact p.elim
end
end Ab

namespace Ab
open PySem PySem.Spec PyProof.Rows L2

/-! ### built-ins -/
def oLen : ON := fun xs h => match xs with
  | [.str z] => if sz z.length then some (.int z.length, h) else none
  | [a] => (match seqOf a h with
    | some ys => some (.int ys.length, h)
    | none => none)
  | _ => none
def oInt : ON := fun xs h => match xs with
  | [.int i] => some (.int i, h)
  | [.bl k] => some (.int (if k then 1 else 0), h)
  | _ => none
def oMax2 : ON := fun xs h => match xs with
  | [.int i, .int j] => some (.int (if j > i then j else i), h)
  | _ => none
def oMin2 : ON := fun xs h => match xs with
  | [.int i, .int j] => some (.int (if j < i then j else i), h)
  | _ => none
def oTuple : ON := fun xs h => match xs with
  | [a] => (match seqOf a h with
    | some ys => some (.tup ys, h)
    | none => none)
  | _ => none
section
variable {X : Cx}
theorem so_len : CallR X (.builtin "len") (rON X.K oLen) := (call_len_seq.or call_len_str).imp fun xs H Q ⟨m, h, as, r, ra, p⟩ => by
  unfold oLen at p
  split at p
  · next z =>
    split at p
    · next q =>
      cases ra with
      | cons x t => cases t; cases x; exact .inr ⟨_, rfl, sz_line q, p m H _ Step.refl r .int⟩
    · exact p.elim
  · next a _ =>
    split at p
    · next ys q =>
      cases ra with
      | cons x t =>
        cases t
        obtain ⟨pp, vs, rfl, hq, hr⟩ := seq_rd r x q
        rw [← hr.length] at p
        exact .inl ⟨pp, vs, rfl, hq, p m H _ Step.refl r .int⟩
    · exact p.elim
  · exact p.elim
theorem so_int : CallR X (.type "int") (rON X.K oInt) := call_int1.imp fun xs H Q ⟨m, h, as, r, ra, p⟩ => by
  unfold oInt at p
  split at p
  · cases ra with | cons x t => cases t; cases x; exact .inl ⟨_, rfl, p m H _ Step.refl r .int⟩
  · cases ra with | cons x t => cases t; cases x; exact .inr ⟨_, rfl, p m H _ Step.refl r .int⟩
  · exact p.elim
theorem so_max2 (hc : X.calm = true) : CallR X (.builtin "max") (rON X.K oMax2) := (call_max2 hc).imp fun xs H Q ⟨m, h, as, r, ra, p⟩ => by
  unfold oMax2 at p
  split at p
  · cases ra with | cons x t => cases t with | cons y u => cases u; cases x; cases y; exact ⟨_, _, rfl, p m H _ Step.refl r .int⟩
  · exact p.elim
theorem so_min2 (hc : X.calm = true) : CallR X (.builtin "min") (rON X.K oMin2) := (call_min2 hc).imp fun xs H Q ⟨m, h, as, r, ra, p⟩ => by
  unfold oMin2 at p
  split at p
  · cases ra with | cons x t => cases t with | cons y u => cases u; cases x; cases y; exact ⟨_, _, rfl, p m H _ Step.refl r .int⟩
  · exact p.elim
theorem so_tuple : CallR X (.type "tuple") (rON X.K oTuple) := call_tuple_of.imp fun xs H Q ⟨m, h, as, r, ra, p⟩ => by
  unfold oTuple at p
  split at p
  · next a =>
    split at p
    · next ys q =>
      cases ra with
      | cons x t =>
        cases t
        unfold seqOf at q
        split at q
        · cases q
          obtain ⟨pp, vs, rfl, hq, hr⟩ := sqt_of x
          exact ⟨pp, vs, rfl, .inr ⟨hq, p m H _ Step.refl r x⟩⟩
        · obtain ⟨pp, vs, rfl, hq, hr⟩ := lst_rd r x q
          refine ⟨pp, vs, rfl, .inl ⟨hq, fun l n => ?_⟩⟩
          obtain ⟨t1, t2, t3⟩ := push_tup r hr n
          exact p m _ _ t1 t2 t3
    · exact p.elim
  · exact p.elim
theorem pd_noDict : ∀ (n : Nat) (a : A), dok n a = true → (pd a).hasDict = false := by
  intro n
  induction n with
  | zero => intro a p; cases a <;> first | rfl | cases p
  | succ n ih =>
    have all : ∀ xs : List A, xs.all (dok n) = true → PyData.hasDictAll (pds xs) = false := by
      intro xs
      induction xs with
      | nil => intro _; rfl
      | cons x xs ihx =>
        intro p
        rw [List.all_cons, Bool.and_eq_true] at p
        show (PyData.hasDict (pd x) || PyData.hasDictAll (pds xs)) = false
        rw [ih x p.1, ihx p.2]
        rfl
    intro a p
    cases a with
    | tup xs => exact all xs p
    | lst xs => exact all xs p
    | _ => first | rfl | cases p
theorem so_repr (hg : X.A.guards = some []) (hu : X.A.units + 64 < cLine) : CallR X (.builtin "repr") (rON X.K oRepr) := fun pins s σ H xs us Q I ru ⟨m, h, as, r, ra, p⟩ => by
  unfold oRepr at p
  split at p
  · next a =>
    split at p
    · next q =>
      cases ra with
      | cons x t =>
        cases t
        cases ru with
        | cons rv rt =>
          cases rt
          obtain ⟨d1, d2, d3⟩ := dok_data 60 x q.1
          obtain ⟨bs, rr⟩ := Dp.reads I _ _ _ d1 rv
          have nd := pd_noDict 60 a q.1
          have fin : ∀ (h' : Heap) (u : Tok) (tk : Nat), (∀ b o, s.heap.get? b = some o → h'.get? b = some o) → EP X pins σ Q (.str (pd a).shown u) { s with heap := h', toks := tk } := fun h' u tk hk =>
            ⟨.str (pd a).shown, H, I.kept hk, ⟨u, rfl⟩, p m H _ Step.refl r .txt⟩
          cases a with
          | tup ys =>
            obtain ⟨pp, vs, rfl, _, _⟩ := sqt_of x
            cases rv
            exact repr_of_reads' rr q.2.1 (PyData.noDict_hsm nd) hg (by omega) (fun _ _ e => e) fin q.2.2
          | lst ys =>
            obtain ⟨pp, vs, rfl, _, _⟩ := sql_of x
            cases rv
            exact repr_of_reads' rr q.2.1 (PyData.noDict_hsm nd) hg (by omega) (fun _ _ e => e) fin q.2.2
          | int i =>
            cases x
            obtain ⟨t, rfl⟩ := rv
            have hi : i.natAbs.log2 < 1920 := of_decide_eq_true q.2.1
            refine PySem.P.repr_of_int hi ?_
            have f2 := fin s.heap s.toks (s.toks + 1) fun _ _ e => e
            rw [show (pd (.int i)).shown = ((toString i : String) : Str) from PyData.shown_int i] at f2
            exact f2
          | str z =>
            cases x
            obtain ⟨t, rfl⟩ := rv
            have f2 := fin s.heap s.toks (s.toks + 1) fun _ _ e => e
            have hz := q.2.2
            rw [show (pd (.str z)).shown = reprText z from PyData.shown_str z] at f2 hz
            exact PySem.P.repr_of_str f2 hz
          | bl b =>
            cases x
            cases rv
            have f2 := fin s.heap s.toks (s.toks + 1) fun _ _ e => e
            rw [show (pd (.bl b)).shown = (if b then "True" else "False" : Str) from PyData.shown_bool b] at f2
            exact PySem.P.repr_of_bool f2
          | non =>
            cases x
            cases rv
            have f2 := fin s.heap s.toks (s.toks + 1) fun _ _ e => e
            rw [show (pd .non).shown = ("None" : Str) from PyData.shown_none] at f2
            exact PySem.P.repr_of_none f2
          | _ => exact absurd q.1 Bool.false_ne_true
    · exact p.elim
  · exact p.elim
end
/-- calls that give a new list -/
abbrev OL := List A → AH → Option (List A × AH)
def rOL (K : PySem.W.Frag) (f : OL) : List V → Hp → VK → Prop := fun xs H Q => ∃ m h as, Rel K m H h ∧ Reps K m H xs as ∧ PostLV K m H (f as h) Q
def lN (f : OL) (as : Ap) : Ap := fun ρ h => (as ρ h).bind fun xs h1 => Out.of (f xs h1)
section
variable {X : Cx} {W : WX} {e e1 : Expr} {pos : Pos}
theorem stepLN {K : PySem.W.Frag} {f : OL} {g : Ap} {σ : L2.St} {H : Hp} {Q : VK} (h : tL K W (lN f g) σ H Q) : tCB (rOL K f) (tA K W g) σ H Q := by
  obtain ⟨m, ρ, h, r, s, p⟩ := h
  exact ⟨m, ρ, h, r, s, (PostL.bind p).mono fun u H1 ⟨m1, h1, a, st1, r1, x1, p1⟩ => ⟨m1, h1, a, r1, x1, PostLV.of_.mp p1⟩⟩
theorem sl_callB {f : OL} {g : Ap} {id : String} {x : Str} {p : Pos} {es : List Expr} (hc : CallR X (.builtin id) (rOL X.K f)) (hg : Gl X x) (hm : X.mg x = none) (hv : bootBuiltins x = some (.builtin id)) (ha : PA X (e :: es) (tA X.K W g)) (hn : x ≠ "__name__" := by decide) (hdb : (x == ("__debug__" : Str)) = false := by decide)
    (he : starEach (e :: es) X.env = (false, eval e X.env) :: starEach es X.env := by rfl) (hpl : (backTo pos (starEach es X.env)).any (·.1) = false := by rfl) : PE X (.Call (.Name x p) (e :: es) [] pos) (tL X.K W (lN f g)) :=
  (pe_callB hc hg hm hv ha hn hdb he hpl).imp fun _ _ _ => stepLN
theorem sl_callT {f : OL} {g : Ap} {T : String} {x : Str} {p : Pos} {es : List Expr} (hc : CallR X (.type T) (rOL X.K f)) (hg : Gl X x) (hm : X.mg x = none) (hv : bootBuiltins x = some (.type T)) (ha : PA X (e :: es) (tA X.K W g)) (hn : x ≠ "__name__" := by decide) (hdb : (x == ("__debug__" : Str)) = false := by decide)
    (he : starEach (e :: es) X.env = (false, eval e X.env) :: starEach es X.env := by rfl) (hpl : (backTo pos (starEach es X.env)).any (·.1) = false := by rfl) : PE X (.Call (.Name x p) (e :: es) [] pos) (tL X.K W (lN f g)) :=
  (pe_callTy hc hg hm hv ha hn hdb he hpl).imp fun _ _ _ => stepLN
end
def oList : OL := fun xs h => match xs with
  | [a] => (match seqOf a h with
    | some ys => some (ys, h)
    | none => none)
  | _ => none
/-- sorted: of data of one kind -/
def aSort (xs : List A) : List A := xs.mergeSort (PySem.W.dataLe false pd)
def sortable (xs : List A) : Bool := (xs.all fun a => xs.all fun b => PySem.W.alike (pd a) (pd b)) && ((xs.all fun a => match a with
  | .tup (_ :: _) => true
  | _ => false) || xs.all fun a => match a with
  | .bl _ => true
  | .int _ => true
  | .str _ => true
  | .lst _ => true
  | _ => false)
def oSorted : OL := fun xs h => match xs with
  | [a] => (match lstOf a h with
    | some ys => if ys.all (dok 60) = true ∧ sortable ys = true then some (aSort ys, h) else none
    | none => none)
  | _ => none
section
variable {X : Cx} {K : PySem.W.Frag} {m : Mp} {H : Hp} {h : AH}
theorem so_list : CallR X (.type "list") (rOL X.K oList) := call_list_of.imp fun xs H Q ⟨m, h, as, r, ra, p⟩ => by
  unfold oList at p
  split at p
  · next a =>
    split at p
    · next ys q =>
      cases ra with
      | cons x t =>
        cases t
        obtain ⟨pp, vs, rfl, hq, hr⟩ := seq_rd r x q
        exact ⟨pp, vs, rfl, hq, fun l n => p.new r hr n⟩
    · exact p.elim
  · exact p.elim
theorem each_of {R : Value → A → Prop} : ∀ {vs : List V} {us : List Value} {xs : List A}, Vals vs us → Reps K m H vs xs → (∀ v u a, RelV v u → Rep K m H v a → a ∈ xs → R u a) → PySem.W.EachIs R us xs
  | _, _, _, .nil, .nil, _ => .nil
  | _, _, _, .cons q t, .cons x y, f => .cons (f _ _ _ q x (by simp)) (each_of t y fun v u a h1 h2 h3 => f v u a h1 h2 (by simp [h3]))
theorem each_reps {us : List Value} : ∀ {us : List Value} {xs : List A}, PySem.W.EachIs (fun u a => ∃ v, RelV v u ∧ Rep K m H v a) us xs → ∃ vs, Vals vs us ∧ Reps K m H vs xs
  | _, _, .nil => ⟨[], .nil, .nil⟩
  | _, _, .cons ⟨v, h1, h2⟩ t => by
    obtain ⟨vs, h3, h4⟩ := each_reps (us := []) t
    exact ⟨v :: vs, .cons h1 h3, .cons h2 h4⟩
theorem so_sorted (hu : X.A.units + 64 < cLine) : CallR X (.builtin "sorted") (rOL X.K oSorted) := fun pins s σ H xs us Q I ru ⟨m, h, as, r, ra, p⟩ => by
  unfold oSorted at p
  split at p
  · next a =>
    split at p
    · next ys q =>
      split at p
      · next hq =>
        cases ra with
        | cons x t =>
          cases t
          obtain ⟨pp, vs, rfl, hS, hr⟩ := lst_rd r x q
          cases ru with
          | cons rv rt =>
            cases rt
            cases rv
            obtain ⟨its, rvs, hl, hz⟩ := I.list hS
            have pl : ∀ a ∈ ys, dok 60 a = true := List.all_eq_true.mp hq.1
            have e1 : PySem.W.EachIs (fun u a => ∃ v, RelV v u ∧ Rep X.K m H v a) its ys := each_of rvs hr fun v u a h1 h2 _ => ⟨v, h1, h2⟩
            have e2 : PySem.W.EachIs (fun u a => ∃ as, Reads s.heap u (pd a) as) its ys := each_of rvs hr fun v u a h1 h2 h3 => Dp.reads I _ _ _ (dok_data 60 h2 (pl a h3)).1 h1
            have hs := hq.2
            unfold sortable at hs
            rw [Bool.and_eq_true] at hs
            have hal : PySem.W.AllAlike (ys.map pd) := by
              intro d hd d' hd'
              obtain ⟨a, ha, rfl⟩ := List.mem_map.mp hd
              obtain ⟨b, hb, rfl⟩ := List.mem_map.mp hd'
              exact List.all_eq_true.mp (List.all_eq_true.mp hs.1 a ha) b hb
            have hk : PySem.W.Sortable (ys.map pd) := by
              rcases Bool.or_eq_true_iff.mp hs.2 with z | z
              · refine .inl fun d hd => ?_
                obtain ⟨a, ha, rfl⟩ := List.mem_map.mp hd
                have za := List.all_eq_true.mp z a ha
                split at za
                · next b l => exact ⟨pd b, pds l, rfl⟩
                · cases za
              · refine .inr fun d hd => ?_
                obtain ⟨a, ha, rfl⟩ := List.mem_map.mp hd
                have za := List.all_eq_true.mp z a ha
                cases a with
                | bl b => exact ⟨fun e => (nomatch e), fun xs e => (nomatch e)⟩
                | int b => exact ⟨fun e => (nomatch e), fun xs e => (nomatch e)⟩
                | str b => exact ⟨fun e => (nomatch e), fun xs e => (nomatch e)⟩
                | lst b => exact ⟨fun e => (nomatch e), fun xs e => (nomatch e)⟩
                | _ => cases za
            have hn : ys.length ≤ sizeLine := by rw [← hr.length]; exact hz
            refine PySem.W.sorted_data hl.isList e1 e2 hal hk hn (fun b hb => ?_) fun out ho eo => ?_
            · obtain ⟨j, hj, ej⟩ := List.mem_iff_getElem.mp hb
              obtain ⟨u, _, hu2⟩ := hr.get (show ys[j]? = some b by rw [List.getElem?_eq_getElem hj, ej])
              have d3 := (dok_data 60 hu2 (pl b hb)).2.2
              omega
            · obtain ⟨ws, hv, hr2⟩ := each_reps (us := []) eo
              obtain ⟨ep, he'⟩ := PyProof.Rows.sortedAll_at s.heap its out.toArray
              have gone := p.new r hr2 (I.hok.fresh (a := s.heap.objs.size + 1) (Nat.le_succ _))
              have hlen : ws.length ≤ sizeLine := by rw [hv.length, ho]; exact hn
              exact ⟨.ref _, upd H (s.heap.objs.size + 1) (.lst ws), I.laid (t' := s.toks) (fun _ _ => PyProof.Rows.sortedAll_old) (Nat.le_succ _) ⟨hlen, out, ep, hv, he'⟩, rfl, gone⟩
      · exact p.elim
    · exact p.elim
  · exact p.elim
end
end Ab

namespace Ab
open PySem PySem.Spec PyProof.Rows L2

/-! ### slices -/
abbrev Pp := Env → AH → Out (Option Int)
def pNo : Pp := fun _ h => .ok none h
def pOf (e : Xp) : Pp := fun ρ h => (e ρ h).bind fun v h1 => match v with
  | .int i => .ok (some i) h1
  | _ => .bad
abbrev RP : Mp → Hp → Option Int → Option Int → Prop := fun _ _ a b => a = b
def tP (K : PySem.W.Frag) (W : WX) (f : Pp) : TO := fun σ H Q => ∃ m ρ h, Rel K m H h ∧ RSt K m H σ ρ ∧ Post K W σ m H RP (f ρ h) Q
def cutA (xs : List A) (lo hi : Option Int) : List A := (xs.drop (HT.sIx xs.length 0 lo)).take (HT.sIx xs.length xs.length hi - HT.sIx xs.length 0 lo)
/-- a slice of a text or a tuple -/
def oSl (a : A) (lo hi : Option Int) (h : AH) : Option (A × AH) := match a with
  | .str z => if sz z.length then some (.str (cutS z lo hi), h) else none
  | .tup xs => some (.tup (cutA xs lo hi), h)
  | a => (match lstOf a h with
    | some xs => some (.lst (cutA xs lo hi), h)
    | none => none)
def eSl (f : Xp) (lo hi : Pp) : Xp := fun ρ h => (f ρ h).bind fun a h1 => (lo ρ h1).bind fun l h2 => (hi ρ h2).bind fun u h3 => Out.of (oSl a l u h3)
/-- a slice of a list -/
def lSl (f : Xp) (lo hi : Pp) : Ap := fun ρ h => (f ρ h).bind fun a h1 => (lo ρ h1).bind fun l h2 => (hi ρ h2).bind fun u h3 => match lstOf a h3 with
  | some xs => .ok (cutA xs l u) h3
  | none => .bad
section
variable {X : Cx} {W : WX} {K : PySem.W.Frag} {m : Mp} {H : Hp} {h : AH} {e : Expr} {lo hi : Option Expr} {pos p2 : Pos}
theorem sp_no : PO X none (tP X.K W pNo) := ⟨fun pins s σ H Q I ⟨m, ρ, h, r, sr, p⟩ => po_none.run pins s σ H Q I (p m H _ Step.refl r rfl)⟩
theorem sp_of {f : Xp} (he : PE X e (tE X.K W f)) : PO X (some e) (tP X.K W (pOf f)) := ⟨fun pins s σ H Q I ⟨m, ρ, h, r, sr, p⟩ => (po_some he).run pins s σ H Q I ⟨m, ρ, h, r, sr, (Post.bind p).mono fun u H1 ⟨m1, h1, a, st1, r1, x1, p1⟩ => by
  cases a with
  | int i => cases x1; exact ⟨i, rfl, p1 m1 H1 _ Step.refl r1 rfl⟩
  | _ => exact p1.elim⟩⟩
theorem Reps.cut {vs : List V} {xs : List A} (r : Reps K m H vs xs) (lo hi : Option Int) : Reps K m H (cutV vs lo hi) (cutA xs lo hi) := by
  unfold cutV cutA
  rw [r.length]
  exact (r.drop _).take _
theorem cut_whole {xs : List A} {lo hi : Option Int} (h : HT.sIx xs.length 0 lo = 0 ∧ HT.sIx xs.length xs.length hi = xs.length) : cutA xs lo hi = xs := by
  unfold cutA
  rw [h.1, h.2]
  simp
theorem sOk_cut {z : Str} {lo hi : Option Int} (hz : sOk z = true) : sOk (cutS z lo hi) = true := by
  unfold sOk cutS at *
  refine List.all_eq_true.mpr fun c hc => ?_
  exact List.all_eq_true.mp hz c (List.mem_of_mem_drop (List.mem_of_mem_take hc))
theorem sd_slice {f : Xp} {l u : Pp} (he : PE X e (tE X.K W f)) (hl : PO X lo (tP X.K W l)) (hu : PO X hi (tP X.K W u)) : PE X (.Subscript e (.Slice lo hi none p2) pos) (tE X.K W (eSl f l u)) :=
  (pe_slice (sl_str.or (sl_tupA.or sl_list)) he hl hu).imp fun σ H Q ⟨m, ρ, h, r, s, p⟩ => by
    refine ⟨m, ρ, h, r, s, (Post.bind p).mono fun u H1 ⟨m1, h1, a, st1, r1, x1, p1⟩ => ?_⟩
    refine ⟨m1, ρ, h1, r1, s.step st1, (Post.bind p1).mono fun l H2 ⟨m2, h2, l2, st2, r2, x2, p2⟩ => ?_⟩
    refine ⟨m2, ρ, h2, r2, (s.step st1).step st2, (Post.bind p2).mono fun l3 H3 ⟨m3, h3, u3, st3, r3, x3, p3⟩ => ?_⟩
    cases x2; cases x3
    have xa := (x1.step st2).step st3
    have q := Post.of_.mp p3
    unfold oSl at q
    split at q
    · split at q
      · next hz =>
        cases xa with
        | str hs => exact .inl ⟨_, rfl, sz_line hz, q m3 H3 _ Step.refl r3 (.str (sOk_cut hs))⟩
      · exact q.elim
    · next xs =>
      obtain ⟨pp, vs, rfl, hq, hr⟩ := sqt_of xa
      refine .inr (.inl ⟨pp, vs, rfl, hq, fun w => ?_, fun w a n => ?_⟩)
      · rw [hr.length] at w
        rw [cut_whole w] at q
        exact q m3 H3 _ Step.refl r3 xa
      · obtain ⟨t1, t2, t3⟩ := push_tup r3 (hr.cut _ _) n
        exact q m3 _ _ t1 t2 t3
    · split at q
      · next xs ql =>
        obtain ⟨pp, vs, rfl, hq, hr⟩ := lst_rd r3 xa ql
        refine .inr (.inr ⟨pp, vs, rfl, hq, fun a n => ?_⟩)
        exact q m3 _ _ (Step.new r3 n) (r3.new n) (.lst (.inl upd_same) (r3.off n) ((hr.cut _ _).step (Step.new r3 n)))
      · exact q.elim
theorem sl_slice {f : Xp} {l u : Pp} (he : PE X e (tE X.K W f)) (hl : PO X lo (tP X.K W l)) (hu : PO X hi (tP X.K W u)) : PE X (.Subscript e (.Slice lo hi none p2) pos) (tL X.K W (lSl f l u)) :=
  (pe_slice sl_list he hl hu).imp fun σ H Q ⟨m, ρ, h, r, s, p⟩ => by
    refine ⟨m, ρ, h, r, s, (PostL.bind p).mono fun u H1 ⟨m1, h1, a, st1, r1, x1, p1⟩ => ?_⟩
    refine ⟨m1, ρ, h1, r1, s.step st1, (PostL.bind p1).mono fun l H2 ⟨m2, h2, l2, st2, r2, x2, p2⟩ => ?_⟩
    refine ⟨m2, ρ, h2, r2, (s.step st1).step st2, (PostL.bind p2).mono fun l3 H3 ⟨m3, h3, u3, st3, r3, x3, p3⟩ => ?_⟩
    cases x2; cases x3
    have xa := (x1.step st2).step st3
    split at p3
    · next xs q =>
      obtain ⟨pp, vs, rfl, hq, hr⟩ := lst_rd r3 xa q
      exact ⟨pp, vs, rfl, hq, fun a n => p3.new Step.refl r3 (hr.cut _ _) n⟩
    · exact p3.elim
end

/-! ### methods -/
def isLst (a : A) (h : AH) : Prop := (lstOf a h).isSome = true
def isStr (a : A) (_ : AH) : Prop := (match a with
  | .str _ => true
  | _ => false) = true
instance (a : A) (h : AH) : Decidable (isLst a h) := inferInstanceAs (Decidable (_ = true))
instance (a : A) (h : AH) : Decidable (isStr a h) := inferInstanceAs (Decidable (_ = true))
def oAppend : OM := fun o as h => match o, as with
  | .li l, [v] => (match h[l]? with
    | some (.lst xs) => if xs.length < 100000 then some (.non, h.set l (.lst (xs ++ [v]))) else none
    | _ => none)
  | _, _ => none
def oPop : OM := fun o as h => match o, as with
  | .li l, [] => (match h[l]? with
    | some (.lst xs) => (match xs[xs.length - 1]? with
      | some y => some (y, h.set l (.lst xs.dropLast))
      | none => none)
    | _ => none)
  | _, _ => none
noncomputable def oPopAt : OM := fun o as h => match o, as with
  | .li l, [.int i] => (match h[l]? with
    | some (.lst xs) => if Gd (-(2 ^ 63) ≤ i ∧ i < 2 ^ 63) then (match seqIndex? i xs.length with
      | some k => (match xs[k]? with
        | some y => some (y, h.set l (.lst (xs.eraseIdx k)))
        | none => none)
      | none => none) else none
    | _ => none)
  | _, _ => none
def oClear : OM := fun o as h => match o, as with
  | .li l, [] => (match h[l]? with
    | some (.lst _) => some (.non, h.set l (.lst []))
    | _ => none)
  | _, _ => none
/-- sep.join(texts) -/
def joinS (a : Str) (ys : List Str) : Str := ⟨(TL.joinL a.cps.toList (ys.map fun y => y.cps.toList)).toArray⟩
def oJoin : OM := fun o as h => match o, as with
  | .str z, [v] => (match seqOf v h with
    | some xs => (match strsOf xs with
      | some ys => if sz ((ys.map (·.length)).sum + ys.length * z.length) then some (.str (joinS z ys), h) else none
      | none => none)
    | none => none)
  | _, _ => none
section
variable {X : Cx} {K : PySem.W.Frag}
theorem ty_lst : TyOk K "list" isLst := fun m H h x a r ra q => by
  unfold isLst at q
  obtain ⟨xs, hx⟩ := Option.isSome_iff_exists.mp q
  obtain ⟨p, vs, rfl, hq, _⟩ := lst_rd r ra hx
  exact .inl ⟨rfl, vs, hq⟩
theorem ty_str : TyOk K "str" isStr := fun m H h x a r ra q => by
  cases a with
  | str s => cases ra; exact rfl
  | _ => cases q
theorem so_append : MtR X "list.append" (rOM X.K oAppend) := (show MtR X _ _ from mt_append).imp fun x xs H Q ⟨m, h, a, as, r, ra, rs, p⟩ => by
  unfold oAppend at p
  split at p
  · next l v =>
    split at p
    · next ys q =>
      split at p
      · next hz =>
        cases rs with
        | cons y t =>
          cases t
          obtain ⟨pp, vs, rfl, hm, hv, hr⟩ := cell_rd r ra q
          obtain ⟨t1, t2⟩ := put_cell (vs := vs) (xs := ys) r hm (hr.append (.cons y .nil))
          exact ⟨pp, vs, _, rfl, rfl, hv, by rw [hr.length]; exact Nat.lt_of_lt_of_le hz (by decide), p m _ _ t1 t2 .non⟩
      · exact p.elim
    · exact p.elim
  · exact p.elim
theorem so_pop : MtR X "list.pop" (rOM X.K oPop) := (show MtR X _ _ from mt_pop).imp fun x xs H Q ⟨m, h, a, as, r, ra, rs, p⟩ => by
  unfold oPop at p
  split at p
  · next l =>
    split at p
    · next ys q =>
      split at p
      · next y qy =>
        cases rs
        obtain ⟨pp, vs, rfl, hm, hv, hr⟩ := cell_rd r ra q
        obtain ⟨u, hu, xu⟩ := hr.get qy
        have hd : Reps X.K m H vs.dropLast ys.dropLast := by
          rw [List.dropLast_eq_take, List.dropLast_eq_take, hr.length]
          exact hr.take _
        obtain ⟨t1, t2⟩ := put_cell (vs := vs) (xs := ys) r hm hd
        exact ⟨pp, vs, u, rfl, rfl, hv, by rw [hr.length]; exact hu, p m _ _ t1 t2 (xu.step t1)⟩
      · exact p.elim
    · exact p.elim
  · exact p.elim
theorem so_popAt : MtR X "list.pop" (rOM X.K oPopAt) := (show MtR X _ _ from mt_popAt).imp fun x xs H Q ⟨m, h, a, as, r, ra, rs, p⟩ => by
  unfold oPopAt at p
  split at p
  · next l i =>
    split at p
    · next ys q =>
      split at p
      · next hi =>
        split at p
        · next k qk =>
          split at p
          · next y qy =>
            cases rs with
            | cons z t =>
              cases t; cases z
              obtain ⟨pp, vs, rfl, hm, hv, hr⟩ := cell_rd r ra q
              obtain ⟨u, hu, xu⟩ := hr.get qy
              obtain ⟨t1, t2⟩ := put_cell (vs := vs) (xs := ys) r hm (hr.erase k)
              exact ⟨pp, vs, i, k, u, rfl, rfl, hv, hi.1, hi.2, by rw [hr.length]; exact qk, hu, p m _ _ t1 t2 (xu.step t1)⟩
          · exact p.elim
        · exact p.elim
      · exact p.elim
    · exact p.elim
  · exact p.elim
theorem so_clear : MtR X "list.clear" (rOM X.K oClear) := (show MtR X _ _ from mt_clear).imp fun x xs H Q ⟨m, h, a, as, r, ra, rs, p⟩ => by
  unfold oClear at p
  split at p
  · next l =>
    split at p
    · next ys q =>
      cases rs
      obtain ⟨pp, vs, rfl, hm, hv, hr⟩ := cell_rd r ra q
      obtain ⟨t1, t2⟩ := put_cell (vs := vs) (xs := ys) r hm .nil
      exact ⟨pp, vs, rfl, rfl, hv, p m _ _ t1 t2 .non⟩
    · exact p.elim
  · exact p.elim
theorem joinS_eq (a : Str) (ys : List Str) : Txt.join a ys = joinS a ys := by
  rw [TL.join_eq]
  have e := TL.tl_join a ys
  show Str.join a ys = ⟨(TL.joinL (TL.tl a) (ys.map TL.tl)).toArray⟩
  rw [← e]
theorem all_joinL {p : Nat → Bool} {S : List Nat} (hS : S.all p = true) : ∀ {l : List (List Nat)}, (∀ x ∈ l, x.all p = true) → (TL.joinL S l).all p = true
  | [], _ => rfl
  | [x], h => h x (by simp)
  | x :: y :: r, h => by
    show (x ++ (S ++ TL.joinL S (y :: r))).all p = true
    rw [List.all_append, List.all_append, h x (by simp), hS, all_joinL hS fun z hz => h z (by simp [hz])]
    rfl
theorem sOk_join {a : Str} {ys : List Str} (ha : sOk a = true) (hy : ∀ y ∈ ys, sOk y = true) : sOk (joinS a ys) = true := by
  unfold sOk joinS
  refine all_joinL ha fun x hx => ?_
  obtain ⟨y, h1, rfl⟩ := List.mem_map.mp hx
  exact hy y h1
theorem so_join : MtR X "str.join" (rOM X.K oJoin) := mt_join.imp fun x xs H Q ⟨m, h, a, as, r, ra, rs, p⟩ => by
  unfold oJoin at p
  split at p
  · next z v =>
    split at p
    · next ys q =>
      split at p
      · next ss qs =>
        split at p
        · next hz =>
          cases rs with
          | cons y t =>
            cases t
            cases ra with
            | str hok =>
              obtain ⟨pp, vs, rfl, hq, hr⟩ := seq_rd r y q
              obtain ⟨e1, e2⟩ := hr.strs qs
              subst e1
              refine ⟨z, pp, ss, rfl, rfl, hq, Nat.le_trans hz (by decide), ?_⟩
              rw [joinS_eq]
              exact p m H _ Step.refl r (.str (sOk_join hok e2))
        · exact p.elim
      · exact p.elim
    · exact p.elim
  · exact p.elim
end
end Ab

namespace Ab
open PySem PySem.Spec PyProof.Rows L2

/-! ### within a comprehension -/
theorem Cg.blk {X : Cx} {W : WX} {k : Nat} (g : Cg X W k) {s : Shared} {H : Hp} {scope : Scope} {ce : PySem.Env} {fp : List Addr} : Cg (X.blk s H scope ce fp) WF k := by
  refine ⟨fun u s' x => ?_, g.gd, g.rm, PassesOwn.never⟩
  obtain ⟨_, _, _, _, _, _, _, _, _, _, _, _, _, _, _, _, z⟩ := x
  exact z.elim

/-! ### a def by its name -/
def Has (P : Program) (w : World) (K : PySem.W.Frag) (mg : Str → Option Value) (base : Heap) (k : Nat) (x : Str) (n : Nat) (f : Fn) (dvs : List V) : Prop :=
  ∃ (a : Addr) (fd : FuncData) (ps : List Str) (ds : List Value), mg x = some (.ref a) ∧ PySem.W.keepIn K (.ref a) = true ∧ FnG P w K mg base (L2.CX P w) k a fd ps (spF K n f) ∧ Binds K fd ps ds ∧ Vals dvs ds
section
variable {X : Cx} {W : WX} {j : Nat} {n : Nat} {fn : Fn} {as : Ap} {das : List A} {dvs : List V} {x : Str} {p pos : Pos} {e : Expr} {es : List Expr}
theorem sd_cl (k : Nat) (g : Cg X W j) (h : Has X.prog X.w X.K X.mg X.base k x n fn dvs) (hda : ∀ m H, Reps X.K m H dvs das) (ha : PA X (e :: es) (tA X.K W as)) (hk : k ≤ j := by omega) (hg : Gl X x := by rfl) (hdb : (x == ("__debug__" : Str)) = false := by decide)
    (he : starEach (e :: es) X.env = (false, eval e X.env) :: starEach es X.env := by rfl) (hpl : (backTo pos (starEach es X.env)).any (·.1) = false := by rfl) : PE X (.Call (.Name x p) (e :: es) [] pos) (tE X.K W (eF n fn as das)) := by
  obtain ⟨a, fd, ps, ds, h1, h2, h3, h4, h5⟩ := h
  exact sd_call (g.mono hk) h3 hg h1 h2 h4 h5 hda ha hdb he hpl
theorem sd_cl0 (k : Nat) (g : Cg X W j) (h : Has X.prog X.w X.K X.mg X.base k x n fn dvs) (hda : ∀ m H, Reps X.K m H dvs das) (hk : k ≤ j := by omega) (hg : Gl X x := by rfl) (hdb : (x == ("__debug__" : Str)) = false := by decide) :
    PE X (.Call (.Name x p) [] [] pos) (tE X.K W (eF n fn aNil das)) := by
  obtain ⟨a, fd, ps, ds, h1, h2, h3, h4, h5⟩ := h
  exact sd_call0 (g.mono hk) h3 hg h1 h2 h4 h5 hda hdb
theorem no_das {K : PySem.W.Frag} : ∀ m H, Reps K m H [] [] := fun _ _ => .nil
/-- a cell's list as a value from here on -/
def eFreeze (f : Xp) : Xp := fun ρ h => (f ρ h).bind fun v h1 => match v with
  | .li l => (match h1[l]? with
    | some (.lst xs) => .ok (.lst xs) (h1.set l .dead)
    | _ => .bad)
  | v => .ok v h1
theorem sd_freeze {f : Xp} (h : PE X e (tE X.K W f)) : PE X e (tE X.K W (eFreeze f)) := h.imp fun σ H Q ⟨m, ρ, h, r, s, p⟩ => by
  refine ⟨m, ρ, h, r, s, (Post.bind p).mono fun u H1 ⟨m1, h1, a, st1, r1, x1, p1⟩ => ?_⟩
  split at p1
  · next l =>
    split at p1
    · next xs q =>
      obtain ⟨pp, vs, rfl, hm, hv, hr⟩ := cell_rd r1 x1 q
      exact p1 (m1.kill l) H1 _ (Step.kill hm) (r1.kill hm) (.lst (.inl hv) (Off.kill r1 hm) (hr.step (Step.kill hm)))
    · exact p1.elim
  · exact p1 m1 H1 u Step.refl r1 x1
end

/-! ### walking whatever it is -/
def signs (z : Str) : List A := z.cps.toList.map fun c => .str ⟨#[c]⟩
noncomputable def iAny (f : Xp) : Ip := fun ρ h => (f ρ h).bind fun v h1 => match v with
  | .lst xs => .ok (xs, fun _ => True) h1
  | .li l => (match h1[l]? with
    | some (.lst xs) => .ok (xs, fun h => h[l]? = some (.lst xs)) h1
    | _ => .bad)
  | .tup xs => .ok (xs, fun _ => True) h1
  | .str z => .ok (signs z, fun _ => True) h1
  | _ => .bad
section
variable {X : Cx} {W : WX} {e target : Expr} {K : PySem.W.Frag} {m0 : Mp} {H0 : Hp}
def iStrA (f : Xp) : Ip := fun ρ h => (f ρ h).bind fun v h1 => match v with
  | .str z => .ok (signs z, fun _ => True) h1
  | _ => .bad
theorem walk_signs {z : Str} (hz : sOk z = true) : WalkA K m0 H0 (Its z) (signs z) (fun _ => True) := by
  have hl : (signs z).length = z.cps.size := by simp [signs]
  refine ⟨fun i m H h _ _ _ hi => by rw [hl] at hi; exact hi, fun m H h _ _ _ => by rw [hl]; exact Nat.le_refl _, fun i m H h x H' _ r _ hi y => ?_⟩
  obtain ⟨rfl, c, hc, rfl⟩ := y
  have hc' : z.cps.toList[i]? = some c := by rw [Array.getElem?_toList]; exact hc
  refine ⟨.str ⟨#[c]⟩, by simp only [signs, List.getElem?_map, hc', Option.map_some], Step.refl, r, .str ?_⟩
  unfold sOk at *
  simpa using List.all_eq_true.mp hz c (List.mem_of_getElem? hc')
theorem si_str {f : Xp} (h : PE X e (tE X.K W f)) : PI X target e (tI X.K W (iStrA f)) := (pi_str h).imp fun σ H R ⟨m, ρ, h, r, s, p⟩ => by
  refine ⟨m, ρ, h, r, s, (Post.bind p).mono fun u H1 ⟨m1, h1, a, st1, r1, x1, p1⟩ => ?_⟩
  cases a with
  | str z =>
    cases x1 with
    | str hz => exact ⟨z, rfl, p1 m1 H1 _ Step.refl r1 (walk_signs hz)⟩
  | _ => exact p1.elim
theorem si_any {f : Xp} (he : PE X e (tE X.K W f)) : PI X target e (tI X.K W (iAny f)) := by
  constructor
  intro pins s σ H R I z
  obtain ⟨m, ρ, h, r, sr, p⟩ := z
  cases q : f ρ h with
  | ok v h1 =>
    have p' : Post X.K W σ m H (RI X.K) ((Out.ok v h1).bind fun v h1 => match v with
      | .lst xs => .ok (xs, fun _ => True) h1
      | .li l => (match h1[l]? with
        | some (.lst xs) => .ok (xs, fun h => h[l]? = some (.lst xs)) h1
        | _ => .bad)
      | .tup xs => .ok (xs, fun _ => True) h1
      | .str z => .ok (signs z, fun _ => True) h1
      | _ => .bad) R := by rw [← q]; exact p
    rw [Out.bind_ok] at p'
    cases v with
    | lst xs => exact (si_list he).run pins s σ H R I ⟨m, ρ, h, r, sr, by unfold iSeq; rw [q]; exact p'⟩
    | li l => exact (si_list he).run pins s σ H R I ⟨m, ρ, h, r, sr, by unfold iSeq; rw [q]; exact p'⟩
    | tup xs => exact (si_tup he).run pins s σ H R I ⟨m, ρ, h, r, sr, by unfold iTup; rw [q]; exact p'⟩
    | str z => exact (si_str he).run pins s σ H R I ⟨m, ρ, h, r, sr, by unfold iStrA; rw [q]; exact p'⟩
    | _ => exact p'.elim
  | exc c fs h1 =>
    refine (si_list he).run pins s σ H R I ⟨m, ρ, h, r, sr, ?_⟩
    unfold iAny at p
    unfold iSeq
    rw [q] at p ⊢
    exact p
  | bad =>
    unfold iAny at p
    rw [q] at p
    exact p.elim
end

/-! ### ends -/
theorem FnG.none {P : Program} {w : World} {K : PySem.W.Frag} {mg : Str → Option Value} {base : Heap} {CX : CXT} {k n : Nat} {f : Addr} {fd : FuncData} {ps : List Str} (hn : n = ps.length) : FnG P w K mg base CX k f fd ps (spF K n fun _ _ => .bad) :=
  ⟨fun vs H Q E z => z.1.trans hn, fun A outer s H args us vs Q E _ _ _ _ _ z => by
    obtain ⟨_, _, _, _, _, _, no⟩ := z
    exact no.elim⟩
theorem Rel.empty {K : PySem.W.Frag} {H : Hp} : Rel K ⟨[], []⟩ H [] := ⟨rfl, fun i j a e => by simp at e, fun i a e => by simp at e, fun i e => by simp at e, fun d hd => absurd hd List.not_mem_nil⟩
theorem script_rep {K : PySem.W.Frag} {H : Hp} {a : Addr} {ns : List Int} (h : SqL K H a (ns.map V.int)) : Rep K ⟨[], []⟩ H (.ref a) (.lst (ns.map A.int)) := by
  have r : Reps K ⟨[], []⟩ H (ns.map V.int) (ns.map A.int) := reps_map fun x _ => .int
  have off : Off ⟨[], []⟩ a := ⟨fun i e => by simp at e, List.not_mem_nil⟩
  rcases h with h | h
  · exact .lst h off r
  · exact .lstK h r
theorem law_end {P : Program} {w : World} {K : PySem.W.Frag} {h : Heap} {mg : Str → Option Value} {k : Nat} {fa : Addr} {f : Fn} (KX : K.In h) (true_ : ∀ ns : List Int, ns.length ≤ 63 → ∃ h', f [.lst (ns.map .int)] [] = .ok (.bl true) h')
    (F : ∃ (a : Addr) (fd : FuncData), mg "law" = some (.ref a) ∧ (∀ (s : Shared) (u : Value), BindsTo s fd ⟨[u], []⟩ [("script", u)]) ∧ ∀ base : Heap, FnG P w K mg base (L2.CX P w) k a fd ["script"] (spF K 1 f)) (hmg : mg "law" = some (.ref fa)) :
    ∃ (K : PySem.W.Frag) (fd : FuncData) (sp : Sp), K.In h ∧ (∀ (s : Shared) (u : Value), BindsTo s fd ⟨[u], []⟩ [("script", u)]) ∧
        (∀ (H : Hp) (a : Addr) (ns : List Int), ns.length ≤ 63 → Only H → SqL K H a (ns.map V.int) → sp [.ref a] H (fun v _ => v = .bl true) fun _ _ _ => False) ∧
        ∀ base : Heap, K.In base → base.Ns mainGlobals mg → FnG P w K mg base (L2.CX P w) k fa fd ["script"] sp := by
  obtain ⟨a, fd, e, hb, hF⟩ := F
  rw [e] at hmg
  cases hmg
  refine ⟨K, fd, spF K 1 f, KX, hb, fun H b ns hl _ hS => ⟨rfl, ⟨[], []⟩, [], [.lst (ns.map .int)], Rel.empty, .cons (script_rep hS) .nil, ?_⟩, fun base _ _ => hF base⟩
  obtain ⟨h', e⟩ := true_ ns hl
  rw [e]
  intro m' H' u _ _ x
  cases x
  rfl
end Ab

namespace Ab
open PySem PySem.Spec PyProof.Rows L2

/-! ### how the pieces run: rows for simp -/
section
variable {ρ : Env} {h h' : AH} {i : Nat} {v : A}
@[simp] theorem eVar_run : eVar i ρ h = match ρ[i]? with
  | some (some v) => .ok v h
  | _ => .bad := rfl
@[simp] theorem eC_run : eC v ρ h = .ok v h := rfl
@[simp] theorem eB_run {f : O2} {a b : Xp} : eB f a b ρ h = (a ρ h).bind fun x h1 => (b ρ h1).bind fun y h2 => Out.of (f x y h2) := rfl
@[simp] theorem eU_run {f : O1} {a : Xp} : eU f a ρ h = (a ρ h).bind fun x h1 => Out.of (f x h1) := rfl
@[simp] theorem eN_run {f : ON} {g : Ap} : eN f g ρ h = (g ρ h).bind fun xs h1 => Out.of (f xs h1) := rfl
@[simp] theorem lN_run {f : OL} {g : Ap} : lN f g ρ h = (g ρ h).bind fun xs h1 => Out.of (f xs h1) := rfl
@[simp] theorem aNil_run : aNil ρ h = .ok [] h := rfl
@[simp] theorem aCons_run {a : Xp} {r : Ap} : aCons a r ρ h = (a ρ h).bind fun x h1 => (r ρ h1).bind fun xs h2 => .ok (x :: xs) h2 := rfl
@[simp] theorem eTup_run {g : Ap} : eTup g ρ h = (g ρ h).bind fun xs h1 => if xs.length ≤ 100000 then .ok (.tup xs) h1 else .bad := rfl
@[simp] theorem lDisp_run {g : Ap} : lDisp g ρ h = (g ρ h).bind fun xs h1 => if xs.length ≤ 100000 then .ok xs h1 else .bad := rfl
@[simp] theorem eFz_run {g : Ap} : eFz g ρ h = (g ρ h).bind fun xs h1 => .ok (.lst xs) h1 := rfl
@[simp] theorem eNw_run {g : Ap} : eNw g ρ h = (g ρ h).bind fun xs h1 => .ok (.li h1.length) (h1 ++ [.lst xs]) := rfl
@[simp] theorem eF_run {n : Nat} {f : Fn} {g : Ap} {das : List A} : eF n f g das ρ h = (g ρ h).bind fun xs h1 => if (xs ++ das).length = n then f (xs ++ das) h1 else .bad := rfl
@[simp] theorem eM_run {ty : A → AH → Prop} [∀ a h, Decidable (ty a h)] {f : OM} {o : Xp} {as : Ap} : eM ty f o as ρ h = (o ρ h).bind fun x h1 => if ty x h1 then (as ρ h1).bind fun xs h2 => Out.of (f x xs h2) else .bad := rfl
@[simp] theorem eIf_run {t : Tp} {a b : Xp} : eIf t a b ρ h = (t ρ h).bind fun c h1 => if c = true then a ρ h1 else b ρ h1 := rfl
@[simp] theorem tB_run {e : Xp} : tB_ e ρ h = (e ρ h).bind fun v h1 => match v with
  | .bl b => .ok b h1
  | _ => .bad := rfl
@[simp] theorem tAnd_run {a b : Tp} : tAnd_ a b ρ h = (a ρ h).bind fun c h1 => if c = true then b ρ h1 else .ok false h1 := rfl
@[simp] theorem tOr_run {a b : Tp} : tOr_ a b ρ h = (a ρ h).bind fun c h1 => if c = true then .ok true h1 else b ρ h1 := rfl
@[simp] theorem tNot_run {a : Tp} : tNot_ a ρ h = (a ρ h).bind fun c h1 => .ok (!c) h1 := rfl
@[simp] theorem eAnd_run {a b : Xp} : eAnd a b ρ h = (a ρ h).bind fun v h1 => match v with
  | .bl c => if c = true then b ρ h1 else .ok (.bl false) h1
  | _ => .bad := rfl
@[simp] theorem eOr_run {a b : Xp} : eOr a b ρ h = (a ρ h).bind fun v h1 => match v with
  | .bl c => if c = true then .ok (.bl true) h1 else b ρ h1
  | _ => .bad := rfl
@[simp] theorem eNot_run {a : Xp} : eNot a ρ h = (a ρ h).bind fun v h1 => match v with
  | .bl c => .ok (.bl (!c)) h1
  | _ => .bad := rfl
@[simp] theorem pNo_run : pNo ρ h = .ok none h := rfl
@[simp] theorem pOf_run {e : Xp} : pOf e ρ h = (e ρ h).bind fun v h1 => match v with
  | .int i => .ok (some i) h1
  | _ => .bad := rfl
@[simp] theorem eSl_run {f : Xp} {lo hi : Pp} : eSl f lo hi ρ h = (f ρ h).bind fun a h1 => (lo ρ h1).bind fun l h2 => (hi ρ h2).bind fun u h3 => Out.of (oSl a l u h3) := rfl
@[simp] theorem eFreeze_run {f : Xp} : eFreeze f ρ h = (f ρ h).bind fun v h1 => match v with
  | .li l => (match h1[l]? with
    | some (.lst xs) => .ok (.lst xs) (h1.set l .dead)
    | _ => .bad)
  | v => .ok v h1 := rfl
@[simp] theorem sNil_run : sNil ρ h = .nx ρ h := rfl
@[simp] theorem sSeq_run {a b : Sm} : sSeq a b ρ h = (a ρ h).seq b := rfl
@[simp] theorem sSet_run {f : Xp} : sSet i f ρ h = (f ρ h).fl ρ fun v h1 => .nx (ρ.set i (some v)) h1 := rfl
@[simp] theorem sSetL_t {f : Ap} : sSetL true i f ρ h = (f ρ h).fl ρ fun xs h1 => .nx (ρ.set i (some (.li h1.length))) (h1 ++ [.lst xs]) := by
  show ((eNw f ρ h).fl ρ _) = _
  unfold eNw
  cases f ρ h <;> rfl
@[simp] theorem sSetL_f {f : Ap} : sSetL false i f ρ h = (f ρ h).fl ρ fun xs h1 => .nx (ρ.set i (some (.lst xs))) h1 := by
  show ((eFz f ρ h).fl ρ _) = _
  unfold eFz
  cases f ρ h <;> rfl
@[simp] theorem sAsg_run {g : Tg} {f : Xp} : sAsg g f ρ h = (f ρ h).fl ρ fun v h1 => match g v ρ with
  | some ρ1 => .nx ρ1 h1
  | none => .bad := rfl
@[simp] theorem sRet_run {f : Xp} : sRet f ρ h = (f ρ h).fl ρ fun v h1 => .rt v h1 := rfl
@[simp] theorem sRetN_run : sRetN ρ h = .rt .non h := rfl
@[simp] theorem sExpr_run {f : Xp} : sExpr f ρ h = (f ρ h).fl ρ fun _ h1 => .nx ρ h1 := rfl
@[simp] theorem sIf_run {t : Tp} {a b : Sm} : sIf t a b ρ h = (t ρ h).fl ρ fun c h1 => if c = true then a ρ h1 else b ρ h1 := rfl
@[simp] theorem sPut_run {f : O3} {o i v : Xp} : sPut f o i v ρ h = (v ρ h).fl ρ fun c h1 => (o ρ h1).fl ρ fun a h2 => (i ρ h2).fl ρ fun b h3 => match f a b c h3 with
  | some h4 => .nx ρ h4
  | none => .bad := rfl
@[simp] theorem sAug_run {f : O2} {g : Xp} : sAug i f g ρ h = (eVar i ρ h).fl ρ fun x h1 => (g ρ h1).fl ρ fun y h2 => (Out.of (f x y h2)).fl ρ fun z h3 => .nx (ρ.set i (some z)) h3 := rfl
@[simp] theorem sBreak_run : sBreak ρ h = .bk ρ h := rfl
@[simp] theorem sCont_run : sCont ρ h = .ct ρ h := rfl
@[simp] theorem sPass_run : sPass ρ h = .nx ρ h := rfl
@[simp] theorem sFor_run {it : Ip} {g : Tg} {b : Sm} : sFor it g b ρ h = (it ρ h).fl ρ fun p h1 => forL p.2 g b p.1 ρ h1 := rfl
@[simp] theorem tgN_run {a : A} : tgN i a ρ = some (ρ.set i (some a)) := rfl
@[simp] theorem tgT_run {ts : List Tg} {xs : List A} : tgT ts (.tup xs) ρ = tgAll ts xs ρ := rfl
@[simp] theorem tgAll_nil : tgAll [] [] ρ = some ρ := rfl
@[simp] theorem tgAll_cons {t : Tg} {ts : List Tg} {a : A} {as : List A} : tgAll (t :: ts) (a :: as) ρ = (t a ρ).bind fun ρ1 => tgAll ts as ρ1 := rfl
@[simp] theorem iR1_run {g : Ap} : iR1 g ρ h = (g ρ h).bind fun xs h1 => match xs with
  | [.int j] => if Gd (-(2 ^ 62) ≤ j ∧ j < 2 ^ 62) then .ok (rangeA 0 j.toNat, (fun _ => True : AH → Prop)) h1 else .bad
  | _ => .bad := rfl
@[simp] theorem iR2_run {g : Ap} : iR2 g ρ h = (g ρ h).bind fun xs h1 => match xs with
  | [.int i, .int j] => if Gd (-(2 ^ 62) ≤ i ∧ i < 2 ^ 62 ∧ -(2 ^ 62) ≤ j ∧ j < 2 ^ 62) then .ok (rangeA i (j - i).toNat, (fun _ => True : AH → Prop)) h1 else .bad
  | _ => .bad := rfl
@[simp] theorem iAny_run {f : Xp} : iAny f ρ h = (f ρ h).bind fun v h1 => match v with
  | .lst xs => .ok (xs, (fun _ => True : AH → Prop)) h1
  | .li l => (match h1[l]? with
    | some (.lst xs) => .ok (xs, (fun h => h[l]? = some (.lst xs) : AH → Prop)) h1
    | _ => .bad)
  | .tup xs => .ok (xs, (fun _ => True : AH → Prop)) h1
  | .str z => .ok (signs z, (fun _ => True : AH → Prop)) h1
  | _ => .bad := rfl
@[simp] theorem lcA_run {it : Ip} {g : Tg} {t : Tp} {f : Xp} {vs : List Nat} : lcA it g t f vs ρ h = (it ρ h).bind fun p h1 => compL p.2 g t f (wipeA ρ vs) p.1 h1 [] := rfl
@[simp] theorem wipeA_nil : wipeA ρ [] = ρ := rfl
@[simp] theorem wipeA_cons {v : Nat} {vs : List Nat} : wipeA ρ (v :: vs) = (wipeA ρ vs).set v none := rfl
@[simp] theorem tYesA_run : tYesA ρ h = .ok true h := rfl
end
/-! ### operations -/
section
variable {h : AH} {i j : Int} {s t : Str} {b c : Bool} {xs ys : List A} {l : Nat} {a v : A}
@[simp] theorem oAdd_ii : oAdd (.int i) (.int j) h = some (.int (i + j), h) := rfl
@[simp] theorem oAdd_ss : oAdd (.str s) (.str t) h = if sz (s.length + t.length) then some (.str (s ++ t), h) else none := rfl
@[simp] theorem oAdd_tt : oAdd (.tup xs) (.tup ys) h = if sz (xs.length + ys.length) then some (.tup (xs ++ ys), h) else none := rfl
@[simp] theorem oSub_ii : oSub (.int i) (.int j) h = some (.int (i - j), h) := rfl
theorem oMul_ii : oMul (.int i) (.int j) h = if Gd ((-(2 ^ 64) < i ∧ i < 2 ^ 64) ∨ (-(2 ^ 64) < j ∧ j < 2 ^ 64)) then some (.int (i * j), h) else none := rfl
@[simp] theorem oMul_r (q : -(2 ^ 64) < j ∧ j < 2 ^ 64) : oMul (.int i) (.int j) h = some (.int (i * j), h) := if_pos (.inr q)
theorem oMul_l (q : -(2 ^ 64) < i ∧ i < 2 ^ 64) : oMul (.int i) (.int j) h = some (.int (i * j), h) := if_pos (.inl q)
@[simp] theorem oMul_mod {m x : Int} (q : 0 < m ∧ m < 2 ^ 64) : oMul (.int (x % m)) (.int j) h = some (.int (x % m * j), h) := if_pos (.inl (by
  have h1 := Int.emod_nonneg x (show m ≠ 0 by omega)
  have h2 := Int.emod_lt_of_pos x q.1
  omega))
@[simp] theorem oMul_ti (q : -1000 ≤ i ∧ i ≤ 1000 ∧ xs.length ≤ 1000) : oMul (.tup xs) (.int i) h = some (.tup (List.replicate i.toNat xs).flatten, h) := if_pos q
@[simp] theorem oMod_ii (q : 0 < j) : oMod (.int i) (.int j) h = some (.int (i % j), h) := if_pos q
@[simp] theorem oDiv_ii (q : 0 < j ∧ j < 1073741824) : oDiv (.int i) (.int j) h = some (.int (i / j), h) := if_pos q
@[simp] theorem oPow_ii (q : 0 ≤ j ∧ j ≤ 1000000 ∧ i.natAbs < 2 ^ 64) : oPow (.int i) (.int j) h = some (.int (i ^ j.toNat), h) := if_pos q
@[simp] theorem oNeg_i : oNeg (.int i) h = some (.int (-i), h) := rfl
@[simp] theorem oLt_ii : oLt (.int i) (.int j) h = some (.bl (decide (i < j)), h) := rfl
@[simp] theorem oLe_ii : oLe (.int i) (.int j) h = some (.bl (decide (i ≤ j)), h) := rfl
@[simp] theorem oGt_ii : oGt (.int i) (.int j) h = some (.bl (decide (j < i)), h) := rfl
@[simp] theorem oGe_ii : oGe (.int i) (.int j) h = some (.bl (decide (j ≤ i)), h) := rfl
@[simp] theorem oLt_ss : oLt (.str s) (.str t) h = some (.bl (decide (s.cps.toList < t.cps.toList)), h) := rfl
@[simp] theorem oEq_ii : oEq (.int i) (.int j) h = some (.bl (decide (i = j)), h) := by
  simp [oEq, dok, thaw, aEq, pd, PyData.eqv]
  by_cases q : i = j <;> simp [q]
@[simp] theorem oEq_ss : oEq (.str s) (.str t) h = some (.bl (decide (s = t)), h) := by
  simp [oEq, dok, thaw, aEq, pd, PyData.eqv]
  by_cases q : s = t <;> simp [q]
@[simp] theorem oNe_ii : oNe (.int i) (.int j) h = some (.bl (!decide (i = j)), h) := by
  simp [oNe, dok, thaw, aEq, pd, PyData.eqv]
  by_cases q : i = j <;> simp [q]
@[simp] theorem oNe_ss : oNe (.str s) (.str t) h = some (.bl (!decide (s = t)), h) := by
  simp [oNe, dok, thaw, aEq, pd, PyData.eqv]
  by_cases q : s = t <;> simp [q]
@[simp] theorem oEq_xx : oEq (.txt s) (.txt t) h = some (.bl (decide (s = t)), h) := rfl
theorem cutA_take (k : Nat) : cutA xs none (some (k : Int)) = xs.take k := by
  unfold cutA
  rw [HT.sIx_none, HT.sIx_nat]
  simp only [Nat.sub_zero, List.drop_zero]
  by_cases q : k ≤ xs.length
  · rw [Nat.min_eq_left q]
  · rw [Nat.min_eq_right (by omega), List.take_of_length_le (Nat.le_refl _), List.take_of_length_le (by omega)]
theorem cutA_drop (k : Nat) : cutA xs (some (k : Int)) none = xs.drop k := by
  unfold cutA
  rw [HT.sIx_none, HT.sIx_nat]
  by_cases q : k ≤ xs.length
  · rw [Nat.min_eq_left q, List.take_of_length_le (by simp)]
  · rw [Nat.min_eq_right (by omega)]
    simp [List.drop_of_length_le (show xs.length ≤ k by omega)]
@[simp] theorem oInt_i : oInt [.int i] h = some (.int i, h) := rfl
@[simp] theorem oInt_b : oInt [.bl b] h = some (.int (if b then 1 else 0), h) := rfl
@[simp] theorem oMax2_ii : oMax2 [.int i, .int j] h = some (.int (if j > i then j else i), h) := rfl
@[simp] theorem oMin2_ii : oMin2 [.int i, .int j] h = some (.int (if j < i then j else i), h) := rfl
@[simp] theorem oLen_s : oLen [.str s] h = if sz s.length then some (.int s.length, h) else none := rfl
@[simp] theorem oLen_t : oLen [.tup xs] h = some (.int xs.length, h) := rfl
@[simp] theorem oLen_l : oLen [.lst xs] h = some (.int xs.length, h) := rfl
@[simp] theorem oLen_c (q : h[l]? = some (.lst xs)) : oLen [.li l] h = some (.int xs.length, h) := by simp [oLen, seqOf, lstOf, q]
@[simp] theorem oTuple_t : oTuple [.tup xs] h = some (.tup xs, h) := rfl
@[simp] theorem oTuple_l : oTuple [.lst xs] h = some (.tup xs, h) := rfl
@[simp] theorem oTuple_c (q : h[l]? = some (.lst xs)) : oTuple [.li l] h = some (.tup xs, h) := by simp [oTuple, seqOf, lstOf, q]
@[simp] theorem oList_t : oList [.tup xs] h = some (xs, h) := rfl
@[simp] theorem oList_l : oList [.lst xs] h = some (xs, h) := rfl
@[simp] theorem oList_c (q : h[l]? = some (.lst xs)) : oList [.li l] h = some (xs, h) := by simp [oList, seqOf, lstOf, q]
theorem oIx_t (q : atI xs i = some v) : oIx (.tup xs) (.int i) h = some (v, h) := by simp [oIx, seqOf, q]
theorem oIx_l (q : atI xs i = some v) : oIx (.lst xs) (.int i) h = some (v, h) := by simp [oIx, seqOf, lstOf, q]
theorem oIx_c (q : h[l]? = some (.lst xs)) (q2 : atI xs i = some v) : oIx (.li l) (.int i) h = some (v, h) := by simp [oIx, seqOf, lstOf, q, q2]
theorem oPut_c {j : Nat} (q : h[l]? = some (.lst xs)) (q2 : ixN xs.length i = some j) : oPut (.li l) (.int i) v h = some (h.set l (.lst (xs.set j v))) := by simp [oPut, q, q2]
theorem oAppend_c (q : h[l]? = some (.lst xs)) (q2 : xs.length < 100000) : oAppend (.li l) [v] h = some (.non, h.set l (.lst (xs ++ [v]))) := by simp [oAppend, q, q2]
@[simp] theorem isLst_l : isLst (.lst xs) h := rfl
theorem isLst_c (q : h[l]? = some (.lst xs)) : isLst (.li l) h := by simp [isLst, lstOf, q]
@[simp] theorem isStr_s : isStr (.str s) h := rfl
@[simp] theorem oIx_li : oIx (.li l) (.int i) h = match h[l]? with
  | some (.lst xs) => (match atI xs i with
    | some v => some (v, h)
    | none => none)
  | _ => none := by
  show (match seqOf (.li l) h with
    | some xs => (match atI xs i with
      | some v => some (v, h)
      | none => none)
    | none => none) = _
  cases q : h[l]? with
  | none => simp [seqOf, lstOf, q]
  | some c => cases c <;> simp [seqOf, lstOf, q]
@[simp] theorem oIx_tup : oIx (.tup xs) (.int i) h = match atI xs i with
  | some v => some (v, h)
  | none => none := rfl
@[simp] theorem oIx_lst : oIx (.lst xs) (.int i) h = match atI xs i with
  | some v => some (v, h)
  | none => none := rfl
@[simp] theorem oIx_str : oIx (.str s) (.int i) h = if sz s.length then (match atI s.cps.toList i with
    | some c => some (.str ⟨#[c]⟩, h)
    | none => none) else none := rfl
@[simp] theorem oPut_li : oPut (.li l) (.int i) v h = match h[l]? with
  | some (.lst xs) => (match ixN xs.length i with
    | some j => some (h.set l (.lst (xs.set j v)))
    | none => none)
  | _ => none := rfl
@[simp] theorem oLen_li : oLen [.li l] h = match h[l]? with
  | some (.lst xs) => some (.int xs.length, h)
  | _ => none := by
  show (match seqOf (.li l) h with
    | some ys => some (A.int ys.length, h)
    | none => none) = _
  cases q : h[l]? with
  | none => simp [seqOf, lstOf, q]
  | some c => cases c <;> simp [seqOf, lstOf, q]
@[simp] theorem oAppend_li : oAppend (.li l) [v] h = match h[l]? with
  | some (.lst xs) => if xs.length < 100000 then some (.non, h.set l (.lst (xs ++ [v]))) else none
  | _ => none := rfl
theorem oPopAt_li : oPopAt (.li l) [.int i] h = match h[l]? with
  | some (.lst xs) => if Gd (-(2 ^ 63) ≤ i ∧ i < 2 ^ 63) then (match seqIndex? i xs.length with
      | some k => (match xs[k]? with
        | some y => some (y, h.set l (.lst (xs.eraseIdx k)))
        | none => none)
      | none => none) else none
  | _ => none := rfl
/-- an index that is written, of a list that is written out -/
@[simp] theorem atI_0 {x : A} : atI (x :: xs) 0 = some x := atI_nat (j := 0) rfl
@[simp] theorem atI_1 {x y : A} : atI (x :: y :: xs) 1 = some y := atI_nat (j := 1) rfl
@[simp] theorem atI_2 {x y z : A} : atI (x :: y :: z :: xs) 2 = some z := atI_nat (j := 2) rfl
@[simp] theorem atI_3 {x y z w : A} : atI (x :: y :: z :: w :: xs) 3 = some w := atI_nat (j := 3) rfl
@[simp] theorem atI_4 {x y z w u : A} : atI (x :: y :: z :: w :: u :: xs) 4 = some u := atI_nat (j := 4) rfl
@[simp] theorem atI_5 {x y z w u o : A} : atI (x :: y :: z :: w :: u :: o :: xs) 5 = some o := atI_nat (j := 5) rfl
theorem atI_of {i : Nat} (hi : i < xs.length) : atI xs (i : Int) = some xs[i] := atI_nat (List.getElem?_eq_getElem hi)
end
theorem isLst_li {l : Nat} {h : AH} : isLst (.li l) h ↔ ∃ xs, h[l]? = some (.lst xs) := by
  cases q : h[l]? with
  | none => simp [isLst, lstOf, q]
  | some c => cases c <;> simp [isLst, lstOf, q]
/-! ### the law's store of draws -/
def stc (cells : List Int) (i l t n tot : Int) : Cell := .lst [.lst (cells.map .int), .int i, .int l, .int t, .int n, .int tot]
def Stored (h : AH) (s : Nat) : Prop := ∃ cells i l t n tot, h[s]? = some (stc cells i l t n tot) ∧ 0 ≤ i
/-- the store has turned, all else stands -/
structure Kp (s : Nat) (h h' : AH) : Prop where
  st : Stored h' s
  len : h.length ≤ h'.length
  at_ : ∀ (l : Nat) (c : Cell), l ≠ s → h[l]? = some c → h'[l]? = some c
theorem Kp.refl {s : Nat} {h : AH} (z : Stored h s) : Kp s h h := ⟨z, Nat.le_refl _, fun _ _ _ e => e⟩
theorem Kp.trans {s : Nat} {h h1 h2 : AH} (a : Kp s h h1) (b : Kp s h1 h2) : Kp s h h2 := ⟨b.st, Nat.le_trans a.len b.len, fun l c n e => b.at_ l c n (a.at_ l c n e)⟩
theorem Stored.lt {h : AH} {s : Nat} (z : Stored h s) : s < h.length := by
  obtain ⟨_, _, _, _, _, _, e, _⟩ := z
  exact (List.getElem?_eq_some_iff.mp e).1
theorem Kp.put {s : Nat} {h : AH} {c0 : Cell} {cells : List Int} {i l t n tot : Int} (e : h[s]? = some c0) (hi : 0 ≤ i) : Kp s h (h.set s (stc cells i l t n tot)) :=
  ⟨⟨cells, i, l, t, n, tot, List.getElem?_set_self (List.getElem?_eq_some_iff.mp e).1, hi⟩, by simp, fun l c hn q => by rw [List.getElem?_set_ne hn.symm]; exact q⟩
/-- a new cell beside the store -/
theorem Kp.new {s : Nat} {h : AH} {c : Cell} (z : Stored h s) : Kp s h (h ++ [c]) := by
  refine ⟨?_, by simp, fun l c _ e => ?_⟩
  · obtain ⟨a, b, c, d, e, f, g, k⟩ := z
    exact ⟨a, b, c, d, e, f, by rw [List.getElem?_append_left (List.getElem?_eq_some_iff.mp g).1]; exact g, k⟩
  · rw [List.getElem?_append_left (List.getElem?_eq_some_iff.mp e).1]; exact e
/-- a store into another cell -/
theorem Kp.other {s l : Nat} {h : AH} {c : Cell} (z : Stored h s) (hn : l ≠ s) : Stored (h.set l c) s := by
  obtain ⟨a, b, c, d, e, f, g, k⟩ := z
  exact ⟨a, b, c, d, e, f, by rw [List.getElem?_set_ne hn]; exact g, k⟩
/-- a def's run -/
theorem runS_run {n : Nat} {b : Sm} {as : List A} {h : AH} : runS n b as h = match b (as.map some ++ List.replicate (n - as.length) none) h with
  | .nx _ h' => .ok .non h'
  | .rt v h' => .ok v h'
  | .exc c fs _ h' => .exc c fs h'
  | _ => .bad := rfl
end Ab

namespace Ab
open PySem PySem.Spec PyProof.Rows L2

/-! ### loops -/
/-- every turn goes on: an invariant by the turn -/
theorem forL_all {chk : AH → Prop} {g : Tg} {b : Sm} {xs : List A} (P : Nat → Env → AH → Prop) {ρ : Env} {h : AH} (h0 : P 0 ρ h) (hc : ∀ i ρ h, P i ρ h → chk h)
    (ht : ∀ i ρ h (hi : i < xs.length), P i ρ h → ∃ ρ1, g xs[i] ρ = some ρ1 ∧ ∃ ρ2 h2, (b ρ1 h = .nx ρ2 h2 ∨ b ρ1 h = .ct ρ2 h2) ∧ P (i + 1) ρ2 h2) :
    ∃ ρ' h', forL chk g b xs ρ h = .nx ρ' h' ∧ P xs.length ρ' h' := by
  suffices H : ∀ (n i : Nat) (ρ : Env) (h : AH), i + n = xs.length → P i ρ h → ∃ ρ' h', forL chk g b (xs.drop i) ρ h = .nx ρ' h' ∧ P xs.length ρ' h' by
    have := H xs.length 0 ρ h (by omega) h0
    simpa using this
  intro n
  induction n with
  | zero =>
    intro i ρ h hi p
    have e : i = xs.length := by omega
    subst e
    rw [List.drop_length]
    exact ⟨ρ, h, by simp [forL, hc _ _ _ p], p⟩
  | succ n ih =>
    intro i ρ h hi p
    have hlt : i < xs.length := by omega
    obtain ⟨ρ1, e1, ρ2, h2, e2, p2⟩ := ht i ρ h hlt p
    obtain ⟨ρ', h', e3, p3⟩ := ih (i + 1) ρ2 h2 (by omega) p2
    refine ⟨ρ', h', ?_, p3⟩
    rw [List.drop_eq_getElem_cons hlt]
    rcases e2 with e2 | e2 <;> simp [forL, hc _ _ _ p, e1, e2, e3]
/-- a turn may leave: Q holds then (by break or by return) -/
theorem forL_out {chk : AH → Prop} {g : Tg} {b : Sm} {xs : List A} (P : Nat → Env → AH → Prop) (R : Fl → Prop) {ρ : Env} {h : AH} (h0 : P 0 ρ h) (hc : ∀ i ρ h, P i ρ h → chk h)
    (ht : ∀ i ρ h (hi : i < xs.length), P i ρ h → ∃ ρ1, g xs[i] ρ = some ρ1 ∧ ((∃ ρ2 h2, (b ρ1 h = .nx ρ2 h2 ∨ b ρ1 h = .ct ρ2 h2) ∧ P (i + 1) ρ2 h2) ∨ (∃ ρ2 h2, b ρ1 h = .bk ρ2 h2 ∧ R (.nx ρ2 h2)) ∨ (∃ v h2, b ρ1 h = .rt v h2 ∧ R (.rt v h2)) ∨ (∃ c fs ρ2 h2, b ρ1 h = .exc c fs ρ2 h2 ∧ R (.exc c fs ρ2 h2))))
    (hd : ∀ ρ h, P xs.length ρ h → R (.nx ρ h)) : ∃ f, forL chk g b xs ρ h = f ∧ R f := by
  suffices H : ∀ (n i : Nat) (ρ : Env) (h : AH), i + n = xs.length → P i ρ h → ∃ f, forL chk g b (xs.drop i) ρ h = f ∧ R f by
    have := H xs.length 0 ρ h (by omega) h0
    simpa using this
  intro n
  induction n with
  | zero =>
    intro i ρ h hi p
    have e : i = xs.length := by omega
    subst e
    rw [List.drop_length]
    exact ⟨.nx ρ h, by simp [forL, hc _ _ _ p], hd ρ h p⟩
  | succ n ih =>
    intro i ρ h hi p
    have hlt : i < xs.length := by omega
    rw [List.drop_eq_getElem_cons hlt]
    obtain ⟨ρ1, e1, z⟩ := ht i ρ h hlt p
    rcases z with ⟨ρ2, h2, e2, p2⟩ | ⟨ρ2, h2, e2, r⟩ | ⟨v, h2, e2, r⟩ | ⟨c, fs, ρ2, h2, e2, r⟩
    · obtain ⟨f, e3, r⟩ := ih (i + 1) ρ2 h2 (by omega) p2
      refine ⟨f, ?_, r⟩
      rcases e2 with e2 | e2 <;> simp [forL, hc _ _ _ p, e1, e2, e3]
    · exact ⟨_, by simp [forL, hc _ _ _ p, e1, e2], r⟩
    · exact ⟨_, by simp [forL, hc _ _ _ p, e1, e2], r⟩
    · exact ⟨_, by simp [forL, hc _ _ _ p, e1, e2], r⟩
/-! ### comprehensions -/
/-- no test: the i-th item gives a value with R i; P of the heap goes on -/
theorem compL_each {chk : AH → Prop} {g : Tg} {f : Xp} {ρ : Env} {xs : List A} (P : AH → Prop) (R : Nat → A → Prop) {h : AH} (hn : xs.length ≤ 100000) (h0 : P h) (hc : ∀ h, P h → chk h)
    (ht : ∀ i h (hi : i < xs.length), P h → ∃ ρ1, g xs[i] ρ = some ρ1 ∧ ∃ y h2, f ρ1 h = .ok y h2 ∧ P h2 ∧ R i y) :
    ∃ ys h', compL chk g tYesA f ρ xs h [] = .ok ys h' ∧ P h' ∧ ys.length = xs.length ∧ ∀ i y, ys[i]? = some y → R i y := by
  suffices H : ∀ (n i : Nat) (h : AH) (acc : List A), i + n = xs.length → P h → acc.length = i → (∀ i y, acc[i]? = some y → R i y) → ∃ ys h', compL chk g tYesA f ρ (xs.drop i) h acc = .ok ys h' ∧ P h' ∧ ys.length = xs.length ∧ ∀ i y, ys[i]? = some y → R i y by
    have := H xs.length 0 h [] (by omega) h0 rfl (fun i y e => by simp at e)
    simpa using this
  intro n
  induction n with
  | zero =>
    intro i h acc hi p ha hr
    have e : i = xs.length := by omega
    subst e
    rw [List.drop_length]
    exact ⟨acc, h, by simp [compL, hc _ p], p, ha, hr⟩
  | succ n ih =>
    intro i h acc hi p ha hr
    have hlt : i < xs.length := by omega
    obtain ⟨ρ1, e1, y, h2, e2, p2, r2⟩ := ht i h hlt p
    obtain ⟨ys, h', e3, p3, l3, r3⟩ := ih (i + 1) h2 (acc ++ [y]) (by omega) p2 (by simp [ha]) (fun j z ej => by
      by_cases hj : j < acc.length
      · rw [List.getElem?_append_left hj] at ej
        exact hr j z ej
      · rw [List.getElem?_append_right (by omega)] at ej
        have hjz : j - acc.length = 0 := by
          cases q : j - acc.length with
          | zero => rfl
          | succ k => rw [q] at ej; simp at ej
        rw [hjz] at ej
        simp at ej
        subst ej
        have : j = i := by omega
        rw [this]
        exact r2)
    refine ⟨ys, h', ?_, p3, l3, r3⟩
    rw [List.drop_eq_getElem_cons hlt]
    have hacc : acc.length < 100000 := by omega
    simp [compL, hc _ p, e1, e2, e3, hacc]
/-- with a test that asks nothing of the heap, the element too: a filter and a map -/
theorem compL_pure {chk : AH → Prop} {g : Tg} {t : Tp} {f : Xp} {ρ : Env} {h : AH} {β : Type} (c : β → Bool) (v : β → A) (enc : β → A) (hc : chk h) : ∀ {xs : List β} {acc : List A}, xs.length + acc.length ≤ 100000 →
    (∀ x ∈ xs, ∃ ρ1, g (enc x) ρ = some ρ1 ∧ t ρ1 h = .ok (c x) h ∧ (c x = true → f ρ1 h = .ok (v x) h)) → compL chk g t f ρ (xs.map enc) h acc = .ok (acc ++ (xs.filter c).map v) h
  | [], acc, _, _ => by simp [compL, hc]
  | x :: xs, acc, hn, ht => by
    obtain ⟨ρ1, e1, e2, e3⟩ := ht x (by simp)
    simp only [List.length_cons] at hn
    have hacc : acc.length < 100000 := by omega
    cases hcx : c x with
    | true =>
      have ih := compL_pure c v enc hc (xs := xs) (acc := acc ++ [v x]) (by simp; omega) (fun y hy => ht y (by simp [hy]))
      rw [hcx] at e2
      simp [compL, hc, e1, e2, e3 hcx, hacc, ih, hcx]
    | false =>
      have ih := compL_pure c v enc hc (xs := xs) (acc := acc) (by omega) (fun y hy => ht y (by simp [hy]))
      rw [hcx] at e2
      simp [compL, hc, e1, e2, ih, hcx]
theorem rangeA_length (lo : Int) (n : Nat) : (rangeA lo n).length = n := by simp [rangeA]
theorem rangeA_get {lo : Int} {n i : Nat} (h : i < (rangeA lo n).length) : (rangeA lo n)[i] = .int (lo + (i : Int)) := by simp [rangeA]
/-! ### texts -/
theorem slen_app (s t : Str) : (s ++ t).length = s.length + t.length := by
  have e : (s ++ t).cps.toList = s.cps.toList ++ t.cps.toList := TL.tl_append s t
  have := congrArg List.length e
  simpa [Str.length] using this
theorem slen_cut (s : Str) (lo hi : Option Int) : (cutS s lo hi).length ≤ s.length := cutS_length s lo hi
theorem joinL_len : ∀ (l : List (List Nat)), (TL.joinL [] l).length = (l.map List.length).sum
  | [] => rfl
  | [p] => by simp [TL.joinL]
  | p :: q :: r => by
    show (p ++ ([] ++ TL.joinL [] (q :: r))).length = _
    simp [joinL_len (q :: r)]
theorem slen_join (ys : List Str) : (joinS (Str.ofString "") ys).length = (ys.map (·.length)).sum := by
  have e : (Str.ofString "").cps.toList = [] := by decide +kernel
  unfold joinS
  rw [e]
  show (TL.joinL [] (ys.map fun y => y.cps.toList)).toArray.size = _
  rw [List.size_toArray, joinL_len, List.map_map]
  congr 1
theorem sum_le {l : List Nat} {n : Nat} (h : ∀ x ∈ l, x ≤ n) : l.sum ≤ l.length * n := by
  induction l with
  | nil => simp
  | cons x l ih =>
    have h1 := h x (by simp)
    have h2 := ih fun y hy => h y (by simp [hy])
    simp only [List.sum_cons, List.length_cons]
    rw [Nat.succ_mul]
    omega
end Ab

namespace Ab
open PySem PySem.Spec PyProof.Rows L2

/-! ### texts as lists of codes -/
abbrev cd (s : Str) : List Nat := s.cps.toList
def mk (l : List Nat) : Str := ⟨l.toArray⟩
@[simp] theorem cd_mk (l : List Nat) : cd (mk l) = l := rfl
theorem mk_cd (s : Str) : mk (cd s) = s := by cases s; simp [mk, cd]
theorem cd_inj {s t : Str} (h : cd s = cd t) : s = t := by rw [← mk_cd s, ← mk_cd t, h]
theorem cd_len (s : Str) : (cd s).length = s.length := by simp [cd, Str.length]
@[simp] theorem cd_app (s t : Str) : cd (s ++ t) = cd s ++ cd t := TL.tl_append s t
theorem cd_cut_take (s : Str) (k : Nat) : cd (cutS s none (some (k : Int))) = (cd s).take k := by
  show ((cd s).drop (HT.sIx s.length 0 none)).take (HT.sIx s.length s.length (some (k : Int)) - HT.sIx s.length 0 none) = _
  rw [HT.sIx_none, HT.sIx_nat, ← cd_len]
  simp only [Nat.sub_zero, List.drop_zero]
  by_cases q : k ≤ (cd s).length
  · rw [Nat.min_eq_left q]
  · rw [Nat.min_eq_right (by omega), List.take_of_length_le (Nat.le_refl _), List.take_of_length_le (by omega)]
theorem cd_cut_drop (s : Str) (k : Nat) : cd (cutS s (some (k : Int)) none) = (cd s).drop k := by
  show ((cd s).drop (HT.sIx s.length 0 (some (k : Int)))).take (HT.sIx s.length s.length none - HT.sIx s.length 0 (some (k : Int))) = _
  rw [HT.sIx_none, HT.sIx_nat, ← cd_len]
  by_cases q : k ≤ (cd s).length
  · rw [Nat.min_eq_left q, List.take_of_length_le (by simp)]
  · rw [Nat.min_eq_right (by omega)]
    simp [List.drop_of_length_le (show (cd s).length ≤ k by omega)]
theorem joinL_nil : ∀ l : List (List Nat), TL.joinL [] l = l.flatten
  | [] => rfl
  | [p] => by simp [TL.joinL]
  | p :: q :: r => by
    show p ++ ([] ++ TL.joinL [] (q :: r)) = _
    rw [joinL_nil (q :: r)]
    simp
theorem cd_join (ys : List Str) : cd (joinS (Str.ofString "") ys) = (ys.map cd).flatten := by
  have e : (Str.ofString "").cps.toList = [] := by decide +kernel
  unfold joinS
  rw [e, joinL_nil]
/-! ### order of texts -/
theorem lt_irr (l : List Nat) : ¬ l < l := List.lt_irrefl l
theorem lt_tri (a b : List Nat) : a < b ∨ a = b ∨ b < a := by
  by_cases h : a < b
  · exact .inl h
  · by_cases h2 : b < a
    · exact .inr (.inr h2)
    · exact .inr (.inl (List.le_antisymm (List.not_lt.mp h2) (List.not_lt.mp h)))
/-- strictly ascending -/
def Asc (ss : List Str) : Prop := ss.Pairwise fun a b => cd a < cd b
theorem Asc.nodup {ss : List Str} (h : Asc ss) : ss.Nodup := List.Pairwise.imp (S := fun a b => a ≠ b) (fun {a b} (hab : cd a < cd b) (e : a = b) => by subst e; exact lt_irr _ hab) h
def leS (a b : Str) : Bool := decide (cd a ≤ cd b)
def sortS (ss : List Str) : List Str := ss.mergeSort leS
theorem sortS_perm (ss : List Str) : (sortS ss).Perm ss := List.mergeSort_perm ss leS
theorem leS_trans (a b c : Str) (h1 : leS a b = true) (h2 : leS b c = true) : leS a c = true := by
  unfold leS at *
  simp only [decide_eq_true_eq] at *
  exact List.le_trans h1 h2
theorem leS_total (a b : Str) : (leS a b || leS b a) = true := by
  unfold leS
  simp only [Bool.or_eq_true, decide_eq_true_eq]
  exact List.le_total _ _
theorem sortS_le (ss : List Str) : (sortS ss).Pairwise fun a b => leS a b = true := List.pairwise_mergeSort leS_trans leS_total ss
theorem sortS_asc {ss : List Str} (h : ss.Nodup) : Asc (sortS ss) := by
  have hn : (sortS ss).Nodup := (sortS_perm ss).nodup_iff.mpr h
  have hl := sortS_le ss
  have := hl.and hn
  refine this.imp fun {a b} ⟨h1, h2⟩ => ?_
  have h1' : cd a ≤ cd b := by simpa [leS] using h1
  rcases lt_tri (cd a) (cd b) with q | q | q
  · exact q
  · exact absurd (cd_inj q) h2
  · exact absurd q (List.not_lt.mpr h1')
/-- two ascending lists with the same members are one -/
theorem Asc.ext {xs ys : List Str} (hx : Asc xs) (hy : Asc ys) (h : ∀ z, z ∈ xs ↔ z ∈ ys) : xs = ys := by
  have hp : xs.Perm ys := (List.perm_ext_iff_of_nodup hx.nodup hy.nodup).mpr h
  refine hp.eq_of_pairwise (le := fun a b => cd a < cd b) (fun a b _ _ h1 h2 => absurd (List.lt_trans h1 h2) (lt_irr _)) hx hy
theorem sortS_of_asc {ss : List Str} (h : Asc ss) : sortS ss = ss := (sortS_asc h.nodup).ext h fun z => (sortS_perm ss).mem_iff
/-- sorted(..) of texts -/
theorem aSort_strs (ss : List Str) : aSort (ss.map .str) = (sortS ss).map .str := by
  unfold aSort sortS
  have e : ∀ a b : Str, leS a b = PySem.W.dataLe false pd (A.str a) (A.str b) := fun a b => by
    have := congrFun (congrFun (PySem.W.dataLe_str (fun s : Str => s)) a) b
    exact this.symm
  exact (PySem.W.sort_maps (r := leS) (s := PySem.W.dataLe false pd) A.str fun a _ b _ => e a b).symm
theorem sortable_strs (ss : List Str) : sortable (ss.map .str) = true := by
  unfold sortable
  simp [pd, PySem.W.alike]
theorem dok_strs (ss : List Str) : (ss.map A.str).all (dok 60) = true := by simp [dok]
theorem oSorted_l {ss : List Str} {h : AH} : oSorted [.lst (ss.map .str)] h = some ((sortS ss).map .str, h) := by
  simp only [oSorted, lstOf, dok_strs, sortable_strs, and_self, if_true, aSort_strs]
theorem oSorted_c {ss : List Str} {h : AH} {l : Nat} (q : h[l]? = some (.lst (ss.map .str))) : oSorted [.li l] h = some ((sortS ss).map .str, h) := by
  simp only [oSorted, lstOf, q, dok_strs, sortable_strs, and_self, if_true, aSort_strs]
/-! ### names of places -/
def isNm (s : Str) : Prop := 1 ≤ (cd s).length ∧ (cd s).length ≤ 6 ∧ ∀ c ∈ cd s, 97 ≤ c ∧ c ≤ 122
structure World (ws : List Str) : Prop where
  asc : Asc ws
  nm : ∀ w ∈ ws, isNm w
theorem isNm.len {s : Str} (h : isNm s) : s.length ≤ 6 := by rw [← cd_len]; exact h.2.1
def abc : Str := Str.ofString "abcdefghijklmnopqrstuvwxyz"
theorem cd_abc : cd abc = List.range' 97 26 := by decide +kernel
theorem mem_abc {c : Nat} (h : c ∈ cd abc) : 97 ≤ c ∧ c ≤ 122 := by
  rw [cd_abc] at h
  have := List.mem_range'_1.mp h
  omega
end Ab

namespace Ab
open PySem PySem.Spec PyProof.Rows L2

/-! ### repr of small data -/
mutual
def tiny : A → Bool
  | .non => true
  | .bl _ => true
  | .int i => decide (i.natAbs < 10 ^ 12)
  | .str s => s.cps.toList.all fun c => decide (c < 16 ^ 8)
  | .tup xs => tinys xs
  | .lst xs => tinys xs
  | _ => false
def tinys : List A → Bool
  | [] => true
  | x :: xs => tiny x && tinys xs
end
theorem tinys_all : ∀ xs : List A, tinys xs = xs.all tiny
  | [] => rfl
  | x :: xs => by
    show (tiny x && tinys xs) = _
    rw [tinys_all xs]; rfl
theorem int_short {i : Int} (h : i.natAbs < 10 ^ 12) : (PyData.shown (.int i)).length ≤ 13 := by
  have e : (PyData.shown (.int i)) = Str.ofString (toString i) := rfl
  have h1 := int_text_length_le10 (a := i) (k := 12) (by decide) h
  rw [e, PySem.ofString_length]
  exact h1
theorem int_showable {i : Int} (h : i.natAbs < 10 ^ 12) : (PyData.int i).showable = true := by
  have e : (PyData.int i).showable = decide (i.natAbs.log2 < 1920) := rfl
  rw [e, decide_eq_true_eq]
  by_cases z : i.natAbs = 0
  · rw [z]; decide
  · rw [Nat.log2_lt z]
    exact Nat.lt_trans h (by decide +kernel)
mutual
theorem tiny_ok : ∀ a : A, tiny a = true → (pd a).showable = true ∧ (pd a).leavesShort 13 = true
  | .non, _ => ⟨rfl, rfl⟩
  | .bl _, _ => ⟨rfl, rfl⟩
  | .int i, h => by
    have h' : i.natAbs < 10 ^ 12 := by simpa only [tiny, decide_eq_true_eq] using h
    exact ⟨int_showable h', by simp only [pd, PyData.leavesShort, decide_eq_true_eq]; exact int_short h'⟩
  | .str s, h => ⟨rfl, by simpa only [tiny, pd, PyData.leavesShort] using h⟩
  | .tup xs, h => by
    have := tinys_ok xs (by simpa only [tiny] using h)
    exact ⟨by simp only [pd, PyData.showable]; exact this.1, by simp only [pd, PyData.leavesShort]; exact this.2⟩
  | .lst xs, h => by
    have := tinys_ok xs (by simpa only [tiny] using h)
    exact ⟨by simp only [pd, PyData.showable]; exact this.1, by simp only [pd, PyData.leavesShort]; exact this.2⟩
  | .txt _, h => by simp [tiny] at h
  | .dct .., h => by simp [tiny] at h
  | .ins .., h => by simp [tiny] at h
  | .li .., h => by simp [tiny] at h
theorem tinys_ok : ∀ xs : List A, tinys xs = true → PyData.showableAll (pds xs) = true ∧ PyData.leavesShortAll 13 (pds xs) = true
  | [], _ => ⟨rfl, rfl⟩
  | x :: xs, h => by
    have h' : tiny x = true ∧ tinys xs = true := by simpa only [tinys, Bool.and_eq_true] using h
    have h1 := tiny_ok x h'.1
    have h2 := tinys_ok xs h'.2
    exact ⟨by simp only [pds, PyData.showableAll, h1.1, h2.1, Bool.and_self], by simp only [pds, PyData.leavesShortAll, h1.2, h2.2, Bool.and_self]⟩
end
theorem int_weight {i : Int} (h : i.natAbs < 10 ^ 12) : (PyData.int i).weight ≤ 40 := by
  simp only [PyData.weight]
  by_cases z : i.natAbs = 0
  · have : i = 0 := Int.natAbs_eq_zero.mp z
    subst this
    decide
  · have hl : i.natAbs.log2 < 40 := by
      rw [Nat.log2_lt z]
      exact Nat.lt_trans h (by decide +kernel)
    split <;> omega
theorem repr_tiny {a : A} {h : AH} (hd : dok 60 a = true) (ht : tiny a = true) (hw : (pd a).weight ≤ 2 ^ 20) : oRepr [a] h = some (.txt (pd a).shown, h) := by
  have t := tiny_ok a ht
  exact if_pos ⟨hd, t.1, PyData.shown_fits (B := 13) (by decide) (by decide) t.2 hw⟩
theorem oEq_dok {a b : A} {h : AH} (h1 : thaw a h = a) (h2 : thaw b h = b) (n1 : ∀ s, a ≠ .txt s) (ha : dok 60 a = true) (hb : dok 60 b = true) : oEq a b h = some (.bl (aEq a b), h) := by
  have key : oEq a b h = if dok 60 (thaw a h) = true ∧ dok 60 (thaw b h) = true then some (.bl (aEq (thaw a h) (thaw b h)), h) else none := by
    cases a <;> first | rfl | exact absurd rfl (n1 _)
  rw [key, h1, h2, if_pos ⟨ha, hb⟩]
end Ab

namespace Q
open PySem PySem.Spec PyProof.Rows L2 Ab
noncomputable def bf_tree_size (rec : Fn) : Sm := sSeq (sSet 1 (eN oLen (aCons (eB oIx (eVar 0) (eC (.int 1))) (aNil)))) (sSeq (sIf (tB_ (eB oEq (eB oIx (eVar 0) (eC (.int 0))) (eC (.str "leaf")))) (sRet (eTup (aCons (eC (.int 1)) (aCons (eC (.int 0)) (aCons (eVar 1) (aCons (eC (.int 0)) (aNil))))))) (sNil)) (sSeq (sSet 2 (eF 1 rec (aCons (eB oIx (eVar 0) (eC (.int 3))) (aNil)) [])) (sSeq (sSet 3 (eF 1 rec (aCons (eB oIx (eVar 0) (eC (.int 4))) (aNil)) [])) (sSeq (sSet 4 (eB oAdd (eC (.int 1)) (eN oMax2 (aCons (eB oIx (eVar 2) (eC (.int 3))) (aCons (eB oIx (eVar 3) (eC (.int 3))) (aNil)))))) (sRet (eTup (aCons (eB oAdd (eB oIx (eVar 2) (eC (.int 0))) (eB oIx (eVar 3) (eC (.int 0)))) (aCons (eB oAdd (eB oAdd (eC (.int 1)) (eB oIx (eVar 2) (eC (.int 1)))) (eB oIx (eVar 3) (eC (.int 1)))) (aCons (eB oAdd (eB oAdd (eVar 1) (eB oIx (eVar 2) (eC (.int 2)))) (eB oIx (eVar 3) (eC (.int 2)))) (aCons (eVar 4) (aNil)))))))))))
noncomputable def f_tree_size : Nat → Fn
  | 0 => fun _ _ => .bad
  | n + 1 => runS 5 (bf_tree_size (f_tree_size n))
noncomputable def bf_law_mix : Sm := sSeq (sSet 2 (eB oMod (eN oInt (aCons (eB oAdd (eB oAdd (eB oMul (eVar 0) (eC (.int 48271))) (eB oMul (eVar 1) (eC (.int 69621)))) (eC (.int 11))) (aNil))) (eC (.int 2147483647)))) (sSeq (sSet 3 (eB oMod (eN oInt (aCons (eB oAdd (eB oAdd (eB oMul (eVar 2) (eVar 2)) (eB oMul (eVar 2) (eC (.int 40692)))) (eVar 1)) (aNil))) (eC (.int 2147483399)))) (sSeq (sSet 4 (eB oMod (eN oInt (aCons (eB oAdd (eB oAdd (eB oMul (eVar 3) (eVar 3)) (eB oMul (eVar 3) (eC (.int 16807)))) (eVar 2)) (aNil))) (eC (.int 2147483629)))) (sRet (eB oAdd (eB oMul (eVar 4) (eC (.int 2147483399))) (eVar 3)))))
noncomputable def f_law_mix : Fn := runS 5 bf_law_mix
noncomputable def bf_law_store_B1 : Sm := sSeq (sExpr (eM isLst oAppend (eVar 1) (aCons (eN oInt (aCons (eVar 3) (aNil))) (aNil)))) (sSet 2 (eB oMod (eN oInt (aCons (eB oAdd (eB oAdd (eB oMul (eVar 2) (eC (.int 65599))) (eB oMod (eN oInt (aCons (eVar 3) (aNil))) (eC (.int 2147483629)))) (eC (.int 1))) (aNil))) (eC (.int 2147483647))))
noncomputable def bf_law_store_L1 : Sm := sFor (iAny (eSl (eVar 0) (pNo) (pOf (eC (.int 63))))) (tgN 3) bf_law_store_B1
noncomputable def bf_law_store : Sm := sSeq (sSet 1 (eNw (lDisp (aNil)))) (sSeq (sSet 2 (eC (.int 5))) (sSeq (bf_law_store_L1) (sRet (eNw (lDisp (aCons (eFreeze (eVar 1)) (aCons (eC (.int 0)) (aCons (eC (.int 0)) (aCons (eC (.int 0)) (aCons (eC (.int 0)) (aCons (eVar 2) (aNil))))))))))))
noncomputable def f_law_store : Fn := runS 4 bf_law_store
noncomputable def bf_law_take : Sm := sSeq (sIf (tB_ (eB oLe (eVar 1) (eC (.int 1)))) (sRet (eC (.int 0))) (sNil)) (sSeq (sPut oPut (eVar 0) (eC (.int 4)) (eB oAdd (eB oIx (eVar 0) (eC (.int 4))) (eC (.int 1)))) (sSeq (sSet 2 (eN oInt (aCons (eB oIx (eVar 0) (eC (.int 2))) (aNil)))) (sSeq (sIf (tB_ (eB oGt (eVar 2) (eC (.int 0)))) (sSeq (sPut oPut (eVar 0) (eC (.int 2)) (eB oDiv (eVar 2) (eVar 1))) (sRet (eB oMod (eVar 2) (eVar 1)))) (sNil)) (sSeq (sIf (tB_ (eB oGe (eB oIx (eVar 0) (eC (.int 1))) (eN oLen (aCons (eB oIx (eVar 0) (eC (.int 0))) (aNil))))) (sRet (eB oMod (eN oInt (aCons (eF 2 f_law_mix (aCons (eB oIx (eVar 0) (eC (.int 5))) (aCons (eB oIx (eVar 0) (eC (.int 4))) (aNil))) []) (aNil))) (eVar 1))) (sNil)) (sSeq (sSet 3 (eN oInt (aCons (eB oIx (eB oIx (eVar 0) (eC (.int 0))) (eB oIx (eVar 0) (eC (.int 1)))) (aNil)))) (sSeq (sIf (tB_ (eB oGe (eVar 3) (eB oPow (eC (.int 10)) (eC (.int 18))))) (sSeq (sPut oPut (eVar 0) (eC (.int 1)) (eB oAdd (eB oIx (eVar 0) (eC (.int 1))) (eC (.int 1)))) (sSeq (sPut oPut (eVar 0) (eC (.int 2)) (eB oDiv (eVar 3) (eVar 1))) (sRet (eB oMod (eVar 3) (eVar 1))))) (sNil)) (sSeq (sPut oPut (eVar 0) (eC (.int 3)) (eB oAdd (eB oIx (eVar 0) (eC (.int 3))) (eC (.int 1)))) (sSeq (sIf (tB_ (eB oGe (eB oIx (eVar 0) (eC (.int 3))) (eC (.int 4)))) (sSeq (sPut oPut (eVar 0) (eC (.int 1)) (eB oAdd (eB oIx (eVar 0) (eC (.int 1))) (eC (.int 1)))) (sPut oPut (eVar 0) (eC (.int 3)) (eC (.int 0)))) (sNil)) (sRet (eB oMod (eN oInt (aCons (eF 2 f_law_mix (aCons (eVar 3) (aCons (eB oIx (eVar 0) (eC (.int 4))) (aNil))) []) (aNil))) (eVar 1)))))))))))
noncomputable def f_law_take : Fn := runS 4 bf_law_take
noncomputable def bf_law_pick : Sm := sRet (eB oIx (eVar 1) (eF 2 f_law_take (aCons (eVar 0) (aCons (eN oLen (aCons (eVar 1) (aNil))) (aNil))) []))
noncomputable def f_law_pick : Fn := runS 2 bf_law_pick
noncomputable def bf_law_chance : Sm := sRet (eB oEq (eF 2 f_law_take (aCons (eVar 0) (aCons (eVar 1) (aNil))) []) (eC (.int 0)))
noncomputable def f_law_chance : Fn := runS 2 bf_law_chance
noncomputable def bf_law_depths : Sm := sSeq (sSet 2 (eB oSub (eVar 1) (eC (.int 1)))) (sSeq (sSet 3 (eN oMin2 (aCons (eVar 2) (aCons (eC (.int 3)) (aNil))))) (sSeq (sIf (tB_ (eF 2 f_law_chance (aCons (eVar 0) (aCons (eC (.int 2)) (aNil))) [])) (sRet (eFz (lDisp (aCons (eVar 3) (aCons (eVar 2) (aNil)))))) (sNil)) (sRet (eFz (lDisp (aCons (eVar 2) (aCons (eVar 3) (aNil))))))))
noncomputable def f_law_depths : Fn := runS 4 bf_law_depths
noncomputable def bf_law_realm_C1 : Ap := lcA (iR1 (aCons (eC (.int 6)) (aNil))) (tgN 4) (tYesA) (eF 2 f_law_pick (aCons (eVar 0) (aCons (eVar 2) (aNil))) []) [4]
noncomputable def bf_law_realm_C2 : Ap := lcA (iR1 (aCons (eVar 1) (aNil))) (tgN 4) (tYesA) (eSl (eVar 3) (pNo) (pOf (eB oAdd (eVar 4) (eC (.int 1))))) [4]
noncomputable def bf_law_realm_C3 : Ap := lcA (iR1 (aCons (eF 2 f_law_take (aCons (eVar 0) (aCons (eB oSub (eC (.int 6)) (eVar 5)) (aNil))) []) (aNil))) (tgN 10) (tYesA) (eF 2 f_law_pick (aCons (eVar 0) (aCons (eVar 2) (aNil))) []) [10]
noncomputable def bf_law_realm_B1 : Sm := sSeq (sSet 9 (eM isStr oJoin (eC (.str "")) (aCons (eFz (bf_law_realm_C3)) (aNil)))) (sExpr (eM isLst oAppend (eVar 8) (aCons (eB oAdd (eB oAdd (eSl (eVar 3) (pNo) (pOf (eVar 5))) (eB oIx (eVar 2) (eB oMod (eN oInt (aCons (eB oAdd (eVar 6) (eB oMul (eVar 4) (eVar 7))) (aNil))) (eC (.int 26))))) (eVar 9)) (aNil))))
noncomputable def bf_law_realm_L1 : Sm := sFor (iR1 (aCons (eVar 1) (aNil))) (tgN 4) bf_law_realm_B1
noncomputable def bf_law_realm : Sm := sSeq (sSet 2 (eC (.str "abcdefghijklmnopqrstuvwxyz"))) (sSeq (sSet 3 (eM isStr oJoin (eC (.str "")) (aCons (eFz (bf_law_realm_C1)) (aNil)))) (sSeq (sSet 5 (eF 2 f_law_take (aCons (eVar 0) (aCons (eC (.int 7)) (aNil))) [])) (sSeq (sIf (tAnd_ (tB_ (eB oEq (eVar 5) (eC (.int 6)))) (tB_ (eB oLt (eVar 1) (eC (.int 7))))) (sRet (eN oTuple (aCons (eFz (bf_law_realm_C2)) (aNil)))) (sNil)) (sSeq (sSet 5 (eB oMod (eN oInt (aCons (eVar 5) (aNil))) (eC (.int 6)))) (sSeq (sSet 6 (eF 2 f_law_take (aCons (eVar 0) (aCons (eC (.int 26)) (aNil))) [])) (sSeq (sSet 7 (eF 2 f_law_pick (aCons (eVar 0) (aCons (eFz (lDisp (aCons (eC (.int 1)) (aCons (eC (.int 3)) (aCons (eC (.int 5)) (aCons (eC (.int 7)) (aCons (eC (.int 9)) (aCons (eC (.int 11)) (aNil))))))))) (aNil))) [])) (sSeq (sSet 8 (eNw (lDisp (aNil)))) (sSeq (bf_law_realm_L1) (sRet (eN oTuple (aCons (eFz (lN oSorted (aCons (eVar 8) (aNil)))) (aNil))))))))))))
noncomputable def f_law_realm : Fn := runS 11 bf_law_realm
noncomputable def bf_law_claim_B1 : Sm := sSeq (sSet 8 (eM isLst oPopAt (eVar 5) (aCons (eF 2 f_law_take (aCons (eVar 0) (aCons (eN oLen (aCons (eVar 5) (aNil))) (aNil))) []) (aNil)))) (sSeq (sSet 9 (eF 2 f_law_pick (aCons (eVar 0) (aCons (eVar 4) (aNil))) [])) (sIf (tOr_ (tB_ (eB oLt (eVar 7) (eVar 3))) (tAnd_ (tB_ (eB oEq (eVar 9) (eC (.int 3)))) (tB_ (eB oGt (eVar 2) (eC (.int 0)))))) (sSet 2 (eB oSub (eVar 2) (eC (.int 1)))) (sExpr (eM isLst oAppend (eB oIx (eVar 6) (eB oMod (eN oInt (aCons (eVar 9) (aNil))) (eC (.int 3)))) (aCons (eVar 8) (aNil))))))
noncomputable def bf_law_claim_L1 : Sm := sFor (iR1 (aCons (eB oSub (eN oLen (aCons (eVar 1) (aNil))) (eC (.int 2))) (aNil))) (tgN 7) bf_law_claim_B1
noncomputable def bf_law_claim : Sm := sSeq (sSet 4 (eB oIx (eFz (lDisp (aCons (eFz (lDisp (aCons (eC (.int 1)) (aNil)))) (aCons (eFz (lDisp (aCons (eC (.int 1)) (aCons (eC (.int 3)) (aNil))))) (aCons (eFz (lDisp (aCons (eC (.int 0)) (aCons (eC (.int 1)) (aCons (eC (.int 2)) (aCons (eC (.int 3)) (aNil))))))) (aCons (eFz (lDisp (aCons (eC (.int 0)) (aCons (eC (.int 1)) (aCons (eC (.int 2)) (aCons (eC (.int 3)) (aNil))))))) (aNil))))))) (eF 2 f_law_take (aCons (eVar 0) (aCons (eC (.int 4)) (aNil))) []))) (sSeq (sSet 5 (eNw (lN oList (aCons (eVar 1) (aNil))))) (sSeq (sSet 6 (eFz (lDisp (aCons (eNw (lDisp (aCons (eM isLst oPopAt (eVar 5) (aCons (eF 2 f_law_take (aCons (eVar 0) (aCons (eN oLen (aCons (eVar 5) (aNil))) (aNil))) []) (aNil))) (aNil)))) (aCons (eNw (lDisp (aNil))) (aCons (eNw (lDisp (aCons (eM isLst oPopAt (eVar 5) (aCons (eF 2 f_law_take (aCons (eVar 0) (aCons (eN oLen (aCons (eVar 5) (aNil))) (aNil))) []) (aNil))) (aNil)))) (aNil))))))) (sSeq (bf_law_claim_L1) (sRet (eTup (aCons (eN oTuple (aCons (eFz (lN oSorted (aCons (eB oIx (eVar 6) (eC (.int 0))) (aNil)))) (aNil))) (aCons (eN oTuple (aCons (eFz (lN oSorted (aCons (eB oIx (eVar 6) (eC (.int 1))) (aNil)))) (aNil))) (aCons (eN oTuple (aCons (eFz (lN oSorted (aCons (eB oIx (eVar 6) (eC (.int 2))) (aNil)))) (aNil))) (aNil)))))))))
noncomputable def f_law_claim : Fn := runS 10 bf_law_claim
noncomputable def bf_law_exact : Sm := sRet (eAnd (eB oEq (eVar 0) (eVar 1)) (eB oEq (eN oRepr (aCons (eVar 0) (aNil))) (eN oRepr (aCons (eVar 1) (aNil)))))
noncomputable def f_law_exact : Fn := runS 2 bf_law_exact
noncomputable def bf_law_any_use_C1 : Ap := lcA (iR1 (aCons (eB oAdd (eB oAdd (eC (.int 1)) (eF 2 f_law_take (aCons (eVar 0) (aCons (eC (.int 2)) (aNil))) [])) (eVar 2)) (aNil))) (tgN 4) (tYesA) (eF 4 f_law_claim (aCons (eVar 0) (aCons (eVar 1) (aCons (eN oLen (aCons (eVar 1) (aNil))) (aCons (eC (.int 0)) (aNil))))) []) [4]
noncomputable def bf_law_any_use : Sm := sSeq (sSetL false 3 (bf_law_any_use_C1)) (sRet (eTup (aCons (eB oAdd (eC (.int 1)) (eF 2 f_law_take (aCons (eVar 0) (aCons (eC (.int 5)) (aNil))) [])) (aCons (eN oTuple (aCons (eSl (eVar 3) (pOf (eVar 2)) (pNo)) (aNil))) (aCons (eN oTuple (aCons (eSl (eVar 3) (pNo) (pOf (eVar 2))) (aNil))) (aNil))))))
noncomputable def f_law_any_use : Fn := runS 5 bf_law_any_use
noncomputable def bf_law_any_tree_C1 (rec : Fn) : Ap := lcA (iR1 (aCons (eF 2 f_law_take (aCons (eVar 0) (aCons (eC (.int 3)) (aNil))) []) (aNil))) (tgN 4) (tYesA) (eF 3 f_law_any_use (aCons (eVar 0) (aCons (eVar 1) (aCons (eC (.int 1)) (aNil)))) []) [4]
noncomputable def bf_law_any_tree (rec : Fn) : Sm := sSeq (sSet 3 (eN oTuple (aCons (eFz ((bf_law_any_tree_C1 rec))) (aNil)))) (sSeq (sIf (tOr_ (tB_ (eB oLt (eVar 2) (eC (.int 1)))) (tB_ (eF 2 f_law_chance (aCons (eVar 0) (aCons (eC (.int 5)) (aNil))) []))) (sRet (eTup (aCons (eC (.str "leaf")) (aCons (eVar 3) (aNil))))) (sNil)) (sSeq (sSet 5 (eF 3 f_law_any_use (aCons (eVar 0) (aCons (eVar 1) (aCons (eC (.int 2)) (aNil)))) [])) (sSeq (sSet 6 (eF 2 f_law_depths (aCons (eVar 0) (aCons (eVar 2) (aNil))) [])) (sSeq (sSet 7 (eF 3 rec (aCons (eVar 0) (aCons (eVar 1) (aCons (eB oIx (eVar 6) (eC (.int 0))) (aNil)))) [])) (sRet (eTup (aCons (eC (.str "case")) (aCons (eVar 3) (aCons (eVar 5) (aCons (eVar 7) (aCons (eF 3 rec (aCons (eVar 0) (aCons (eVar 1) (aCons (eB oIx (eVar 6) (eC (.int 1))) (aNil)))) []) (aNil))))))))))))
noncomputable def f_law_any_tree : Nat → Fn
  | 0 => fun _ _ => .bad
  | n + 1 => runS 8 (bf_law_any_tree (f_law_any_tree n))
noncomputable def bf_law_row_tree_C1 : Ap := lcA (iR1 (aCons (eF 2 f_law_take (aCons (eVar 0) (aCons (eC (.int 3)) (aNil))) []) (aNil))) (tgN 7) (tYesA) (eF 3 f_law_any_use (aCons (eVar 0) (aCons (eVar 1) (aCons (eC (.int 1)) (aNil)))) []) [7]
noncomputable def bf_law_row_tree_B1 : Sm := sSeq (sSet 5 (eTup (aCons (eC (.str "leaf")) (aCons (eB oMul (eTup (aCons (eF 3 f_law_any_use (aCons (eVar 0) (aCons (eVar 1) (aCons (eC (.int 1)) (aNil)))) []) (aNil))) (eF 2 f_law_take (aCons (eVar 0) (aCons (eC (.int 3)) (aNil))) [])) (aNil))))) (sSeq (sSet 6 (eN oTuple (aCons (eFz (bf_law_row_tree_C1)) (aNil)))) (sSeq (sSet 8 (eB oIx (eFz (lDisp (aCons (eTup (aCons (eVar 3) (aCons (eVar 5) (aNil)))) (aCons (eTup (aCons (eVar 5) (aCons (eVar 3) (aNil)))) (aNil))))) (eF 2 f_law_take (aCons (eVar 0) (aCons (eC (.int 2)) (aNil))) []))) (sSet 3 (eTup (aCons (eC (.str "case")) (aCons (eVar 6) (aCons (eF 3 f_law_any_use (aCons (eVar 0) (aCons (eVar 1) (aCons (eC (.int 2)) (aNil)))) []) (aCons (eB oIx (eVar 8) (eC (.int 0))) (aCons (eB oIx (eVar 8) (eC (.int 1))) (aNil))))))))))
noncomputable def bf_law_row_tree_L1 : Sm := sFor (iR1 (aCons (eVar 2) (aNil))) (tgN 4) bf_law_row_tree_B1
noncomputable def bf_law_row_tree : Sm := sSeq (sSet 3 (eTup (aCons (eC (.str "leaf")) (aCons (eB oMul (eTup (aCons (eF 3 f_law_any_use (aCons (eVar 0) (aCons (eVar 1) (aCons (eC (.int 1)) (aNil)))) []) (aNil))) (eF 2 f_law_take (aCons (eVar 0) (aCons (eC (.int 4)) (aNil))) [])) (aNil))))) (sSeq (bf_law_row_tree_L1) (sRet (eVar 3)))
noncomputable def f_law_row_tree : Fn := runS 9 bf_law_row_tree
noncomputable def bf_law_even_tree_B1 : Sm := sSet 5 (eTup (aCons (eC (.str "case")) (aCons (eB oMul (eTup (aCons (eVar 4) (aNil))) (eVar 6)) (aCons (eF 3 f_law_any_use (aCons (eVar 0) (aCons (eVar 1) (aCons (eC (.int 2)) (aNil)))) []) (aCons (eVar 5) (aCons (eVar 5) (aNil)))))))
noncomputable def bf_law_even_tree_L1 : Sm := sFor (iR1 (aCons (eVar 2) (aNil))) (tgN 7) bf_law_even_tree_B1
noncomputable def bf_law_even_tree : Sm := sSeq (sSet 3 (eFz (lDisp (aCons (eC (.int 3)) (aCons (eC (.int 3)) (aCons (eC (.int 3)) (aCons (eC (.int 3)) (aCons (eC (.int 3)) (aCons (eC (.int 3)) (aCons (eC (.int 3)) (aCons (eC (.int 2)) (aCons (eC (.int 1)) (aNil))))))))))))) (sSeq (sSet 4 (eF 3 f_law_any_use (aCons (eVar 0) (aCons (eVar 1) (aCons (eC (.int 1)) (aNil)))) [])) (sSeq (sSet 5 (eTup (aCons (eC (.str "leaf")) (aCons (eB oMul (eTup (aCons (eVar 4) (aNil))) (eF 2 f_law_take (aCons (eVar 0) (aCons (eB oAdd (eB oIx (eVar 3) (eVar 2)) (eC (.int 1))) (aNil))) [])) (aNil))))) (sSeq (sSet 6 (eF 2 f_law_take (aCons (eVar 0) (aCons (eB oIx (eVar 3) (eVar 2)) (aNil))) [])) (sSeq (bf_law_even_tree_L1) (sRet (eVar 5))))))
noncomputable def f_law_even_tree : Fn := runS 8 bf_law_even_tree
noncomputable def bf_law_draw_C1 : Ap := lcA (iR1 (aCons (eC (.int 3)) (aNil))) (tgN 4) (tYesA) (eF 3 f_law_any_use (aCons (eVar 0) (aCons (eVar 1) (aCons (eC (.int 1)) (aNil)))) []) [4]
noncomputable def bf_law_draw : Sm := sSeq (sSet 2 (eF 2 f_law_take (aCons (eVar 0) (aCons (eC (.int 8)) (aNil))) [])) (sSeq (sIf (tB_ (eB oEq (eVar 2) (eC (.int 0)))) (sSeq (sSet 3 (eN oTuple (aCons (eFz (bf_law_draw_C1)) (aNil)))) (sSeq (sSet 5 (eF 2 f_law_pick (aCons (eVar 0) (aCons (eFz (lDisp (aCons (eF 2 f_law_take (aCons (eVar 0) (aCons (eC (.int 701)) (aNil))) []) (aCons (eC (.int 700)) (aCons (eC (.int 699)) (aCons (eC (.int 1)) (aNil))))))) (aNil))) [])) (sRet (eTup (aCons (eC (.str "leaf")) (aCons (eSl (eB oMul (eVar 3) (eC (.int 234))) (pNo) (pOf (eVar 5))) (aNil))))))) (sNil)) (sSeq (sSet 6 (eF 2 f_law_take (aCons (eVar 0) (aCons (eC (.int 9)) (aNil))) [])) (sSeq (sIf (tB_ (eB oEq (eVar 2) (eC (.int 1)))) (sRet (eF 3 f_law_even_tree (aCons (eVar 0) (aCons (eVar 1) (aCons (eVar 6) (aNil)))) [])) (sNil)) (sSeq (sIf (tB_ (eB oLt (eVar 2) (eC (.int 4)))) (sRet (eF 3 f_law_row_tree (aCons (eVar 0) (aCons (eVar 1) (aCons (eVar 6) (aNil)))) [])) (sNil)) (sRet (eF 3 (f_law_any_tree 12) (aCons (eVar 0) (aCons (eVar 1) (aCons (eB oIx (eFz (lDisp (aCons (eC (.int 1)) (aCons (eC (.int 2)) (aCons (eC (.int 3)) (aCons (eVar 6) (aNil))))))) (eB oSub (eVar 2) (eC (.int 4)))) (aNil)))) []))))))
noncomputable def f_law_draw : Fn := runS 7 bf_law_draw
noncomputable def bf_law_count_B1 : Sm := sSeq (sIf (tB_ (eB oGe (eVar 3) (eN oLen (aCons (eVar 1) (aNil))))) (sBreak) (sNil)) (sSeq (sAsg (tgT [tgN 4, tgN 5]) (eB oIx (eVar 1) (eVar 3))) (sSeq (sPut oPut (eVar 2) (eC (.int 2)) (eB oAdd (eB oIx (eVar 2) (eC (.int 2))) (eN oLen (aCons (eB oIx (eVar 4) (eC (.int 1))) (aNil))))) (sSeq (sPut oPut (eVar 2) (eC (.int 3)) (eN oMax2 (aCons (eB oIx (eVar 2) (eC (.int 3))) (aCons (eVar 5) (aNil))))) (sIf (tB_ (eB oEq (eB oIx (eVar 4) (eC (.int 0))) (eC (.str "leaf")))) (sPut oPut (eVar 2) (eC (.int 0)) (eB oAdd (eB oIx (eVar 2) (eC (.int 0))) (eC (.int 1)))) (sSeq (sPut oPut (eVar 2) (eC (.int 1)) (eB oAdd (eB oIx (eVar 2) (eC (.int 1))) (eC (.int 1)))) (sSeq (sExpr (eM isLst oAppend (eVar 1) (aCons (eTup (aCons (eB oIx (eVar 4) (eC (.int 3))) (aCons (eB oAdd (eVar 5) (eC (.int 1))) (aNil)))) (aNil)))) (sExpr (eM isLst oAppend (eVar 1) (aCons (eTup (aCons (eB oIx (eVar 4) (eC (.int 4))) (aCons (eB oAdd (eVar 5) (eC (.int 1))) (aNil)))) (aNil))))))))))
noncomputable def bf_law_count_L1 : Sm := sFor (iR1 (aCons (eC (.int 1023)) (aNil))) (tgN 3) bf_law_count_B1
noncomputable def bf_law_count : Sm := sSeq (sSet 1 (eNw (lDisp (aCons (eTup (aCons (eVar 0) (aCons (eC (.int 0)) (aNil)))) (aNil))))) (sSeq (sSet 2 (eNw (lDisp (aCons (eC (.int 0)) (aCons (eC (.int 0)) (aCons (eC (.int 0)) (aCons (eC (.int 0)) (aNil)))))))) (sSeq (bf_law_count_L1) (sRet (eN oTuple (aCons (eVar 2) (aNil))))))
noncomputable def f_law_count : Fn := runS 6 bf_law_count
noncomputable def bf_law_v10 : Sm := sSeq (sSet 1 (eF 1 f_law_store (aCons (eVar 0) (aNil)) [])) (sSeq (sSet 2 (eF 2 f_law_realm (aCons (eVar 1) (aCons (eF 2 f_law_pick (aCons (eVar 1) (aCons (eFz (lDisp (aCons (eC (.int 2)) (aCons (eC (.int 3)) (aCons (eC (.int 3)) (aCons (eC (.int 4)) (aCons (eC (.int 4)) (aCons (eC (.int 5)) (aCons (eC (.int 12)) (aCons (eB oAdd (eC (.int 2)) (eF 2 f_law_take (aCons (eVar 1) (aCons (eC (.int 11)) (aNil))) [])) (aNil))))))))))) (aNil))) []) (aNil))) [])) (sSeq (sSet 3 (eF 2 f_law_draw (aCons (eVar 1) (aCons (eVar 2) (aNil))) [])) (sSeq (sSet 4 (eF 2 f_law_draw (aCons (eVar 1) (aCons (eVar 2) (aNil))) [])) (sSeq (sSet 5 (eF 1 f_law_count (aCons (eVar 3) (aNil)) [])) (sSeq (sSet 6 (eF 1 f_law_count (aCons (eVar 4) (aNil)) [])) (sSeq (sIf (tOr_ (tNot_ (tB_ (eF 2 f_law_exact (aCons (eF 1 (f_tree_size 12) (aCons (eVar 3) (aNil)) []) (aCons (eVar 5) (aNil))) []))) (tNot_ (tB_ (eF 2 f_law_exact (aCons (eF 1 (f_tree_size 12) (aCons (eVar 4) (aNil)) []) (aCons (eVar 6) (aNil))) [])))) (sRet (eC (.bl false))) (sNil)) (sSeq (sIf (tAnd_ (tB_ (eB oLt (eN oMax2 (aCons (eB oIx (eVar 5) (eC (.int 3))) (aCons (eB oIx (eVar 6) (eC (.int 3))) (aNil)))) (eC (.int 8)))) (tB_ (eB oLt (eB oAdd (eB oAdd (eB oAdd (eB oIx (eVar 5) (eC (.int 1))) (eB oIx (eVar 5) (eC (.int 2)))) (eB oIx (eVar 6) (eC (.int 1)))) (eB oIx (eVar 6) (eC (.int 2)))) (eC (.int 699))))) (sSeq (sSet 7 (eTup (aCons (eC (.str "case")) (aCons (eTup (aNil)) (aCons (eF 3 f_law_any_use (aCons (eVar 1) (aCons (eVar 2) (aCons (eC (.int 2)) (aNil)))) []) (aCons (eVar 3) (aCons (eVar 4) (aNil)))))))) (sSeq (sSet 8 (eTup (aCons (eB oAdd (eB oIx (eVar 5) (eC (.int 0))) (eB oIx (eVar 6) (eC (.int 0)))) (aCons (eB oAdd (eB oAdd (eB oIx (eVar 5) (eC (.int 1))) (eB oIx (eVar 6) (eC (.int 1)))) (eC (.int 1))) (aCons (eB oAdd (eB oIx (eVar 5) (eC (.int 2))) (eB oIx (eVar 6) (eC (.int 2)))) (aCons (eB oAdd (eN oMax2 (aCons (eB oIx (eVar 5) (eC (.int 3))) (aCons (eB oIx (eVar 6) (eC (.int 3))) (aNil)))) (eC (.int 1))) (aNil))))))) (sIf (tNot_ (tB_ (eF 2 f_law_exact (aCons (eF 1 (f_tree_size 12) (aCons (eVar 7) (aNil)) []) (aCons (eVar 8) (aNil))) []))) (sRet (eC (.bl false))) (sNil)))) (sNil)) (sRet (eF 2 f_law_exact (aCons (eF 1 (f_tree_size 12) (aCons (eVar 3) (aNil)) []) (aCons (eVar 5) (aNil))) [])))))))))
noncomputable def f_law_v10 : Fn := runS 9 bf_law_v10
end Q

namespace Pk55
open PySem PySem.Spec PyProof.Rows L2 Ab Q
def top (i : Nat) : Stmt := PySem.Challenge.pw_keepsapart_k55_the_size_of_a_tree.main.body.getD i (.Pass ⟨0, 0, 0, 0⟩)
structure Tx (K : PySem.W.Frag) (mg : Str → Option Value) : Prop where
  n_int : mg "int" = none
  n_len : mg "len" = none
  n_list : mg "list" = none
  n_max : mg "max" = none
  n_min : mg "min" = none
  n_range : mg "range" = none
  n_repr : mg "repr" = none
  n_sorted : mg "sorted" = none
  n_tuple : mg "tuple" = none
def df_tree_size : He.DefD := ⟨("tree_size", none), "tree_size", "tree_size", defArgs (top 1), defBody (top 1), defScope (top 1), [], []⟩
def df_law_mix : He.DefD := ⟨("_law_mix", none), "_law_mix", "_law_mix", defArgs (top 3), defBody (top 3), defScope (top 3), [], []⟩
def df_law_store : He.DefD := ⟨("_law_store", none), "_law_store", "_law_store", defArgs (top 4), defBody (top 4), defScope (top 4), [], []⟩
def df_law_take : He.DefD := ⟨("_law_take", none), "_law_take", "_law_take", defArgs (top 5), defBody (top 5), defScope (top 5), [], []⟩
def df_law_pick : He.DefD := ⟨("_law_pick", none), "_law_pick", "_law_pick", defArgs (top 6), defBody (top 6), defScope (top 6), [], []⟩
def df_law_chance : He.DefD := ⟨("_law_chance", none), "_law_chance", "_law_chance", defArgs (top 7), defBody (top 7), defScope (top 7), [], []⟩
def df_law_depths : He.DefD := ⟨("_law_depths", none), "_law_depths", "_law_depths", defArgs (top 8), defBody (top 8), defScope (top 8), [], []⟩
def df_law_realm : He.DefD := ⟨("_law_realm", none), "_law_realm", "_law_realm", defArgs (top 9), defBody (top 9), defScope (top 9), [], []⟩
def df_law_claim : He.DefD := ⟨("_law_claim", none), "_law_claim", "_law_claim", defArgs (top 10), defBody (top 10), defScope (top 10), [], []⟩
def df_law_exact : He.DefD := ⟨("_law_exact", none), "_law_exact", "_law_exact", defArgs (top 11), defBody (top 11), defScope (top 11), [], []⟩
def df_law_any_use : He.DefD := ⟨("_law_any_use", none), "_law_any_use", "_law_any_use", defArgs (top 12), defBody (top 12), defScope (top 12), [], []⟩
def df_law_any_tree : He.DefD := ⟨("_law_any_tree", none), "_law_any_tree", "_law_any_tree", defArgs (top 13), defBody (top 13), defScope (top 13), [], []⟩
def df_law_row_tree : He.DefD := ⟨("_law_row_tree", none), "_law_row_tree", "_law_row_tree", defArgs (top 14), defBody (top 14), defScope (top 14), [], []⟩
def df_law_even_tree : He.DefD := ⟨("_law_even_tree", none), "_law_even_tree", "_law_even_tree", defArgs (top 15), defBody (top 15), defScope (top 15), [], []⟩
def df_law_draw : He.DefD := ⟨("_law_draw", none), "_law_draw", "_law_draw", defArgs (top 16), defBody (top 16), defScope (top 16), [], []⟩
def df_law_count : He.DefD := ⟨("_law_count", none), "_law_count", "_law_count", defArgs (top 17), defBody (top 17), defScope (top 17), [], []⟩
def df_law_v10 : He.DefD := ⟨("law", none), "law", "law", defArgs (top 18), defBody (top 18), defScope (top 18), [], []⟩
section
variable {P : Program} {w : World} {K : PySem.W.Frag} {mg : Str → Option Value} {base : Heap}
theorem scf_tree_size : FnScope ["tree", "steps", "left", "right", "depth"] ["tree"] (defScope (top 1)) := ⟨rfl, rfl, rfl, by decide +kernel, rfl, by decide +kernel, by decide +kernel⟩
theorem wf_tree_size (T : Tx K mg) (hm : mg "tree_size" = some (.ref (He.fAd K df_tree_size.at_))) {fd : FuncData} (F : FunD K "tree_size" "tree_size" (defArgs (top 1)) (defBody (top 1)) (defScope (top 1)) [] [] (He.fAd K df_tree_size.at_) fd)  : ∀ n : Nat, Has P w K mg base (0 + n) "tree_size" 1 (f_tree_size n) []
  | 0 => ⟨_, fd, ["tree"], [], hm, F.kp, FnG.none rfl, FunD.bindsN (ps := ["tree"]) F fun _ _ _ _ _ _ us hl => match us, hl with | [_], _ => rfl, .nil⟩
  | n + 1 => by
    have ih := wf_tree_size T hm F  n
    have kr : 0 + n = 0 + n := rfl
    have sc := scf_tree_size
    refine ⟨_, fd, ["tree"], [], hm, F.kp, def_ok F sc fun cdv A outer s H E g => ?_, FunD.bindsN (ps := ["tree"]) F fun _ _ _ _ _ _ us hl => match us, hl with | [_], _ => rfl, .nil⟩
    exact (ss_cons (ss_set 1 sc.nd (sd_callB so_len (by rfl) T.n_len (by decide +kernel) (sd_cons (sd_ix so_ix (sd_var 0) (sd_int)) (sd_nil)))) (ss_cons (ss_if (sd_tcmp (so_eq g.rm.units) (sd_ix so_ix (sd_var 0) (sd_int)) (sd_str)) (ss_one (ss_ret (sd_tup (sd_cons (sd_int) (sd_cons (sd_int) (sd_cons (sd_var 1) (sd_cons (sd_int) (sd_nil)))))))) (ss_nil)) (ss_cons (ss_set 2 sc.nd (sd_cl (0 + n) g ih no_das (sd_cons (sd_ix so_ix (sd_var 0) (sd_int)) (sd_nil)) (Nat.le_refl _))) (ss_cons (ss_set 3 sc.nd (sd_cl (0 + n) g ih no_das (sd_cons (sd_ix so_ix (sd_var 0) (sd_int)) (sd_nil)) (Nat.le_refl _))) (ss_cons (ss_set 4 sc.nd (sd_bin so_add (sd_int) (sd_callB (so_max2 rfl) (by rfl) T.n_max (by decide +kernel) (sd_cons (sd_ix so_ix (sd_var 2) (sd_int)) (sd_cons (sd_ix so_ix (sd_var 3) (sd_int)) (sd_nil)))))) (ss_one (ss_ret (sd_tup (sd_cons (sd_bin so_add (sd_ix so_ix (sd_var 2) (sd_int)) (sd_ix so_ix (sd_var 3) (sd_int))) (sd_cons (sd_bin so_add (sd_bin so_add (sd_int) (sd_ix so_ix (sd_var 2) (sd_int))) (sd_ix so_ix (sd_var 3) (sd_int))) (sd_cons (sd_bin so_add (sd_bin so_add (sd_var 1) (sd_ix so_ix (sd_var 2) (sd_int))) (sd_ix so_ix (sd_var 3) (sd_int))) (sd_cons (sd_var 4) (sd_nil)))))))))))))
theorem scf_law_mix : FnScope ["number", "turn", "one", "two", "three"] ["number", "turn"] (defScope (top 3)) := ⟨rfl, rfl, rfl, by decide +kernel, rfl, by decide +kernel, by decide +kernel⟩
theorem wf_law_mix (T : Tx K mg) (hm : mg "_law_mix" = some (.ref (He.fAd K df_law_mix.at_))) {fd : FuncData} (F : FunD K "_law_mix" "_law_mix" (defArgs (top 3)) (defBody (top 3)) (defScope (top 3)) [] [] (He.fAd K df_law_mix.at_) fd)  : Has P w K mg base 1 "_law_mix" 2 f_law_mix [] := by
  have sc := scf_law_mix
  refine ⟨_, fd, ["number", "turn"], [], hm, F.kp, FnG.mono (j := 1) (def_ok F sc fun cdv A outer s H E g => ?_) (by decide), FunD.bindsN (ps := ["number", "turn"]) F fun _ _ _ _ _ _ us hl => match us, hl with | [_, _], _ => rfl, .nil⟩
  exact (ss_cons (ss_set 2 sc.nd (sd_bin so_mod (sd_callT so_int (by rfl) T.n_int (by decide +kernel) (sd_cons (sd_bin so_add (sd_bin so_add (sd_bin so_mul (sd_var 0) (sd_int)) (sd_bin so_mul (sd_var 1) (sd_int))) (sd_int)) (sd_nil))) (sd_int))) (ss_cons (ss_set 3 sc.nd (sd_bin so_mod (sd_callT so_int (by rfl) T.n_int (by decide +kernel) (sd_cons (sd_bin so_add (sd_bin so_add (sd_bin so_mul (sd_var 2) (sd_var 2)) (sd_bin so_mul (sd_var 2) (sd_int))) (sd_var 1)) (sd_nil))) (sd_int))) (ss_cons (ss_set 4 sc.nd (sd_bin so_mod (sd_callT so_int (by rfl) T.n_int (by decide +kernel) (sd_cons (sd_bin so_add (sd_bin so_add (sd_bin so_mul (sd_var 3) (sd_var 3)) (sd_bin so_mul (sd_var 3) (sd_int))) (sd_var 2)) (sd_nil))) (sd_int))) (ss_one (ss_ret (sd_bin so_add (sd_bin so_mul (sd_var 4) (sd_int)) (sd_var 3)))))))
theorem scf_law_store : FnScope ["script", "cells", "total", "cell"] ["script"] (defScope (top 4)) := ⟨rfl, rfl, rfl, by decide +kernel, rfl, by decide +kernel, by decide +kernel⟩
theorem wf_law_store (T : Tx K mg) (hm : mg "_law_store" = some (.ref (He.fAd K df_law_store.at_))) {fd : FuncData} (F : FunD K "_law_store" "_law_store" (defArgs (top 4)) (defBody (top 4)) (defScope (top 4)) [] [] (He.fAd K df_law_store.at_) fd)  : Has P w K mg base 1 "_law_store" 1 f_law_store [] := by
  have sc := scf_law_store
  refine ⟨_, fd, ["script"], [], hm, F.kp, FnG.mono (j := 1) (def_ok F sc fun cdv A outer s H E g => ?_) (by decide), FunD.bindsN (ps := ["script"]) F fun _ _ _ _ _ _ us hl => match us, hl with | [_], _ => rfl, .nil⟩
  exact (ss_cons (ss_set 1 sc.nd (sd_nw (sl_disp (sd_nil)))) (ss_cons (ss_set 2 sc.nd (sd_int)) (ss_cons (ss_for g.po rfl (si_any (sd_slice (sd_var 0) (sp_no) (sp_of (sd_int)))) (sg_name 3 sc.nd) (ss_cons (ss_expr (sd_meth ty_lst PySem.F.plainAttrs_list PySem.F.slot_list_append PySem.F.type_list_append so_append (sd_var 1) (sd_cons (sd_callT so_int (by rfl) T.n_int (by decide +kernel) (sd_cons (sd_var 3) (sd_nil))) (sd_nil)))) (ss_one (ss_set 2 sc.nd (sd_bin so_mod (sd_callT so_int (by rfl) T.n_int (by decide +kernel) (sd_cons (sd_bin so_add (sd_bin so_add (sd_bin so_mul (sd_var 2) (sd_int)) (sd_bin so_mod (sd_callT so_int (by rfl) T.n_int (by decide +kernel) (sd_cons (sd_var 3) (sd_nil))) (sd_int))) (sd_int)) (sd_nil))) (sd_int)))))) (ss_one (ss_ret (sd_nw (sl_disp (sd_cons (sd_freeze (sd_var 1)) (sd_cons (sd_int) (sd_cons (sd_int) (sd_cons (sd_int) (sd_cons (sd_int) (sd_cons (sd_var 2) (sd_nil))))))))))))))
theorem scf_law_take : FnScope ["store", "many", "left", "cell"] ["store", "many"] (defScope (top 5)) := ⟨rfl, rfl, rfl, by decide +kernel, rfl, by decide +kernel, by decide +kernel⟩
theorem wf_law_take (T : Tx K mg) (hm : mg "_law_take" = some (.ref (He.fAd K df_law_take.at_))) {fd : FuncData} (F : FunD K "_law_take" "_law_take" (defArgs (top 5)) (defBody (top 5)) (defScope (top 5)) [] [] (He.fAd K df_law_take.at_) fd) (hf_law_mix : Has P w K mg base 1 "_law_mix" 2 f_law_mix []) : Has P w K mg base 2 "_law_take" 2 f_law_take [] := by
  have sc := scf_law_take
  refine ⟨_, fd, ["store", "many"], [], hm, F.kp, FnG.mono (j := 2) (def_ok F sc fun cdv A outer s H E g => ?_) (by decide), FunD.bindsN (ps := ["store", "many"]) F fun _ _ _ _ _ _ us hl => match us, hl with | [_, _], _ => rfl, .nil⟩
  exact (ss_cons (ss_if (sd_tcmp so_le (sd_var 1) (sd_int)) (ss_one (ss_ret (sd_int))) (ss_nil)) (ss_cons (ss_put so_put (sd_var 0) (sd_int) (sd_bin so_add (sd_ix so_ix (sd_var 0) (sd_int)) (sd_int))) (ss_cons (ss_set 2 sc.nd (sd_callT so_int (by rfl) T.n_int (by decide +kernel) (sd_cons (sd_ix so_ix (sd_var 0) (sd_int)) (sd_nil)))) (ss_cons (ss_if (sd_tcmp so_gt (sd_var 2) (sd_int)) (ss_cons (ss_put so_put (sd_var 0) (sd_int) (sd_bin so_div (sd_var 2) (sd_var 1))) (ss_one (ss_ret (sd_bin so_mod (sd_var 2) (sd_var 1))))) (ss_nil)) (ss_cons (ss_if (sd_tcmp so_ge (sd_ix so_ix (sd_var 0) (sd_int)) (sd_callB so_len (by rfl) T.n_len (by decide +kernel) (sd_cons (sd_ix so_ix (sd_var 0) (sd_int)) (sd_nil)))) (ss_one (ss_ret (sd_bin so_mod (sd_callT so_int (by rfl) T.n_int (by decide +kernel) (sd_cons (sd_cl 1 g hf_law_mix no_das (sd_cons (sd_ix so_ix (sd_var 0) (sd_int)) (sd_cons (sd_ix so_ix (sd_var 0) (sd_int)) (sd_nil))) (by decide)) (sd_nil))) (sd_var 1)))) (ss_nil)) (ss_cons (ss_set 3 sc.nd (sd_callT so_int (by rfl) T.n_int (by decide +kernel) (sd_cons (sd_ix so_ix (sd_ix so_ix (sd_var 0) (sd_int)) (sd_ix so_ix (sd_var 0) (sd_int))) (sd_nil)))) (ss_cons (ss_if (sd_tcmp so_ge (sd_var 3) (sd_bin so_pow (sd_int) (sd_int))) (ss_cons (ss_put so_put (sd_var 0) (sd_int) (sd_bin so_add (sd_ix so_ix (sd_var 0) (sd_int)) (sd_int))) (ss_cons (ss_put so_put (sd_var 0) (sd_int) (sd_bin so_div (sd_var 3) (sd_var 1))) (ss_one (ss_ret (sd_bin so_mod (sd_var 3) (sd_var 1)))))) (ss_nil)) (ss_cons (ss_put so_put (sd_var 0) (sd_int) (sd_bin so_add (sd_ix so_ix (sd_var 0) (sd_int)) (sd_int))) (ss_cons (ss_if (sd_tcmp so_ge (sd_ix so_ix (sd_var 0) (sd_int)) (sd_int)) (ss_cons (ss_put so_put (sd_var 0) (sd_int) (sd_bin so_add (sd_ix so_ix (sd_var 0) (sd_int)) (sd_int))) (ss_one (ss_put so_put (sd_var 0) (sd_int) (sd_int)))) (ss_nil)) (ss_one (ss_ret (sd_bin so_mod (sd_callT so_int (by rfl) T.n_int (by decide +kernel) (sd_cons (sd_cl 1 g hf_law_mix no_das (sd_cons (sd_var 3) (sd_cons (sd_ix so_ix (sd_var 0) (sd_int)) (sd_nil))) (by decide)) (sd_nil))) (sd_var 1)))))))))))))
theorem scf_law_pick : FnScope ["store", "row"] ["store", "row"] (defScope (top 6)) := ⟨rfl, rfl, rfl, by decide +kernel, rfl, by decide +kernel, by decide +kernel⟩
theorem wf_law_pick (T : Tx K mg) (hm : mg "_law_pick" = some (.ref (He.fAd K df_law_pick.at_))) {fd : FuncData} (F : FunD K "_law_pick" "_law_pick" (defArgs (top 6)) (defBody (top 6)) (defScope (top 6)) [] [] (He.fAd K df_law_pick.at_) fd) (hf_law_take : Has P w K mg base 2 "_law_take" 2 f_law_take []) : Has P w K mg base 3 "_law_pick" 2 f_law_pick [] := by
  have sc := scf_law_pick
  refine ⟨_, fd, ["store", "row"], [], hm, F.kp, FnG.mono (j := 3) (def_ok F sc fun cdv A outer s H E g => ?_) (by decide), FunD.bindsN (ps := ["store", "row"]) F fun _ _ _ _ _ _ us hl => match us, hl with | [_, _], _ => rfl, .nil⟩
  exact (ss_one (ss_ret (sd_ix so_ix (sd_var 1) (sd_cl 2 g hf_law_take no_das (sd_cons (sd_var 0) (sd_cons (sd_callB so_len (by rfl) T.n_len (by decide +kernel) (sd_cons (sd_var 1) (sd_nil))) (sd_nil))) (by decide)))))
theorem scf_law_chance : FnScope ["store", "many"] ["store", "many"] (defScope (top 7)) := ⟨rfl, rfl, rfl, by decide +kernel, rfl, by decide +kernel, by decide +kernel⟩
theorem wf_law_chance (T : Tx K mg) (hm : mg "_law_chance" = some (.ref (He.fAd K df_law_chance.at_))) {fd : FuncData} (F : FunD K "_law_chance" "_law_chance" (defArgs (top 7)) (defBody (top 7)) (defScope (top 7)) [] [] (He.fAd K df_law_chance.at_) fd) (hf_law_take : Has P w K mg base 2 "_law_take" 2 f_law_take []) : Has P w K mg base 3 "_law_chance" 2 f_law_chance [] := by
  have sc := scf_law_chance
  refine ⟨_, fd, ["store", "many"], [], hm, F.kp, FnG.mono (j := 3) (def_ok F sc fun cdv A outer s H E g => ?_) (by decide), FunD.bindsN (ps := ["store", "many"]) F fun _ _ _ _ _ _ us hl => match us, hl with | [_, _], _ => rfl, .nil⟩
  exact (ss_one (ss_ret (sd_cmp (so_eq g.rm.units) (sd_cl 2 g hf_law_take no_das (sd_cons (sd_var 0) (sd_cons (sd_var 1) (sd_nil))) (by decide)) (sd_int))))
theorem scf_law_depths : FnScope ["store", "depth", "deep", "flat"] ["store", "depth"] (defScope (top 8)) := ⟨rfl, rfl, rfl, by decide +kernel, rfl, by decide +kernel, by decide +kernel⟩
theorem wf_law_depths (T : Tx K mg) (hm : mg "_law_depths" = some (.ref (He.fAd K df_law_depths.at_))) {fd : FuncData} (F : FunD K "_law_depths" "_law_depths" (defArgs (top 8)) (defBody (top 8)) (defScope (top 8)) [] [] (He.fAd K df_law_depths.at_) fd) (hf_law_chance : Has P w K mg base 3 "_law_chance" 2 f_law_chance []) : Has P w K mg base 4 "_law_depths" 2 f_law_depths [] := by
  have sc := scf_law_depths
  refine ⟨_, fd, ["store", "depth"], [], hm, F.kp, FnG.mono (j := 4) (def_ok F sc fun cdv A outer s H E g => ?_) (by decide), FunD.bindsN (ps := ["store", "depth"]) F fun _ _ _ _ _ _ us hl => match us, hl with | [_, _], _ => rfl, .nil⟩
  exact (ss_cons (ss_set 2 sc.nd (sd_bin so_sub (sd_var 1) (sd_int))) (ss_cons (ss_set 3 sc.nd (sd_callB (so_min2 rfl) (by rfl) T.n_min (by decide +kernel) (sd_cons (sd_var 2) (sd_cons (sd_int) (sd_nil))))) (ss_cons (ss_if (sd_tval (sd_cl 3 g hf_law_chance no_das (sd_cons (sd_var 0) (sd_cons (sd_int) (sd_nil))) (by decide))) (ss_one (ss_ret (sd_fz (sl_disp (sd_cons (sd_var 3) (sd_cons (sd_var 2) (sd_nil))))))) (ss_nil)) (ss_one (ss_ret (sd_fz (sl_disp (sd_cons (sd_var 2) (sd_cons (sd_var 3) (sd_nil))))))))))
theorem scf_law_realm : FnScope ["store", "size", "letters", "stem", "k", "at", "spot", "step", "names", "tail", "j"] ["store", "size"] (defScope (top 9)) := ⟨rfl, rfl, rfl, by decide +kernel, rfl, by decide +kernel, by decide +kernel⟩
theorem wf_law_realm (T : Tx K mg) (hm : mg "_law_realm" = some (.ref (He.fAd K df_law_realm.at_))) {fd : FuncData} (F : FunD K "_law_realm" "_law_realm" (defArgs (top 9)) (defBody (top 9)) (defScope (top 9)) [] [] (He.fAd K df_law_realm.at_) fd) (hf_law_take : Has P w K mg base 2 "_law_take" 2 f_law_take []) (hf_law_pick : Has P w K mg base 3 "_law_pick" 2 f_law_pick []) : Has P w K mg base 4 "_law_realm" 2 f_law_realm [] := by
  have sc := scf_law_realm
  refine ⟨_, fd, ["store", "size"], [], hm, F.kp, FnG.mono (j := 4) (def_ok F sc fun cdv A outer s H E g => ?_) (by decide), FunD.bindsN (ps := ["store", "size"]) F fun _ _ _ _ _ _ us hl => match us, hl with | [_, _], _ => rfl, .nil⟩
  exact (ss_cons (ss_set 2 sc.nd (sd_str)) (ss_cons (ss_set 3 sc.nd (sd_meth ty_str PySem.F.plainAttrs_str PySem.F.slot_str_join PySem.F.type_str_join so_join (sd_str) (sd_cons (sd_fz (sl_comp (own := [("k", 4)]) [4] rfl rfl sc.nd (si_range1 (by rfl) T.n_range (sd_cons (sd_int) (sd_nil))) (blkOk_by (N := ["store", "size", "letters", "stem", "k", "at", "spot", "step", "names", "tail", "j"]) (sc := defScope (top 9)) (by decide +kernel)) (fun _ _ _ _ _ => sv_name 4 sc.nd) (fun _ _ _ _ _ => st_nil) (fun _ _ _ _ _ => sd_cl 3 (Cg.blk g) hf_law_pick no_das (sd_cons (sd_var 0) (sd_cons (sd_var 2) (sd_nil))) (by decide)))) (sd_nil)))) (ss_cons (ss_set 5 sc.nd (sd_cl 2 g hf_law_take no_das (sd_cons (sd_var 0) (sd_cons (sd_int) (sd_nil))) (by decide))) (ss_cons (ss_if (PW.pt (sd_and (sd_tcmp (so_eq g.rm.units) (sd_var 5) (sd_int)) (sd_and1 (sd_tcmp so_lt (sd_var 1) (sd_int))))) (ss_one (ss_ret (sd_callT so_tuple (by rfl) T.n_tuple (by decide +kernel) (sd_cons (sd_fz (sl_comp (own := [("k", 4)]) [4] rfl rfl sc.nd (si_range1 (by rfl) T.n_range (sd_cons (sd_var 1) (sd_nil))) (blkOk_by (N := ["store", "size", "letters", "stem", "k", "at", "spot", "step", "names", "tail", "j"]) (sc := defScope (top 9)) (by decide +kernel)) (fun _ _ _ _ _ => sv_name 4 sc.nd) (fun _ _ _ _ _ => st_nil) (fun _ _ _ _ _ => sd_slice (sd_var 3) (sp_no) (sp_of (sd_bin so_add (sd_var 4) (sd_int)))))) (sd_nil))))) (ss_nil)) (ss_cons (ss_set 5 sc.nd (sd_bin so_mod (sd_callT so_int (by rfl) T.n_int (by decide +kernel) (sd_cons (sd_var 5) (sd_nil))) (sd_int))) (ss_cons (ss_set 6 sc.nd (sd_cl 2 g hf_law_take no_das (sd_cons (sd_var 0) (sd_cons (sd_int) (sd_nil))) (by decide))) (ss_cons (ss_set 7 sc.nd (sd_cl 3 g hf_law_pick no_das (sd_cons (sd_var 0) (sd_cons (sd_fz (sl_disp (sd_cons (sd_int) (sd_cons (sd_int) (sd_cons (sd_int) (sd_cons (sd_int) (sd_cons (sd_int) (sd_cons (sd_int) (sd_nil))))))))) (sd_nil))) (by decide))) (ss_cons (ss_set 8 sc.nd (sd_nw (sl_disp (sd_nil)))) (ss_cons (ss_for g.po rfl (si_range1 (by rfl) T.n_range (sd_cons (sd_var 1) (sd_nil))) (sg_name 4 sc.nd) (ss_cons (ss_set 9 sc.nd (sd_meth ty_str PySem.F.plainAttrs_str PySem.F.slot_str_join PySem.F.type_str_join so_join (sd_str) (sd_cons (sd_fz (sl_comp (own := [("j", 10)]) [10] rfl rfl sc.nd (si_range1 (by rfl) T.n_range (sd_cons (sd_cl 2 g hf_law_take no_das (sd_cons (sd_var 0) (sd_cons (sd_bin so_sub (sd_int) (sd_var 5)) (sd_nil))) (by decide)) (sd_nil))) (blkOk_by (N := ["store", "size", "letters", "stem", "k", "at", "spot", "step", "names", "tail", "j"]) (sc := defScope (top 9)) (by decide +kernel)) (fun _ _ _ _ _ => sv_name 10 sc.nd) (fun _ _ _ _ _ => st_nil) (fun _ _ _ _ _ => sd_cl 3 (Cg.blk g) hf_law_pick no_das (sd_cons (sd_var 0) (sd_cons (sd_var 2) (sd_nil))) (by decide)))) (sd_nil)))) (ss_one (ss_expr (sd_meth ty_lst PySem.F.plainAttrs_list PySem.F.slot_list_append PySem.F.type_list_append so_append (sd_var 8) (sd_cons (sd_bin so_add (sd_bin so_add (sd_slice (sd_var 3) (sp_no) (sp_of (sd_var 5))) (sd_ix so_ix (sd_var 2) (sd_bin so_mod (sd_callT so_int (by rfl) T.n_int (by decide +kernel) (sd_cons (sd_bin so_add (sd_var 6) (sd_bin so_mul (sd_var 4) (sd_var 7))) (sd_nil))) (sd_int)))) (sd_var 9)) (sd_nil))))))) (ss_one (ss_ret (sd_callT so_tuple (by rfl) T.n_tuple (by decide +kernel) (sd_cons (sd_fz (sl_callB (so_sorted g.rm.units) (by rfl) T.n_sorted (by decide +kernel) (sd_cons (sd_var 8) (sd_nil)))) (sd_nil))))))))))))))
theorem scf_law_claim : FnScope ["store", "world", "room", "must", "menu", "rest", "lots", "k", "name", "spot"] ["store", "world", "room", "must"] (defScope (top 10)) := ⟨rfl, rfl, rfl, by decide +kernel, rfl, by decide +kernel, by decide +kernel⟩
theorem wf_law_claim (T : Tx K mg) (hm : mg "_law_claim" = some (.ref (He.fAd K df_law_claim.at_))) {fd : FuncData} (F : FunD K "_law_claim" "_law_claim" (defArgs (top 10)) (defBody (top 10)) (defScope (top 10)) [] [] (He.fAd K df_law_claim.at_) fd) (hf_law_take : Has P w K mg base 2 "_law_take" 2 f_law_take []) (hf_law_pick : Has P w K mg base 3 "_law_pick" 2 f_law_pick []) : Has P w K mg base 4 "_law_claim" 4 f_law_claim [] := by
  have sc := scf_law_claim
  refine ⟨_, fd, ["store", "world", "room", "must"], [], hm, F.kp, FnG.mono (j := 4) (def_ok F sc fun cdv A outer s H E g => ?_) (by decide), FunD.bindsN (ps := ["store", "world", "room", "must"]) F fun _ _ _ _ _ _ us hl => match us, hl with | [_, _, _, _], _ => rfl, .nil⟩
  exact (ss_cons (ss_set 4 sc.nd (sd_ix so_ix (sd_fz (sl_disp (sd_cons (sd_fz (sl_disp (sd_cons (sd_int) (sd_nil)))) (sd_cons (sd_fz (sl_disp (sd_cons (sd_int) (sd_cons (sd_int) (sd_nil))))) (sd_cons (sd_fz (sl_disp (sd_cons (sd_int) (sd_cons (sd_int) (sd_cons (sd_int) (sd_cons (sd_int) (sd_nil))))))) (sd_cons (sd_fz (sl_disp (sd_cons (sd_int) (sd_cons (sd_int) (sd_cons (sd_int) (sd_cons (sd_int) (sd_nil))))))) (sd_nil))))))) (sd_cl 2 g hf_law_take no_das (sd_cons (sd_var 0) (sd_cons (sd_int) (sd_nil))) (by decide)))) (ss_cons (ss_set 5 sc.nd (sd_nw (sl_callT so_list (by rfl) T.n_list (by decide +kernel) (sd_cons (sd_var 1) (sd_nil))))) (ss_cons (ss_set 6 sc.nd (sd_fz (sl_disp (sd_cons (sd_nw (sl_disp (sd_cons (sd_meth ty_lst PySem.F.plainAttrs_list PySem.F.slot_list_pop PySem.F.type_list_pop so_popAt (sd_var 5) (sd_cons (sd_cl 2 g hf_law_take no_das (sd_cons (sd_var 0) (sd_cons (sd_callB so_len (by rfl) T.n_len (by decide +kernel) (sd_cons (sd_var 5) (sd_nil))) (sd_nil))) (by decide)) (sd_nil))) (sd_nil)))) (sd_cons (sd_nw (sl_disp (sd_nil))) (sd_cons (sd_nw (sl_disp (sd_cons (sd_meth ty_lst PySem.F.plainAttrs_list PySem.F.slot_list_pop PySem.F.type_list_pop so_popAt (sd_var 5) (sd_cons (sd_cl 2 g hf_law_take no_das (sd_cons (sd_var 0) (sd_cons (sd_callB so_len (by rfl) T.n_len (by decide +kernel) (sd_cons (sd_var 5) (sd_nil))) (sd_nil))) (by decide)) (sd_nil))) (sd_nil)))) (sd_nil))))))) (ss_cons (ss_for g.po rfl (si_range1 (by rfl) T.n_range (sd_cons (sd_bin so_sub (sd_callB so_len (by rfl) T.n_len (by decide +kernel) (sd_cons (sd_var 1) (sd_nil))) (sd_int)) (sd_nil))) (sg_name 7 sc.nd) (ss_cons (ss_set 8 sc.nd (sd_meth ty_lst PySem.F.plainAttrs_list PySem.F.slot_list_pop PySem.F.type_list_pop so_popAt (sd_var 5) (sd_cons (sd_cl 2 g hf_law_take no_das (sd_cons (sd_var 0) (sd_cons (sd_callB so_len (by rfl) T.n_len (by decide +kernel) (sd_cons (sd_var 5) (sd_nil))) (sd_nil))) (by decide)) (sd_nil)))) (ss_cons (ss_set 9 sc.nd (sd_cl 3 g hf_law_pick no_das (sd_cons (sd_var 0) (sd_cons (sd_var 4) (sd_nil))) (by decide))) (ss_one (ss_if (PW.pt (sd_or (sd_tcmp so_lt (sd_var 7) (sd_var 3)) (sd_or1 (PW.pt (sd_and (sd_tcmp (so_eq g.rm.units) (sd_var 9) (sd_int)) (sd_and1 (sd_tcmp so_gt (sd_var 2) (sd_int)))))))) (ss_one (ss_set 2 sc.nd (sd_bin so_sub (sd_var 2) (sd_int)))) (ss_one (ss_expr (sd_meth ty_lst PySem.F.plainAttrs_list PySem.F.slot_list_append PySem.F.type_list_append so_append (sd_ix so_ix (sd_var 6) (sd_bin so_mod (sd_callT so_int (by rfl) T.n_int (by decide +kernel) (sd_cons (sd_var 9) (sd_nil))) (sd_int))) (sd_cons (sd_var 8) (sd_nil)))))))))) (ss_one (ss_ret (sd_tup (sd_cons (sd_callT so_tuple (by rfl) T.n_tuple (by decide +kernel) (sd_cons (sd_fz (sl_callB (so_sorted g.rm.units) (by rfl) T.n_sorted (by decide +kernel) (sd_cons (sd_ix so_ix (sd_var 6) (sd_int)) (sd_nil)))) (sd_nil))) (sd_cons (sd_callT so_tuple (by rfl) T.n_tuple (by decide +kernel) (sd_cons (sd_fz (sl_callB (so_sorted g.rm.units) (by rfl) T.n_sorted (by decide +kernel) (sd_cons (sd_ix so_ix (sd_var 6) (sd_int)) (sd_nil)))) (sd_nil))) (sd_cons (sd_callT so_tuple (by rfl) T.n_tuple (by decide +kernel) (sd_cons (sd_fz (sl_callB (so_sorted g.rm.units) (by rfl) T.n_sorted (by decide +kernel) (sd_cons (sd_ix so_ix (sd_var 6) (sd_int)) (sd_nil)))) (sd_nil))) (sd_nil)))))))))))
theorem scf_law_exact : FnScope ["value", "due"] ["value", "due"] (defScope (top 11)) := ⟨rfl, rfl, rfl, by decide +kernel, rfl, by decide +kernel, by decide +kernel⟩
theorem wf_law_exact (T : Tx K mg) (hm : mg "_law_exact" = some (.ref (He.fAd K df_law_exact.at_))) {fd : FuncData} (F : FunD K "_law_exact" "_law_exact" (defArgs (top 11)) (defBody (top 11)) (defScope (top 11)) [] [] (He.fAd K df_law_exact.at_) fd)  : Has P w K mg base 1 "_law_exact" 2 f_law_exact [] := by
  have sc := scf_law_exact
  refine ⟨_, fd, ["value", "due"], [], hm, F.kp, FnG.mono (j := 1) (def_ok F sc fun cdv A outer s H E g => ?_) (by decide), FunD.bindsN (ps := ["value", "due"]) F fun _ _ _ _ _ _ us hl => match us, hl with | [_, _], _ => rfl, .nil⟩
  exact (ss_one (ss_ret (sd_vand (sd_cmp (so_eq g.rm.units) (sd_var 0) (sd_var 1)) (sd_vone (sd_cmp (so_eq g.rm.units) (sd_callB (so_repr g.gd g.rm.units) (by rfl) T.n_repr (by decide +kernel) (sd_cons (sd_var 0) (sd_nil))) (sd_callB (so_repr g.gd g.rm.units) (by rfl) T.n_repr (by decide +kernel) (sd_cons (sd_var 1) (sd_nil))))))))
theorem scf_law_any_use : FnScope ["store", "world", "ends", "rows", "k"] ["store", "world", "ends"] (defScope (top 12)) := ⟨rfl, rfl, rfl, by decide +kernel, rfl, by decide +kernel, by decide +kernel⟩
theorem wf_law_any_use (T : Tx K mg) (hm : mg "_law_any_use" = some (.ref (He.fAd K df_law_any_use.at_))) {fd : FuncData} (F : FunD K "_law_any_use" "_law_any_use" (defArgs (top 12)) (defBody (top 12)) (defScope (top 12)) [] [] (He.fAd K df_law_any_use.at_) fd) (hf_law_take : Has P w K mg base 2 "_law_take" 2 f_law_take []) (hf_law_claim : Has P w K mg base 4 "_law_claim" 4 f_law_claim []) : Has P w K mg base 5 "_law_any_use" 3 f_law_any_use [] := by
  have sc := scf_law_any_use
  refine ⟨_, fd, ["store", "world", "ends"], [], hm, F.kp, FnG.mono (j := 5) (def_ok F sc fun cdv A outer s H E g => ?_) (by decide), FunD.bindsN (ps := ["store", "world", "ends"]) F fun _ _ _ _ _ _ us hl => match us, hl with | [_, _, _], _ => rfl, .nil⟩
  exact (ss_cons (ss_comp false 3 (own := [("k", 4)]) [4] rfl rfl sc.nd (si_range1 (by rfl) T.n_range (sd_cons (sd_bin so_add (sd_bin so_add (sd_int) (sd_cl 2 g hf_law_take no_das (sd_cons (sd_var 0) (sd_cons (sd_int) (sd_nil))) (by decide))) (sd_var 2)) (sd_nil))) (blkOk_by (N := ["store", "world", "ends", "rows", "k"]) (sc := defScope (top 12)) (by decide +kernel)) (fun _ _ _ _ _ => sv_name 4 sc.nd) (fun _ _ _ _ _ => st_nil) (fun _ _ _ _ _ => sd_cl 4 (Cg.blk g) hf_law_claim no_das (sd_cons (sd_var 0) (sd_cons (sd_var 1) (sd_cons (sd_callB so_len (by rfl) T.n_len (by decide +kernel) (sd_cons (sd_var 1) (sd_nil))) (sd_cons (sd_int) (sd_nil))))) (by decide)) (sw_true rfl rfl rfl (by decide +kernel))) (ss_one (ss_ret (sd_tup (sd_cons (sd_bin so_add (sd_int) (sd_cl 2 g hf_law_take no_das (sd_cons (sd_var 0) (sd_cons (sd_int) (sd_nil))) (by decide))) (sd_cons (sd_callT so_tuple (by rfl) T.n_tuple (by decide +kernel) (sd_cons (sd_slice (sd_var 3) (sp_of (sd_var 2)) (sp_no)) (sd_nil))) (sd_cons (sd_callT so_tuple (by rfl) T.n_tuple (by decide +kernel) (sd_cons (sd_slice (sd_var 3) (sp_no) (sp_of (sd_var 2))) (sd_nil))) (sd_nil))))))))
theorem scf_law_any_tree : FnScope ["store", "world", "depth", "steps", "k", "use", "depths", "left"] ["store", "world", "depth"] (defScope (top 13)) := ⟨rfl, rfl, rfl, by decide +kernel, rfl, by decide +kernel, by decide +kernel⟩
theorem wf_law_any_tree (T : Tx K mg) (hm : mg "_law_any_tree" = some (.ref (He.fAd K df_law_any_tree.at_))) {fd : FuncData} (F : FunD K "_law_any_tree" "_law_any_tree" (defArgs (top 13)) (defBody (top 13)) (defScope (top 13)) [] [] (He.fAd K df_law_any_tree.at_) fd) (hf_law_take : Has P w K mg base 2 "_law_take" 2 f_law_take []) (hf_law_chance : Has P w K mg base 3 "_law_chance" 2 f_law_chance []) (hf_law_depths : Has P w K mg base 4 "_law_depths" 2 f_law_depths []) (hf_law_any_use : Has P w K mg base 5 "_law_any_use" 3 f_law_any_use []) : ∀ n : Nat, Has P w K mg base (5 + n) "_law_any_tree" 3 (f_law_any_tree n) []
  | 0 => ⟨_, fd, ["store", "world", "depth"], [], hm, F.kp, FnG.none rfl, FunD.bindsN (ps := ["store", "world", "depth"]) F fun _ _ _ _ _ _ us hl => match us, hl with | [_, _, _], _ => rfl, .nil⟩
  | n + 1 => by
    have ih := wf_law_any_tree T hm F hf_law_take hf_law_chance hf_law_depths hf_law_any_use n
    have kr : 5 + n = 5 + n := rfl
    have sc := scf_law_any_tree
    refine ⟨_, fd, ["store", "world", "depth"], [], hm, F.kp, def_ok F sc fun cdv A outer s H E g => ?_, FunD.bindsN (ps := ["store", "world", "depth"]) F fun _ _ _ _ _ _ us hl => match us, hl with | [_, _, _], _ => rfl, .nil⟩
    exact (ss_cons (ss_set 3 sc.nd (sd_callT so_tuple (by rfl) T.n_tuple (by decide +kernel) (sd_cons (sd_fz (sl_comp (own := [("k", 4)]) [4] rfl rfl sc.nd (si_range1 (by rfl) T.n_range (sd_cons (sd_cl 2 g hf_law_take no_das (sd_cons (sd_var 0) (sd_cons (sd_int) (sd_nil))) (Nat.le_trans (by decide) (Nat.le_add_right 5 n))) (sd_nil))) (blkOk_by (N := ["store", "world", "depth", "steps", "k", "use", "depths", "left"]) (sc := defScope (top 13)) (by decide +kernel)) (fun _ _ _ _ _ => sv_name 4 sc.nd) (fun _ _ _ _ _ => st_nil) (fun _ _ _ _ _ => sd_cl 5 (Cg.blk g) hf_law_any_use no_das (sd_cons (sd_var 0) (sd_cons (sd_var 1) (sd_cons (sd_int) (sd_nil)))) (Nat.le_trans (by decide) (Nat.le_add_right 5 n))))) (sd_nil)))) (ss_cons (ss_if (PW.pt (sd_or (sd_tcmp so_lt (sd_var 2) (sd_int)) (sd_or1 (sd_tval (sd_cl 3 g hf_law_chance no_das (sd_cons (sd_var 0) (sd_cons (sd_int) (sd_nil))) (Nat.le_trans (by decide) (Nat.le_add_right 5 n))))))) (ss_one (ss_ret (sd_tup (sd_cons (sd_str) (sd_cons (sd_var 3) (sd_nil)))))) (ss_nil)) (ss_cons (ss_set 5 sc.nd (sd_cl 5 g hf_law_any_use no_das (sd_cons (sd_var 0) (sd_cons (sd_var 1) (sd_cons (sd_int) (sd_nil)))) (Nat.le_trans (by decide) (Nat.le_add_right 5 n)))) (ss_cons (ss_set 6 sc.nd (sd_cl 4 g hf_law_depths no_das (sd_cons (sd_var 0) (sd_cons (sd_var 2) (sd_nil))) (Nat.le_trans (by decide) (Nat.le_add_right 5 n)))) (ss_cons (ss_set 7 sc.nd (sd_cl (5 + n) g ih no_das (sd_cons (sd_var 0) (sd_cons (sd_var 1) (sd_cons (sd_ix so_ix (sd_var 6) (sd_int)) (sd_nil)))) (Nat.le_refl _))) (ss_one (ss_ret (sd_tup (sd_cons (sd_str) (sd_cons (sd_var 3) (sd_cons (sd_var 5) (sd_cons (sd_var 7) (sd_cons (sd_cl (5 + n) g ih no_das (sd_cons (sd_var 0) (sd_cons (sd_var 1) (sd_cons (sd_ix so_ix (sd_var 6) (sd_int)) (sd_nil)))) (Nat.le_refl _)) (sd_nil))))))))))))))
theorem scf_law_row_tree : FnScope ["store", "world", "depth", "node", "k", "leaf", "steps", "j", "sides"] ["store", "world", "depth"] (defScope (top 14)) := ⟨rfl, rfl, rfl, by decide +kernel, rfl, by decide +kernel, by decide +kernel⟩
theorem wf_law_row_tree (T : Tx K mg) (hm : mg "_law_row_tree" = some (.ref (He.fAd K df_law_row_tree.at_))) {fd : FuncData} (F : FunD K "_law_row_tree" "_law_row_tree" (defArgs (top 14)) (defBody (top 14)) (defScope (top 14)) [] [] (He.fAd K df_law_row_tree.at_) fd) (hf_law_take : Has P w K mg base 2 "_law_take" 2 f_law_take []) (hf_law_any_use : Has P w K mg base 5 "_law_any_use" 3 f_law_any_use []) : Has P w K mg base 6 "_law_row_tree" 3 f_law_row_tree [] := by
  have sc := scf_law_row_tree
  refine ⟨_, fd, ["store", "world", "depth"], [], hm, F.kp, FnG.mono (j := 6) (def_ok F sc fun cdv A outer s H E g => ?_) (by decide), FunD.bindsN (ps := ["store", "world", "depth"]) F fun _ _ _ _ _ _ us hl => match us, hl with | [_, _, _], _ => rfl, .nil⟩
  exact (ss_cons (ss_set 3 sc.nd (sd_tup (sd_cons (sd_str) (sd_cons (sd_bin so_mul (sd_tup (sd_cons (sd_cl 5 g hf_law_any_use no_das (sd_cons (sd_var 0) (sd_cons (sd_var 1) (sd_cons (sd_int) (sd_nil)))) (by decide)) (sd_nil))) (sd_cl 2 g hf_law_take no_das (sd_cons (sd_var 0) (sd_cons (sd_int) (sd_nil))) (by decide))) (sd_nil))))) (ss_cons (ss_for g.po rfl (si_range1 (by rfl) T.n_range (sd_cons (sd_var 2) (sd_nil))) (sg_name 4 sc.nd) (ss_cons (ss_set 5 sc.nd (sd_tup (sd_cons (sd_str) (sd_cons (sd_bin so_mul (sd_tup (sd_cons (sd_cl 5 g hf_law_any_use no_das (sd_cons (sd_var 0) (sd_cons (sd_var 1) (sd_cons (sd_int) (sd_nil)))) (by decide)) (sd_nil))) (sd_cl 2 g hf_law_take no_das (sd_cons (sd_var 0) (sd_cons (sd_int) (sd_nil))) (by decide))) (sd_nil))))) (ss_cons (ss_set 6 sc.nd (sd_callT so_tuple (by rfl) T.n_tuple (by decide +kernel) (sd_cons (sd_fz (sl_comp (own := [("j", 7)]) [7] rfl rfl sc.nd (si_range1 (by rfl) T.n_range (sd_cons (sd_cl 2 g hf_law_take no_das (sd_cons (sd_var 0) (sd_cons (sd_int) (sd_nil))) (by decide)) (sd_nil))) (blkOk_by (N := ["store", "world", "depth", "node", "k", "leaf", "steps", "j", "sides"]) (sc := defScope (top 14)) (by decide +kernel)) (fun _ _ _ _ _ => sv_name 7 sc.nd) (fun _ _ _ _ _ => st_nil) (fun _ _ _ _ _ => sd_cl 5 (Cg.blk g) hf_law_any_use no_das (sd_cons (sd_var 0) (sd_cons (sd_var 1) (sd_cons (sd_int) (sd_nil)))) (by decide)))) (sd_nil)))) (ss_cons (ss_set 8 sc.nd (sd_ix so_ix (sd_fz (sl_disp (sd_cons (sd_tup (sd_cons (sd_var 3) (sd_cons (sd_var 5) (sd_nil)))) (sd_cons (sd_tup (sd_cons (sd_var 5) (sd_cons (sd_var 3) (sd_nil)))) (sd_nil))))) (sd_cl 2 g hf_law_take no_das (sd_cons (sd_var 0) (sd_cons (sd_int) (sd_nil))) (by decide)))) (ss_one (ss_set 3 sc.nd (sd_tup (sd_cons (sd_str) (sd_cons (sd_var 6) (sd_cons (sd_cl 5 g hf_law_any_use no_das (sd_cons (sd_var 0) (sd_cons (sd_var 1) (sd_cons (sd_int) (sd_nil)))) (by decide)) (sd_cons (sd_ix so_ix (sd_var 8) (sd_int)) (sd_cons (sd_ix so_ix (sd_var 8) (sd_int)) (sd_nil))))))))))))) (ss_one (ss_ret (sd_var 3)))))
theorem scf_law_even_tree : FnScope ["store", "world", "depth", "bounds", "step", "node", "inner", "k"] ["store", "world", "depth"] (defScope (top 15)) := ⟨rfl, rfl, rfl, by decide +kernel, rfl, by decide +kernel, by decide +kernel⟩
theorem wf_law_even_tree (T : Tx K mg) (hm : mg "_law_even_tree" = some (.ref (He.fAd K df_law_even_tree.at_))) {fd : FuncData} (F : FunD K "_law_even_tree" "_law_even_tree" (defArgs (top 15)) (defBody (top 15)) (defScope (top 15)) [] [] (He.fAd K df_law_even_tree.at_) fd) (hf_law_take : Has P w K mg base 2 "_law_take" 2 f_law_take []) (hf_law_any_use : Has P w K mg base 5 "_law_any_use" 3 f_law_any_use []) : Has P w K mg base 6 "_law_even_tree" 3 f_law_even_tree [] := by
  have sc := scf_law_even_tree
  refine ⟨_, fd, ["store", "world", "depth"], [], hm, F.kp, FnG.mono (j := 6) (def_ok F sc fun cdv A outer s H E g => ?_) (by decide), FunD.bindsN (ps := ["store", "world", "depth"]) F fun _ _ _ _ _ _ us hl => match us, hl with | [_, _, _], _ => rfl, .nil⟩
  exact (ss_cons (ss_set 3 sc.nd (sd_fz (sl_disp (sd_cons (sd_int) (sd_cons (sd_int) (sd_cons (sd_int) (sd_cons (sd_int) (sd_cons (sd_int) (sd_cons (sd_int) (sd_cons (sd_int) (sd_cons (sd_int) (sd_cons (sd_int) (sd_nil))))))))))))) (ss_cons (ss_set 4 sc.nd (sd_cl 5 g hf_law_any_use no_das (sd_cons (sd_var 0) (sd_cons (sd_var 1) (sd_cons (sd_int) (sd_nil)))) (by decide))) (ss_cons (ss_set 5 sc.nd (sd_tup (sd_cons (sd_str) (sd_cons (sd_bin so_mul (sd_tup (sd_cons (sd_var 4) (sd_nil))) (sd_cl 2 g hf_law_take no_das (sd_cons (sd_var 0) (sd_cons (sd_bin so_add (sd_ix so_ix (sd_var 3) (sd_var 2)) (sd_int)) (sd_nil))) (by decide))) (sd_nil))))) (ss_cons (ss_set 6 sc.nd (sd_cl 2 g hf_law_take no_das (sd_cons (sd_var 0) (sd_cons (sd_ix so_ix (sd_var 3) (sd_var 2)) (sd_nil))) (by decide))) (ss_cons (ss_for g.po rfl (si_range1 (by rfl) T.n_range (sd_cons (sd_var 2) (sd_nil))) (sg_name 7 sc.nd) (ss_one (ss_set 5 sc.nd (sd_tup (sd_cons (sd_str) (sd_cons (sd_bin so_mul (sd_tup (sd_cons (sd_var 4) (sd_nil))) (sd_var 6)) (sd_cons (sd_cl 5 g hf_law_any_use no_das (sd_cons (sd_var 0) (sd_cons (sd_var 1) (sd_cons (sd_int) (sd_nil)))) (by decide)) (sd_cons (sd_var 5) (sd_cons (sd_var 5) (sd_nil)))))))))) (ss_one (ss_ret (sd_var 5))))))))
theorem scf_law_draw : FnScope ["store", "world", "kind", "uses", "k", "many", "depth"] ["store", "world"] (defScope (top 16)) := ⟨rfl, rfl, rfl, by decide +kernel, rfl, by decide +kernel, by decide +kernel⟩
theorem wf_law_draw (T : Tx K mg) (hm : mg "_law_draw" = some (.ref (He.fAd K df_law_draw.at_))) {fd : FuncData} (F : FunD K "_law_draw" "_law_draw" (defArgs (top 16)) (defBody (top 16)) (defScope (top 16)) [] [] (He.fAd K df_law_draw.at_) fd) (hf_law_take : Has P w K mg base 2 "_law_take" 2 f_law_take []) (hf_law_pick : Has P w K mg base 3 "_law_pick" 2 f_law_pick []) (hf_law_any_use : Has P w K mg base 5 "_law_any_use" 3 f_law_any_use []) (hf_law_any_tree : Has P w K mg base 17 "_law_any_tree" 3 (f_law_any_tree 12) []) (hf_law_row_tree : Has P w K mg base 6 "_law_row_tree" 3 f_law_row_tree []) (hf_law_even_tree : Has P w K mg base 6 "_law_even_tree" 3 f_law_even_tree []) : Has P w K mg base 18 "_law_draw" 2 f_law_draw [] := by
  have sc := scf_law_draw
  refine ⟨_, fd, ["store", "world"], [], hm, F.kp, FnG.mono (j := 18) (def_ok F sc fun cdv A outer s H E g => ?_) (by decide), FunD.bindsN (ps := ["store", "world"]) F fun _ _ _ _ _ _ us hl => match us, hl with | [_, _], _ => rfl, .nil⟩
  exact (ss_cons (ss_set 2 sc.nd (sd_cl 2 g hf_law_take no_das (sd_cons (sd_var 0) (sd_cons (sd_int) (sd_nil))) (by decide))) (ss_cons (ss_if (sd_tcmp (so_eq g.rm.units) (sd_var 2) (sd_int)) (ss_cons (ss_set 3 sc.nd (sd_callT so_tuple (by rfl) T.n_tuple (by decide +kernel) (sd_cons (sd_fz (sl_comp (own := [("k", 4)]) [4] rfl rfl sc.nd (si_range1 (by rfl) T.n_range (sd_cons (sd_int) (sd_nil))) (blkOk_by (N := ["store", "world", "kind", "uses", "k", "many", "depth"]) (sc := defScope (top 16)) (by decide +kernel)) (fun _ _ _ _ _ => sv_name 4 sc.nd) (fun _ _ _ _ _ => st_nil) (fun _ _ _ _ _ => sd_cl 5 (Cg.blk g) hf_law_any_use no_das (sd_cons (sd_var 0) (sd_cons (sd_var 1) (sd_cons (sd_int) (sd_nil)))) (by decide)))) (sd_nil)))) (ss_cons (ss_set 5 sc.nd (sd_cl 3 g hf_law_pick no_das (sd_cons (sd_var 0) (sd_cons (sd_fz (sl_disp (sd_cons (sd_cl 2 g hf_law_take no_das (sd_cons (sd_var 0) (sd_cons (sd_int) (sd_nil))) (by decide)) (sd_cons (sd_int) (sd_cons (sd_int) (sd_cons (sd_int) (sd_nil))))))) (sd_nil))) (by decide))) (ss_one (ss_ret (sd_tup (sd_cons (sd_str) (sd_cons (sd_slice (sd_bin so_mul (sd_var 3) (sd_int)) (sp_no) (sp_of (sd_var 5))) (sd_nil)))))))) (ss_nil)) (ss_cons (ss_set 6 sc.nd (sd_cl 2 g hf_law_take no_das (sd_cons (sd_var 0) (sd_cons (sd_int) (sd_nil))) (by decide))) (ss_cons (ss_if (sd_tcmp (so_eq g.rm.units) (sd_var 2) (sd_int)) (ss_one (ss_ret (sd_cl 6 g hf_law_even_tree no_das (sd_cons (sd_var 0) (sd_cons (sd_var 1) (sd_cons (sd_var 6) (sd_nil)))) (by decide)))) (ss_nil)) (ss_cons (ss_if (sd_tcmp so_lt (sd_var 2) (sd_int)) (ss_one (ss_ret (sd_cl 6 g hf_law_row_tree no_das (sd_cons (sd_var 0) (sd_cons (sd_var 1) (sd_cons (sd_var 6) (sd_nil)))) (by decide)))) (ss_nil)) (ss_one (ss_ret (sd_cl 17 g hf_law_any_tree no_das (sd_cons (sd_var 0) (sd_cons (sd_var 1) (sd_cons (sd_ix so_ix (sd_fz (sl_disp (sd_cons (sd_int) (sd_cons (sd_int) (sd_cons (sd_int) (sd_cons (sd_var 6) (sd_nil))))))) (sd_bin so_sub (sd_var 2) (sd_int))) (sd_nil)))) (by decide)))))))))
theorem scf_law_count : FnScope ["tree", "parts", "sizes", "k", "node", "depth"] ["tree"] (defScope (top 17)) := ⟨rfl, rfl, rfl, by decide +kernel, rfl, by decide +kernel, by decide +kernel⟩
theorem wf_law_count (T : Tx K mg) (hm : mg "_law_count" = some (.ref (He.fAd K df_law_count.at_))) {fd : FuncData} (F : FunD K "_law_count" "_law_count" (defArgs (top 17)) (defBody (top 17)) (defScope (top 17)) [] [] (He.fAd K df_law_count.at_) fd)  : Has P w K mg base 1 "_law_count" 1 f_law_count [] := by
  have sc := scf_law_count
  refine ⟨_, fd, ["tree"], [], hm, F.kp, FnG.mono (j := 1) (def_ok F sc fun cdv A outer s H E g => ?_) (by decide), FunD.bindsN (ps := ["tree"]) F fun _ _ _ _ _ _ us hl => match us, hl with | [_], _ => rfl, .nil⟩
  exact (ss_cons (ss_set 1 sc.nd (sd_nw (sl_disp (sd_cons (sd_tup (sd_cons (sd_var 0) (sd_cons (sd_int) (sd_nil)))) (sd_nil))))) (ss_cons (ss_set 2 sc.nd (sd_nw (sl_disp (sd_cons (sd_int) (sd_cons (sd_int) (sd_cons (sd_int) (sd_cons (sd_int) (sd_nil)))))))) (ss_cons (ss_for g.po rfl (si_range1 (by rfl) T.n_range (sd_cons (sd_int) (sd_nil))) (sg_name 3 sc.nd) (ss_cons (ss_if (sd_tcmp so_ge (sd_var 3) (sd_callB so_len (by rfl) T.n_len (by decide +kernel) (sd_cons (sd_var 1) (sd_nil)))) (ss_one (ss_break)) (ss_nil)) (ss_cons (ss_asg (sd_ix so_ix (sd_var 1) (sd_var 3)) (sg_tup (n := 2) rfl rfl (sg_cons (sg_name 4 sc.nd) (sg_cons (sg_name 5 sc.nd) (sg_nil))))) (ss_cons (ss_put so_put (sd_var 2) (sd_int) (sd_bin so_add (sd_ix so_ix (sd_var 2) (sd_int)) (sd_callB so_len (by rfl) T.n_len (by decide +kernel) (sd_cons (sd_ix so_ix (sd_var 4) (sd_int)) (sd_nil))))) (ss_cons (ss_put so_put (sd_var 2) (sd_int) (sd_callB (so_max2 rfl) (by rfl) T.n_max (by decide +kernel) (sd_cons (sd_ix so_ix (sd_var 2) (sd_int)) (sd_cons (sd_var 5) (sd_nil))))) (ss_one (ss_if (sd_tcmp (so_eq g.rm.units) (sd_ix so_ix (sd_var 4) (sd_int)) (sd_str)) (ss_one (ss_put so_put (sd_var 2) (sd_int) (sd_bin so_add (sd_ix so_ix (sd_var 2) (sd_int)) (sd_int)))) (ss_cons (ss_put so_put (sd_var 2) (sd_int) (sd_bin so_add (sd_ix so_ix (sd_var 2) (sd_int)) (sd_int))) (ss_cons (ss_expr (sd_meth ty_lst PySem.F.plainAttrs_list PySem.F.slot_list_append PySem.F.type_list_append so_append (sd_var 1) (sd_cons (sd_tup (sd_cons (sd_ix so_ix (sd_var 4) (sd_int)) (sd_cons (sd_bin so_add (sd_var 5) (sd_int)) (sd_nil)))) (sd_nil)))) (ss_one (ss_expr (sd_meth ty_lst PySem.F.plainAttrs_list PySem.F.slot_list_append PySem.F.type_list_append so_append (sd_var 1) (sd_cons (sd_tup (sd_cons (sd_ix so_ix (sd_var 4) (sd_int)) (sd_cons (sd_bin so_add (sd_var 5) (sd_int)) (sd_nil)))) (sd_nil)))))))))))))) (ss_one (ss_ret (sd_callT so_tuple (by rfl) T.n_tuple (by decide +kernel) (sd_cons (sd_var 2) (sd_nil))))))))
theorem scf_law_v10 : FnScope ["script", "store", "world", "first", "second", "due", "other", "both", "whole"] ["script"] (defScope (top 18)) := ⟨rfl, rfl, rfl, by decide +kernel, rfl, by decide +kernel, by decide +kernel⟩
theorem wf_law_v10 (T : Tx K mg) {fd : FuncData} (F : FunD K "law" "law" (defArgs (top 18)) (defBody (top 18)) (defScope (top 18)) [] [] (He.fAd K df_law_v10.at_) fd) (hf_tree_size : Has P w K mg base 12 "tree_size" 1 (f_tree_size 12) []) (hf_law_store : Has P w K mg base 1 "_law_store" 1 f_law_store []) (hf_law_take : Has P w K mg base 2 "_law_take" 2 f_law_take []) (hf_law_pick : Has P w K mg base 3 "_law_pick" 2 f_law_pick []) (hf_law_realm : Has P w K mg base 4 "_law_realm" 2 f_law_realm []) (hf_law_exact : Has P w K mg base 1 "_law_exact" 2 f_law_exact []) (hf_law_any_use : Has P w K mg base 5 "_law_any_use" 3 f_law_any_use []) (hf_law_draw : Has P w K mg base 18 "_law_draw" 2 f_law_draw []) (hf_law_count : Has P w K mg base 1 "_law_count" 1 f_law_count []) : FnG P w K mg base (L2.CX P w) 19 (He.fAd K df_law_v10.at_) fd ["script"] (spF K 1 f_law_v10) := by
  have sc := scf_law_v10
  refine FnG.mono (j := 19) (def_ok F sc fun cdv A outer s H E g => ?_) (by decide)
  exact (ss_cons (ss_set 1 sc.nd (sd_cl 1 g hf_law_store no_das (sd_cons (sd_var 0) (sd_nil)) (by decide))) (ss_cons (ss_set 2 sc.nd (sd_cl 4 g hf_law_realm no_das (sd_cons (sd_var 1) (sd_cons (sd_cl 3 g hf_law_pick no_das (sd_cons (sd_var 1) (sd_cons (sd_fz (sl_disp (sd_cons (sd_int) (sd_cons (sd_int) (sd_cons (sd_int) (sd_cons (sd_int) (sd_cons (sd_int) (sd_cons (sd_int) (sd_cons (sd_int) (sd_cons (sd_bin so_add (sd_int) (sd_cl 2 g hf_law_take no_das (sd_cons (sd_var 1) (sd_cons (sd_int) (sd_nil))) (by decide))) (sd_nil))))))))))) (sd_nil))) (by decide)) (sd_nil))) (by decide))) (ss_cons (ss_set 3 sc.nd (sd_cl 18 g hf_law_draw no_das (sd_cons (sd_var 1) (sd_cons (sd_var 2) (sd_nil))) (by decide))) (ss_cons (ss_set 4 sc.nd (sd_cl 18 g hf_law_draw no_das (sd_cons (sd_var 1) (sd_cons (sd_var 2) (sd_nil))) (by decide))) (ss_cons (ss_set 5 sc.nd (sd_cl 1 g hf_law_count no_das (sd_cons (sd_var 3) (sd_nil)) (by decide))) (ss_cons (ss_set 6 sc.nd (sd_cl 1 g hf_law_count no_das (sd_cons (sd_var 4) (sd_nil)) (by decide))) (ss_cons (ss_if (PW.pt (sd_or (sd_tnot (sd_tval (sd_cl 1 g hf_law_exact no_das (sd_cons (sd_cl 12 g hf_tree_size no_das (sd_cons (sd_var 3) (sd_nil)) (by decide)) (sd_cons (sd_var 5) (sd_nil))) (by decide)))) (sd_or1 (sd_tnot (sd_tval (sd_cl 1 g hf_law_exact no_das (sd_cons (sd_cl 12 g hf_tree_size no_das (sd_cons (sd_var 4) (sd_nil)) (by decide)) (sd_cons (sd_var 6) (sd_nil))) (by decide))))))) (ss_one (ss_ret (sd_bl))) (ss_nil)) (ss_cons (ss_if (PW.pt (sd_and (sd_tcmp so_lt (sd_callB (so_max2 rfl) (by rfl) T.n_max (by decide +kernel) (sd_cons (sd_ix so_ix (sd_var 5) (sd_int)) (sd_cons (sd_ix so_ix (sd_var 6) (sd_int)) (sd_nil)))) (sd_int)) (sd_and1 (sd_tcmp so_lt (sd_bin so_add (sd_bin so_add (sd_bin so_add (sd_ix so_ix (sd_var 5) (sd_int)) (sd_ix so_ix (sd_var 5) (sd_int))) (sd_ix so_ix (sd_var 6) (sd_int))) (sd_ix so_ix (sd_var 6) (sd_int))) (sd_int))))) (ss_cons (ss_set 7 sc.nd (sd_tup (sd_cons (sd_str) (sd_cons (sd_tup (sd_nil)) (sd_cons (sd_cl 5 g hf_law_any_use no_das (sd_cons (sd_var 1) (sd_cons (sd_var 2) (sd_cons (sd_int) (sd_nil)))) (by decide)) (sd_cons (sd_var 3) (sd_cons (sd_var 4) (sd_nil)))))))) (ss_cons (ss_set 8 sc.nd (sd_tup (sd_cons (sd_bin so_add (sd_ix so_ix (sd_var 5) (sd_int)) (sd_ix so_ix (sd_var 6) (sd_int))) (sd_cons (sd_bin so_add (sd_bin so_add (sd_ix so_ix (sd_var 5) (sd_int)) (sd_ix so_ix (sd_var 6) (sd_int))) (sd_int)) (sd_cons (sd_bin so_add (sd_ix so_ix (sd_var 5) (sd_int)) (sd_ix so_ix (sd_var 6) (sd_int))) (sd_cons (sd_bin so_add (sd_callB (so_max2 rfl) (by rfl) T.n_max (by decide +kernel) (sd_cons (sd_ix so_ix (sd_var 5) (sd_int)) (sd_cons (sd_ix so_ix (sd_var 6) (sd_int)) (sd_nil)))) (sd_int)) (sd_nil))))))) (ss_one (ss_if (sd_tnot (sd_tval (sd_cl 1 g hf_law_exact no_das (sd_cons (sd_cl 12 g hf_tree_size no_das (sd_cons (sd_var 7) (sd_nil)) (by decide)) (sd_cons (sd_var 8) (sd_nil))) (by decide)))) (ss_one (ss_ret (sd_bl))) (ss_nil))))) (ss_nil)) (ss_one (ss_ret (sd_cl 1 g hf_law_exact no_das (sd_cons (sd_cl 12 g hf_tree_size no_das (sd_cons (sd_var 3) (sd_nil)) (by decide)) (sd_cons (sd_var 5) (sd_nil))) (by decide))))))))))))
end
end Pk55

namespace Q
open PySem PySem.Spec PyProof.Rows L2 Ab
/-! ### the law's draws (common to all laws) -/
def mix (a b : Int) : Int :=
  let one := (a * 48271 + b * 69621 + 11) % 2147483647
  let two := (one * one + one * 40692 + b) % 2147483399
  let three := (two * two + two * 16807 + one) % 2147483629
  three * 2147483399 + two
theorem mix_run (a b : Int) (h : AH) : f_law_mix [.int a, .int b] h = .ok (.int (mix a b)) h := by
  simp [f_law_mix, runS_run, bf_law_mix, mix]
/-- a draw below many -/
def Dr (many r : Int) : Prop := 0 ≤ r ∧ (1 ≤ many → r < many) ∧ (many ≤ 1 → r = 0)
theorem dr_mod {many x : Int} (h : ¬ many ≤ 1) : Dr many (x % many) := ⟨Int.emod_nonneg _ (by omega), fun _ => Int.emod_lt_of_pos _ (by omega), fun z => absurd z h⟩
theorem take_run {h : AH} {s : Nat} {many : Int} (z : Stored h s) (hm : many < 1073741824) : ∃ r h', f_law_take [.li s, .int many] h = .ok (.int r) h' ∧ Kp s h h' ∧ h'.length = h.length ∧ Dr many r := by
  have z' := z
  obtain ⟨cells, i, l, t, n, tot, e, hi⟩ := z'
  unfold stc at e
  by_cases c1 : many ≤ 1
  · exact ⟨0, h, by simp [f_law_take, runS_run, bf_law_take, c1], Kp.refl z, rfl, by unfold Dr; omega⟩
  · have p1 : 0 < many := by omega
    by_cases c2 : l > 0
    · refine ⟨l % many, h.set s (stc cells i (l / many) t (n + 1) tot), ?_, Kp.put e hi, by simp, dr_mod c1⟩
      simp [f_law_take, runS_run, bf_law_take, c1, c2, e, ixN, stc, List.getElem?_set_self', p1, hm, List.set_set]
    · by_cases c3 : i ≥ cells.length
      · refine ⟨mix tot (n + 1) % many, h.set s (stc cells i l t (n + 1) tot), ?_, Kp.put e hi, by simp, dr_mod c1⟩
        simp [f_law_take, runS_run, bf_law_take, c1, c2, c3, e, ixN, stc, List.getElem?_set_self', p1, hm, List.set_set, mix_run]
      · obtain ⟨j, rfl⟩ := Int.eq_ofNat_of_zero_le hi
        have hj : j < cells.length := by omega
        have at_ : atI (cells.map A.int) (j : Int) = some (.int cells[j]) := atI_nat (by simp [hj])
        by_cases c4 : cells[j] ≥ 1000000000000000000
        · refine ⟨cells[j] % many, h.set s (stc cells (j + 1) (cells[j] / many) t (n + 1) tot), ?_, Kp.put e (by omega), by simp, dr_mod c1⟩
          simp [f_law_take, runS_run, bf_law_take, c1, c2, c3, c4, at_, e, ixN, stc, List.getElem?_set_self', p1, hm, List.set_set, mix_run]
        · by_cases c5 : t + 1 ≥ 4
          · refine ⟨mix cells[j] (n + 1) % many, h.set s (stc cells (j + 1) l 0 (n + 1) tot), ?_, Kp.put e (by omega), by simp, dr_mod c1⟩
            simp [f_law_take, runS_run, bf_law_take, c1, c2, c3, c4, c5, at_, e, ixN, stc, List.getElem?_set_self', p1, hm, List.set_set, mix_run]
          · refine ⟨mix cells[j] (n + 1) % many, h.set s (stc cells j l (t + 1) (n + 1) tot), ?_, Kp.put e (by omega), by simp, dr_mod c1⟩
            simp [f_law_take, runS_run, bf_law_take, c1, c2, c3, c4, c5, at_, e, ixN, stc, List.getElem?_set_self', p1, hm, List.set_set, mix_run]
/-- a draw as a number -/
theorem take_nat {h : AH} {s n : Nat} (z : Stored h s) (h1 : 1 ≤ n) (hm : n < 1073741824) : ∃ r h', f_law_take [.li s, .int (n : Int)] h = .ok (.int (r : Nat)) h' ∧ Kp s h h' ∧ h'.length = h.length ∧ r < n := by
  obtain ⟨r, h', e, k, l, d1, d2, d3⟩ := take_run (many := n) z (by omega)
  obtain ⟨j, rfl⟩ := Int.eq_ofNat_of_zero_le d1
  exact ⟨j, h', e, k, l, by have := d2 (by omega); omega⟩
theorem pick_lst {h : AH} {s : Nat} {xs : List A} (z : Stored h s) (h0 : 0 < xs.length) (hm : xs.length < 1073741824) : ∃ x h', f_law_pick [.li s, .lst xs] h = .ok x h' ∧ x ∈ xs ∧ Kp s h h' ∧ h'.length = h.length := by
  obtain ⟨j, h', e, k, l, hj⟩ := take_nat (n := xs.length) z h0 hm
  refine ⟨xs[j], h', ?_, List.getElem_mem hj, k, l⟩
  simp [f_law_pick, runS_run, bf_law_pick, e, atI_of hj]
theorem pick_str {h : AH} {s : Nat} {t : Str} (z : Stored h s) (h0 : 0 < t.length) (hm : t.length ≤ 100000) : ∃ c h', f_law_pick [.li s, .str t] h = .ok (.str (mk [c])) h' ∧ c ∈ cd t ∧ Kp s h h' ∧ h'.length = h.length := by
  obtain ⟨j, h', e, k, l, hj⟩ := take_nat (n := t.length) z h0 (by omega)
  have hj' : j < (cd t).length := by rw [cd_len]; exact hj
  refine ⟨(cd t)[j], h', ?_, List.getElem_mem hj', k, l⟩
  have ha : atI (cd t) (j : Int) = some (cd t)[j] := atI_nat (List.getElem?_eq_getElem hj')
  simp [f_law_pick, runS_run, bf_law_pick, e, ha, sz, hm, mk]
/-- the store is made -/
theorem store_run (ns : List Int) (hn : ns.length ≤ 63) : ∃ s h', f_law_store [.lst (ns.map .int)] [] = .ok (.li s) h' ∧ Stored h' s := by
  have loop : ∀ v3, ∃ (v3' : Option A) (cs : List Int) (tot : Int), bf_law_store_L1 [some (.lst (ns.map .int)), some (.li 0), some (.int 5), v3] [.lst []] = .nx [some (.lst (ns.map .int)), some (.li 0), some (.int tot), v3'] [.lst (cs.map .int)] := by
    intro v3
    have cut : cutA (ns.map A.int) none (some 63) = ns.map A.int := (cutA_take 63).trans (List.take_of_length_le (by simp; omega))
    have key := forL_all (chk := fun _ => True) (g := tgN 3) (b := bf_law_store_B1) (xs := ns.map A.int) (ρ := [some (.lst (ns.map .int)), some (.li 0), some (.int 5), v3]) (h := [.lst []])
      (fun i ρ h => ∃ (cs : List Int) (tot : Int) (v : Option A), cs.length = i ∧ ρ = [some (.lst (ns.map .int)), some (.li 0), some (.int tot), v] ∧ h = [.lst (cs.map .int)]) ⟨[], 5, v3, rfl, rfl, rfl⟩ (fun _ _ _ _ => trivial)
      (fun i ρ h hi p => by
        obtain ⟨cs, tot, v, hc, rfl, rfl⟩ := p
        simp only [List.length_map] at hi
        refine ⟨_, rfl, _, _, .inl ?_, cs ++ [ns[i]], (tot * 65599 + ns[i] % 2147483629 + 1) % 2147483647, some (.int ns[i]), by simp [hc], rfl, rfl⟩
        have hlen : cs.length < 100000 := by omega
        simp [bf_law_store_B1, isLst_li, hlen])
    obtain ⟨ρ', h', e, cs, tot, v, hc, rfl, rfl⟩ := key
    refine ⟨v, cs, tot, ?_⟩
    simp [bf_law_store_L1, oSl, cut, lstOf, e]
  obtain ⟨v3', cs, tot, e⟩ := loop none
  refine ⟨1, [.dead, stc cs 0 0 0 0 tot], ?_, cs, 0, 0, 0, 0, tot, rfl, by omega⟩
  simp [f_law_store, runS_run, bf_law_store, e, stc]
theorem chance_run {h : AH} {s : Nat} {many : Int} (z : Stored h s) (hm : many < 1073741824) : ∃ b h', f_law_chance [.li s, .int many] h = .ok (.bl b) h' ∧ Kp s h h' ∧ h'.length = h.length := by
  obtain ⟨r, h', e, k, l, d⟩ := take_run (many := many) z hm
  exact ⟨decide (r = 0), h', by simp [f_law_chance, runS_run, bf_law_chance, e], k, l⟩
end Q

namespace Q
open PySem PySem.Spec PyProof.Rows L2 Ab
/-! ### a drawn world -/
theorem pre_lt (x : Nat) (r : List Nat) : ∀ p : List Nat, p < p ++ (x :: r)
  | [] => List.nil_lt_cons x r
  | y :: p => List.cons_lt_cons_iff.mpr (.inr ⟨rfl, pre_lt x r p⟩)
theorem take_lt {l : List Nat} {a b : Nat} (h : a < b) (hb : b ≤ l.length) : l.take a < l.take b := by
  have e : l.take b = l.take a ++ (l.drop a).take (b - a) := by
    have := List.take_append_drop a (l.take b)
    rw [List.take_take, Nat.min_eq_left (by omega), List.drop_take] at this
    exact this.symm
  rw [e]
  cases q : (l.drop a).take (b - a) with
  | nil =>
    have := congrArg List.length q
    simp at this
    omega
  | cons x r => exact pre_lt x r _
theorem mem_alpha {L : Str} (hL : cd L = List.range' 97 26) {c : Nat} (h : c ∈ cd L) : 97 ≤ c ∧ c ≤ 122 := by
  rw [hL, List.mem_range'_1] at h; omega
theorem len_alpha {L : Str} (hL : cd L = List.range' 97 26) : L.length = 26 := by rw [← cd_len, hL]; rfl
theorem letter1 {h : AH} {s : Nat} {L : Str} (hL : cd L = List.range' 97 26) (z : Stored h s) : ∃ c h', f_law_pick [.li s, .str L] h = .ok (.str (mk [c])) h' ∧ (97 ≤ c ∧ c ≤ 122) ∧ Kp s h h' ∧ h'.length = h.length := by
  have hl := len_alpha hL
  obtain ⟨c, h', e, hc, k, l⟩ := pick_str (t := L) z (by rw [hl]; decide) (by rw [hl]; decide)
  exact ⟨c, h', e, mem_alpha hL hc, k, l⟩
/-- some letters, one by one -/
theorem letters_of {ys : List A} (h : ∀ (i : Nat) (y : A), ys[i]? = some y → ∃ c, y = .str (mk [c]) ∧ 97 ≤ c ∧ c ≤ 122) : ∃ cs : List Nat, ys = cs.map (fun c => A.str (mk [c])) ∧ ∀ c ∈ cs, 97 ≤ c ∧ c ≤ 122 := by
  induction ys with
  | nil => exact ⟨[], rfl, fun c hc => by cases hc⟩
  | cons y ys ih =>
    obtain ⟨c, rfl, hc⟩ := h 0 y rfl
    obtain ⟨cs, rfl, hcs⟩ := ih fun i y e => h (i + 1) y (by simpa using e)
    exact ⟨c :: cs, rfl, fun d hd => by
      rcases List.mem_cons.mp hd with q | q
      · rw [q]; exact hc
      · exact hcs d q⟩
theorem strsOf_letters (cs : List Nat) : strsOf (cs.map fun c => A.str (mk [c])) = some (cs.map fun c => mk [c]) := by
  have := strsOf_map (cs.map fun c => mk [c])
  rwa [List.map_map] at this
theorem join_letters (cs : List Nat) : joinS (Str.ofString "") (cs.map fun c => mk [c]) = mk cs := by
  refine cd_inj ?_
  rw [cd_join, List.map_map]
  show (cs.map fun c => [c]).flatten = cs
  induction cs with
  | nil => rfl
  | cons c cs ih => simp [ih]
theorem len_letters (cs : List Nat) : ((cs.map fun c => mk [c]).map (·.length)).sum = cs.length := by
  induction cs with
  | nil => rfl
  | cons c cs ih =>
    have e : (mk [c]).length = 1 := rfl
    simp only [List.map_cons, List.sum_cons, List.length_cons, ih, e]
    omega
theorem letters_comp {h : AH} {s n slot : Nat} {L : Str} (hL : cd L = List.range' 97 26) (z : Stored h s) (hn : n ≤ 100000) {ρ : Ab.Env} (h0 : ρ[0]? = some (some (.li s))) (h2 : ρ[2]? = some (some (.str L))) (hs : 2 < slot) :
    ∃ (cs : List Nat) (h' : AH), compL (fun _ => True) (tgN slot) tYesA (eF 2 f_law_pick (aCons (eVar 0) (aCons (eVar 2) (aNil))) []) ρ (rangeA 0 n) h [] = .ok (cs.map fun c => A.str (mk [c])) h' ∧ cs.length = n ∧ (∀ c ∈ cs, 97 ≤ c ∧ c ≤ 122) ∧ Kp s h h' ∧ h'.length = h.length := by
  obtain ⟨ys, h', e, ⟨k, l⟩, hl, hr⟩ := compL_each (chk := fun _ => True) (g := tgN slot) (f := eF 2 f_law_pick (aCons (eVar 0) (aCons (eVar 2) (aNil))) []) (ρ := ρ) (xs := rangeA 0 n) (h := h)
    (fun h' => Kp s h h' ∧ h'.length = h.length) (fun _ y => ∃ c, y = .str (mk [c]) ∧ 97 ≤ c ∧ c ≤ 122) (by rw [rangeA_length]; exact hn) ⟨Kp.refl z, rfl⟩ (fun _ _ => trivial) (fun i h1 hi ⟨k1, l1⟩ => by
      obtain ⟨c, h3, e2, hc, k2, l2⟩ := letter1 hL k1.st
      refine ⟨_, tgN_run, .str (mk [c]), h3, ?_, ⟨k1.trans k2, l2.trans l1⟩, c, rfl, hc⟩
      have n0 : slot ≠ 0 := by omega
      have n2 : slot ≠ 2 := by omega
      simp [List.getElem?_set_ne n0, List.getElem?_set_ne n2, h0, h2, e2])
  obtain ⟨cs, rfl, hcs⟩ := letters_of hr
  exact ⟨cs, h', e, by rw [List.length_map, rangeA_length] at hl; exact hl, hcs, k, l⟩
theorem realm_C1u {h : AH} {s : Nat} {L : Str} (v1 v3 v4 v5 v6 v7 v8 v9 v10 : Option A) : bf_law_realm_C1 [some (.li s), v1, some (.str L), v3, v4, v5, v6, v7, v8, v9, v10] h = compL (fun _ => True) (tgN 4) tYesA (eF 2 f_law_pick (aCons (eVar 0) (aCons (eVar 2) (aNil))) []) [some (.li s), v1, some (.str L), v3, none, v5, v6, v7, v8, v9, v10] (rangeA 0 6) h [] := by
  simp [bf_law_realm_C1]
theorem realm_C1 {h : AH} {s : Nat} {L : Str} (hL : cd L = List.range' 97 26) (z : Stored h s) (v1 v3 v4 v5 v6 v7 v8 v9 v10 : Option A) : ∃ (cs : List Nat) (h' : AH), bf_law_realm_C1 [some (.li s), v1, some (.str L), v3, v4, v5, v6, v7, v8, v9, v10] h = .ok (cs.map fun c => A.str (mk [c])) h' ∧ cs.length = 6 ∧ (∀ c ∈ cs, 97 ≤ c ∧ c ≤ 122) ∧ Kp s h h' ∧ h'.length = h.length := by
  obtain ⟨cs, h', e, hl, hcs, k, l⟩ := letters_comp (n := 6) (slot := 4) (ρ := [some (.li s), v1, some (.str L), v3, none, v5, v6, v7, v8, v9, v10]) hL z (by decide) rfl rfl (by decide)
  rw [realm_C1u]
  exact ⟨cs, h', e, hl, hcs, k, l⟩
theorem realm_C3u {h h1 : AH} {s at_ n : Nat} {L : Str} (e1 : f_law_take [.li s, .int (6 - (at_ : Int))] h = .ok (.int (n : Nat)) h1) (hn2 : -4611686018427387904 ≤ (n : Int) ∧ (n : Int) < 4611686018427387904) (v1 v3 v4 v6 v7 v8 v9 v10 : Option A) : bf_law_realm_C3 [some (.li s), v1, some (.str L), v3, v4, some (.int (at_ : Nat)), v6, v7, v8, v9, v10] h = compL (fun _ => True) (tgN 10) tYesA (eF 2 f_law_pick (aCons (eVar 0) (aCons (eVar 2) (aNil))) []) [some (.li s), v1, some (.str L), v3, v4, some (.int (at_ : Nat)), v6, v7, v8, v9, none] (rangeA 0 n) h1 [] := by
  simp [bf_law_realm_C3, e1, hn2]
theorem realm_C3 {h : AH} {s at_ : Nat} {L : Str} (hL : cd L = List.range' 97 26) (z : Stored h s) (ha : at_ < 6) (v1 v3 v4 v6 v7 v8 v9 v10 : Option A) : ∃ (cs : List Nat) (h' : AH), bf_law_realm_C3 [some (.li s), v1, some (.str L), v3, v4, some (.int (at_ : Nat)), v6, v7, v8, v9, v10] h = .ok (cs.map fun c => A.str (mk [c])) h' ∧ cs.length < 6 - at_ ∧ (∀ c ∈ cs, 97 ≤ c ∧ c ≤ 122) ∧ Kp s h h' ∧ h'.length = h.length := by
  obtain ⟨n, h1, e1, k1, l1, hn⟩ := take_nat (n := 6 - at_) z (by omega) (by omega)
  have ec : ((6 - at_ : Nat) : Int) = 6 - (at_ : Int) := by omega
  rw [ec] at e1
  obtain ⟨cs, h', e, hl, hcs, k, l⟩ := letters_comp (n := n) (slot := 10) (ρ := [some (.li s), v1, some (.str L), v3, v4, some (.int (at_ : Nat)), v6, v7, v8, v9, none]) hL k1.st (by omega) rfl rfl (by decide)
  have hn2 : -4611686018427387904 ≤ (n : Int) ∧ (n : Int) < 4611686018427387904 := by omega
  rw [realm_C3u e1 hn2]
  exact ⟨cs, h', e, by omega, hcs, k1.trans k, l.trans l1⟩
theorem realm_turn {L : Str} (hL : cd L = List.range' 97 26) {h : AH} {s N at_ spot step k : Nat} {stem : List Nat} {ns : List Str} (z : Stored h s) (ha : at_ < 6) (hs : stem.length = 6) (hsl : ∀ c ∈ stem, 97 ≤ c ∧ c ≤ 122) (hst : step ≤ 11) (hN : N ≠ s) (en : h[N]? = some (.lst (ns.map .str))) (hn : ns.length < 100) (v1 v9 v10 : Option A) :
    ∃ (nm : Str) (h' : AH) (v9' v10' : Option A), bf_law_realm_B1 [some (.li s), v1, some (.str L), some (.str (mk stem)), some (.int (k : Nat)), some (.int (at_ : Nat)), some (.int (spot : Nat)), some (.int (step : Nat)), some (.li N), v9, v10] h =
      .nx [some (.li s), v1, some (.str L), some (.str (mk stem)), some (.int (k : Nat)), some (.int (at_ : Nat)), some (.int (spot : Nat)), some (.int (step : Nat)), some (.li N), v9', v10'] h' ∧
      Stored h' s ∧ h.length ≤ h'.length ∧ (∀ (l : Nat) (c : Cell), l ≠ s → l ≠ N → h[l]? = some c → h'[l]? = some c) ∧ h'[N]? = some (.lst ((ns ++ [nm]).map .str)) ∧ isNm nm ∧ (cd nm)[at_]? = some (97 + (spot + k * step) % 26) := by
  obtain ⟨cs, h1, e1, hc, hcl, k1, l1⟩ := realm_C3 hL z ha v1 (some (.str (mk stem))) (some (.int (k : Nat))) (some (.int (spot : Nat))) (some (.int (step : Nat))) (some (.li N)) v9 v10
  have en1 : h1[N]? = some (.lst (ns.map .str)) := k1.at_ N _ hN en
  have hNl : N < h1.length := (List.getElem?_eq_some_iff.mp en1).1
  let i := (spot + k * step) % 26
  have hi : i < 26 := Nat.mod_lt _ (by decide)
  let nm : Str := cutS (mk stem) none (some (at_ : Int)) ++ mk [97 + i] ++ mk cs
  have cnm : cd nm = stem.take at_ ++ [97 + i] ++ cs := by
    show cd (cutS (mk stem) none (some (at_ : Int)) ++ mk [97 + i] ++ mk cs) = _
    rw [cd_app, cd_app, cd_cut_take]
    rfl
  have tl : (stem.take at_).length = at_ := by simp; omega
  refine ⟨nm, h1.set N (.lst ((ns ++ [nm]).map .str)), some (.str (mk cs)), v10, ?_, Kp.other k1.st hN, by simp [k1.len], fun l c h1' h2 e => ?_, List.getElem?_set_self hNl, ⟨?_, ?_, fun c hc' => ?_⟩, ?_⟩
  · have ei : ((spot : Int) + (k : Int) * (step : Int)) % 26 = ((i : Nat) : Int) := by simp [i]
    have ha2 : atI (cd L) ((i : Nat) : Int) = some (97 + i) := by
      refine atI_nat ?_
      rw [hL, List.getElem?_range' hi]
      simp
    have hsz : L.length = 26 := len_alpha hL
    have q1 : -18446744073709551616 < (step : Int) := by omega
    have q2 : (step : Int) < 18446744073709551616 := by omega
    have z1 : (mk stem).length = 6 := hs
    have z2 : (cutS (mk stem) none (some (at_ : Int))).length ≤ 6 := by rw [← z1]; exact slen_cut _ _ _
    have z3 : (mk [97 + i]).length = 1 := rfl
    have z4 : (mk cs).length = cs.length := rfl
    have sz0 : sz L.length := by rw [hsz]; decide
    have sz1 : sz (mk stem).length := by rw [z1]; decide
    have sz2 : sz ((cutS (mk stem) none (some (at_ : Int))).length + (mk [97 + i]).length) := by unfold sz; omega
    have sz3 : sz ((cutS (mk stem) none (some (at_ : Int)) ++ mk [97 + i]).length + (mk cs).length) := by unfold sz; rw [slen_app]; omega
    have sz4 : sz (((cs.map fun c => mk [c]).map (·.length)).sum + (cs.map fun c => mk [c]).length * (Str.ofString "").length) := by
      have : (Str.ofString "").length = 0 := by decide +kernel
      rw [len_letters, this]; unfold sz; omega
    have hm : mk [97 + i] = (⟨#[97 + i]⟩ : Str) := rfl
    have jn : oJoin (.str (Str.ofString "")) [.lst (cs.map fun c => A.str (mk [c]))] h1 = some (.str (mk cs), h1) := by
      simp only [oJoin, seqOf, lstOf, strsOf_letters, if_pos sz4, join_letters]
    have hlen : (ns.map A.str).length < 100000 := by simp; omega
    simp only [bf_law_realm_B1, sSeq_run, sSet_run, eM_run, eC_run, Out.bind_ok, isStr_s, if_true, aCons_run, eFz_run, e1, aNil_run, jn, Out.of_some, Out.fl_ok, Fl.seq_nx, sExpr_run]
    simp only [List.length_map] at hlen
    simp [isLst_li, en1, oSl, sz0, sz1, q1, q2, ei, ha2, ← hm, sz2, sz3, hlen, nm]
  · rw [List.getElem?_set_ne h2.symm]
    exact k1.at_ l c h1' e
  · rw [cnm]; simp; omega
  · rw [cnm]; simp only [List.length_append, tl, List.length_singleton]; omega
  · rw [cnm] at hc'
    simp only [List.mem_append, List.mem_singleton] at hc'
    rcases hc' with (q | q) | q
    · exact hsl c (List.mem_of_mem_take q)
    · omega
    · exact hcl c q
  · rw [cnm, List.append_assoc, List.getElem?_append_right (by omega), tl, Nat.sub_self]
    rfl
end Q

namespace Q
open PySem PySem.Spec PyProof.Rows L2 Ab
theorem map_of_get {ys : List A} {n : Nat} {f : Nat → A} (hl : ys.length = n) (h : ∀ i y, ys[i]? = some y → y = f i) : ys = (List.range n).map f := by
  apply List.ext_getElem?
  intro i
  by_cases q : i < n
  · have e1 : ys[i]? = some ys[i] := List.getElem?_eq_getElem (by omega)
    rw [e1, h i _ e1, List.getElem?_map, List.getElem?_range q]
    rfl
  · rw [List.getElem?_eq_none (by omega), List.getElem?_eq_none (by simp; omega)]
theorem realm_L1 {L : Str} (hL : cd L = List.range' 97 26) {h : AH} {s N at_ spot step size : Nat} {stem : List Nat} (z : Stored h s) (ha : at_ < 6) (hs : stem.length = 6) (hsl : ∀ c ∈ stem, 97 ≤ c ∧ c ≤ 122) (hst : step ≤ 11) (hN : N ≠ s) (en : h[N]? = some (.lst [])) (hsz : size ≤ 26) (v4 v9 v10 : Option A) :
    ∃ (ns : List Str) (h' : AH) (v4' v9' v10' : Option A), bf_law_realm_L1 [some (.li s), some (.int (size : Nat)), some (.str L), some (.str (mk stem)), v4, some (.int (at_ : Nat)), some (.int (spot : Nat)), some (.int (step : Nat)), some (.li N), v9, v10] h =
      .nx [some (.li s), some (.int (size : Nat)), some (.str L), some (.str (mk stem)), v4', some (.int (at_ : Nat)), some (.int (spot : Nat)), some (.int (step : Nat)), some (.li N), v9', v10'] h' ∧
      Stored h' s ∧ h.length ≤ h'.length ∧ (∀ (l : Nat) (c : Cell), l ≠ s → l ≠ N → h[l]? = some c → h'[l]? = some c) ∧ h'[N]? = some (.lst (ns.map .str)) ∧ ns.length = size ∧ (∀ w ∈ ns, isNm w) ∧ ∀ (k : Nat) (w : Str), ns[k]? = some w → (cd w)[at_]? = some (97 + (spot + k * step) % 26) := by
  have key := forL_all (chk := fun _ => True) (g := tgN 4) (b := bf_law_realm_B1) (xs := rangeA 0 size) (ρ := [some (.li s), some (.int (size : Nat)), some (.str L), some (.str (mk stem)), v4, some (.int (at_ : Nat)), some (.int (spot : Nat)), some (.int (step : Nat)), some (.li N), v9, v10]) (h := h)
    (fun i ρ h' => ∃ (ns : List Str) (v4' v9' v10' : Option A), ρ = [some (.li s), some (.int (size : Nat)), some (.str L), some (.str (mk stem)), v4', some (.int (at_ : Nat)), some (.int (spot : Nat)), some (.int (step : Nat)), some (.li N), v9', v10'] ∧ Stored h' s ∧ h.length ≤ h'.length ∧ (∀ (l : Nat) (c : Cell), l ≠ s → l ≠ N → h[l]? = some c → h'[l]? = some c) ∧ h'[N]? = some (.lst (ns.map .str)) ∧ ns.length = i ∧ (∀ w ∈ ns, isNm w) ∧ ∀ (k : Nat) (w : Str), ns[k]? = some w → (cd w)[at_]? = some (97 + (spot + k * step) % 26))
    ⟨[], v4, v9, v10, rfl, z, Nat.le_refl _, fun _ _ _ _ e => e, en, rfl, (fun w hw => by cases hw), (fun k w e => by simp at e)⟩ (fun _ _ _ _ => trivial)
    (fun i ρ h1 hi p => by
      obtain ⟨ns, v4', v9', v10', rfl, z1, l1, f1, n1, c1, w1, a1⟩ := p
      rw [rangeA_length] at hi
      obtain ⟨nm, h2, u9, u10, e2, z2, l2, f2, n2, w2, a2⟩ := realm_turn hL (k := i) (spot := spot) (step := step) z1 ha hs hsl hst hN n1 (by omega) (some (.int (size : Nat))) v9' v10'
      refine ⟨_, tgN_run, _, h2, .inl ?_, ns ++ [nm], some (.int (i : Nat)), u9, u10, rfl, z2, Nat.le_trans l1 l2, fun l c q1 q2 e => f2 l c q1 q2 (f1 l c q1 q2 e), n2, by simp [c1], ?_, ?_⟩
      · rw [rangeA_get, Int.zero_add]
        exact e2
      · intro w hw
        rcases List.mem_append.mp hw with q | q
        · exact w1 w q
        · rw [List.mem_singleton.mp q]; exact w2
      · intro k w e
        by_cases hk : k < ns.length
        · rw [List.getElem?_append_left hk] at e
          exact a1 k w e
        · rw [List.getElem?_append_right (by omega)] at e
          have hk0 : k - ns.length = 0 := by
            cases q : k - ns.length with
            | zero => rfl
            | succ k => rw [q] at e; simp at e
          rw [hk0] at e
          simp at e
          have : k = i := by omega
          rw [← e, this]
          exact a2)
  obtain ⟨ρ', h', e, ns, v4', v9', v10', rfl, r⟩ := key
  rw [rangeA_length] at r
  refine ⟨ns, h', v4', v9', v10', ?_, r⟩
  have hn : -4611686018427387904 ≤ (size : Int) ∧ (size : Int) < 4611686018427387904 := by omega
  simp [bf_law_realm_L1, hn, e]
theorem spread {spot step j k : Nat} (hs : step = 1 ∨ step = 3 ∨ step = 5 ∨ step = 7 ∨ step = 9 ∨ step = 11) (hj : j < 26) (hk : k < 26) (e : (spot + j * step) % 26 = (spot + k * step) % 26) : j = k := by
  rcases hs with rfl | rfl | rfl | rfl | rfl | rfl <;> omega
theorem apart_nodup {ns : List Str} {at_ spot step : Nat} (hs : step = 1 ∨ step = 3 ∨ step = 5 ∨ step = 7 ∨ step = 9 ∨ step = 11) (hn : ns.length ≤ 26) (h : ∀ (k : Nat) (w : Str), ns[k]? = some w → (cd w)[at_]? = some (97 + (spot + k * step) % 26)) : ns.Nodup := by
  unfold List.Nodup
  rw [List.pairwise_iff_getElem]
  intro i j hi hj hij e
  have e1 : ns[i]? = some ns[i] := List.getElem?_eq_getElem hi
  have e2 : ns[j]? = some ns[i] := by rw [e]; exact List.getElem?_eq_getElem hj
  have h1 := h i _ e1
  have h2 := h j _ e2
  rw [h1] at h2
  injection h2 with h2
  have := spread (spot := spot) hs (by omega : i < 26) (by omega : j < 26) (by omega)
  omega
/-- the heads of a text, one sign longer each -/
theorem heads_world {stem : List Nat} {n : Nat} (hs : stem.length = 6) (hsl : ∀ c ∈ stem, 97 ≤ c ∧ c ≤ 122) (hn : n ≤ 6) : World ((List.range n).map fun (i : Nat) => cutS (mk stem) none (some ((i + 1 : Nat) : Int))) := by
  refine ⟨?_, ?_⟩
  · unfold Asc
    rw [List.pairwise_map]
    have hm : (List.range n).Pairwise fun a b => a < b := List.pairwise_lt_range
    refine (List.Pairwise.and_mem.mp hm).imp fun {a b} hab => ?_
    obtain ⟨_, hb, hlt⟩ := hab
    have hb' := List.mem_range.mp hb
    rw [cd_cut_take, cd_cut_take, cd_mk]
    exact take_lt (by omega) (by omega)
  · intro w hw
    obtain ⟨i, hi, rfl⟩ := List.mem_map.mp hw
    have hi' := List.mem_range.mp hi
    unfold isNm
    rw [cd_cut_take, cd_mk, List.length_take, hs]
    exact ⟨by omega, by omega, fun c hc => hsl c (List.mem_of_mem_take hc)⟩
theorem realm_C2 {h : AH} {stem : List Nat} {size : Nat} (hsz : size < 7) (hs : stem.length = 6) (v0 v2 v4 v5 v6 v7 v8 v9 v10 : Option A) : bf_law_realm_C2 [v0, some (.int (size : Nat)), v2, some (.str (mk stem)), v4, v5, v6, v7, v8, v9, v10] h = .ok (((List.range size).map fun (i : Nat) => cutS (mk stem) none (some ((i + 1 : Nat) : Int))).map .str) h := by
  have zs : sz (mk stem).length := by rw [show (mk stem).length = 6 from hs]; decide
  have hn : -4611686018427387904 ≤ (size : Int) ∧ (size : Int) < 4611686018427387904 := by omega
  have key := compL_pure (chk := fun _ => True) (g := tgN 4) (t := tYesA) (f := eSl (eVar 3) (pNo) (pOf (eB oAdd (eVar 4) (eC (.int 1))))) (ρ := [v0, some (.int (size : Nat)), v2, some (.str (mk stem)), none, v5, v6, v7, v8, v9, v10]) (h := h)
    (fun _ : Nat => true) (fun i => .str (cutS (mk stem) none (some ((i + 1 : Nat) : Int)))) (fun i => .int (0 + (i : Int))) trivial (xs := List.range size) (acc := []) (by simp; omega) (fun i hi => ⟨_, tgN_run, rfl, fun _ => by simp [oSl, zs]⟩)
  have e : rangeA 0 size = (List.range size).map fun (i : Nat) => A.int (0 + (i : Int)) := rfl
  have f : (List.range size).filter (fun _ => true) = List.range size := List.filter_eq_self.mpr fun _ _ => rfl
  rw [f, ← e] at key
  simp only [List.nil_append] at key
  simp [bf_law_realm_C2, hn, key, List.map_map, Function.comp_def]
theorem realm_run {h : AH} {s size : Nat} (z : Stored h s) (hsz : size ≤ 26) : ∃ ws h', f_law_realm [.li s, .int (size : Nat)] h = .ok (.tup (ws.map .str)) h' ∧ World ws ∧ ws.length = size ∧ Kp s h h' := by
  simp only [f_law_realm, runS_run, bf_law_realm, List.map_cons, List.map_nil, List.length_cons, List.length_nil, sSeq_run, sSet_run, eC_run, Out.fl_ok, Fl.seq_nx]
  have hL := cd_abc
  unfold abc at hL
  revert hL
  generalize Str.ofString "abcdefghijklmnopqrstuvwxyz" = L
  intro hL
  obtain ⟨stem, h1, e1, hs, hsl, k1, l1⟩ := realm_C1 hL z (some (.int (size : Nat))) none none none none none none none none
  obtain ⟨r, h2, e2, k2, l2, hr⟩ := take_nat (n := 7) k1.st (by decide) (by decide)
  have jn : oJoin (.str (Str.ofString "")) [.lst (stem.map fun c => A.str (mk [c]))] h1 = some (.str (mk stem), h1) := by
    have sz4 : sz (((stem.map fun c => mk [c]).map (·.length)).sum + (stem.map fun c => mk [c]).length * (Str.ofString "").length) := by
      have : (Str.ofString "").length = 0 := by decide +kernel
      rw [len_letters, this]; unfold sz; omega
    simp only [oJoin, seqOf, lstOf, strsOf_letters, if_pos sz4, join_letters]
  have e2' : f_law_take [.li s, .int 7] h1 = .ok (.int (r : Nat)) h2 := e2
  by_cases c : r = 6 ∧ size < 7
  · obtain ⟨rfl, c⟩ := c
    refine ⟨_, h2, ?_, heads_world hs hsl (by omega : size ≤ 6), by simp, k1.trans k2⟩
    have e3 := realm_C2 (h := h2) (size := size) c hs (some (.li s)) (some (.str L)) none (some (.int 6)) none none none none none
    have cI : (size : Int) < 7 := by omega
    simp [e1, jn, e2', cI, e3]
  · obtain ⟨spot, h3, e3, k3, l3, hsp⟩ := take_nat (n := 26) k2.st (by decide) (by decide)
    have e3' : f_law_take [.li s, .int 26] h2 = .ok (.int (spot : Nat)) h3 := e3
    obtain ⟨x, h4, e4, hx, k4, l4⟩ := pick_lst (xs := [.int 1, .int 3, .int 5, .int 7, .int 9, .int 11]) k3.st (by decide) (by decide)
    have hstep : ∃ step : Nat, x = .int (step : Nat) ∧ (step = 1 ∨ step = 3 ∨ step = 5 ∨ step = 7 ∨ step = 9 ∨ step = 11) := by
      simp only [List.mem_cons, List.not_mem_nil, or_false] at hx
      rcases hx with rfl | rfl | rfl | rfl | rfl | rfl
      · exact ⟨1, rfl, by decide⟩
      · exact ⟨3, rfl, by decide⟩
      · exact ⟨5, rfl, by decide⟩
      · exact ⟨7, rfl, by decide⟩
      · exact ⟨9, rfl, by decide⟩
      · exact ⟨11, rfl, by decide⟩
    obtain ⟨step, rfl, hst⟩ := hstep
    have kn : Kp s h4 (h4 ++ [.lst []]) := Kp.new k4.st
    have hNs : h4.length ≠ s := by have := k4.st.lt; omega
    have enN : (h4 ++ [Cell.lst []])[h4.length]? = some (.lst []) := by simp
    obtain ⟨ns, h5, v4', v9', v10', e5, z5, l5, f5, n5, c5, w5, a5⟩ := realm_L1 (L := L) hL (at_ := r % 6) (spot := spot) (step := step) (size := size) (stem := stem) kn.st (Nat.mod_lt _ (by decide)) hs hsl (by omega) hNs enN hsz none none none
    have em : ((r : Int) % 6) = ((r % 6 : Nat) : Int) := by omega
    refine ⟨sortS ns, h5, ?_, ⟨sortS_asc (apart_nodup hst (by omega) a5), fun w hw => w5 w ((sortS_perm ns).mem_iff.mp hw)⟩, by rw [(sortS_perm ns).length_eq, c5], z5, ?_, ?_⟩
    · have so : oSorted [.li h4.length] h5 = some ((sortS ns).map .str, h5) := oSorted_c n5
      by_cases c1 : r = 6
      · have c2 : ¬ (size : Int) < 7 := fun q => c ⟨c1, by omega⟩
        subst c1
        rw [show (((6 % 6 : Nat)) : Int) = 0 from rfl] at e5
        simp [e1, jn, e2', c2, e3', e4, e5, so]
      · have c1' : ¬ (r : Int) = 6 := by omega
        rw [← em] at e5
        simp [e1, jn, e2', c1', e3', e4, e5, so]
    · have := k1.len; have := k2.len; have := k3.len; have := k4.len; simp at l5; omega
    · intro l c hl e
      have hlt := (List.getElem?_eq_some_iff.mp e).1
      have := k1.len; have := k2.len; have := k3.len; have := k4.len
      refine f5 l c hl (by omega) ?_
      exact kn.at_ l c hl (k4.at_ l c hl (k3.at_ l c hl (k2.at_ l c hl (k1.at_ l c hl e))))
end Q

namespace Q
open PySem PySem.Spec PyProof.Rows L2 Ab
/-! ### a drawn claim -/
theorem seqIx {j n : Nat} (h : j < n) : seqIndex? (j : Int) n = some j := by
  unfold seqIndex?
  have h1 : ¬ ((j : Int) < 0) := by omega
  have h2 : (j : Int) < (n : Int) := by omega
  have h3 : (0 : Int) ≤ (j : Int) := by omega
  simp [h1, h2, h3]
theorem erase_map (f : Str → A) (rs : List Str) (j : Nat) : (rs.map f).eraseIdx j = (rs.eraseIdx j).map f := by
  rw [List.eraseIdx_eq_take_drop_succ, List.eraseIdx_eq_take_drop_succ, List.map_append, List.map_take, List.map_drop]
theorem erase_perm {rs : List Str} {j : Nat} (hj : j < rs.length) : rs.Perm (rs[j] :: rs.eraseIdx j) := by
  rw [List.eraseIdx_eq_take_drop_succ]
  have e : rs = rs.take j ++ rs[j] :: rs.drop (j + 1) := by
    rw [← List.drop_eq_getElem_cons hj, List.take_append_drop]
  exact (List.Perm.of_eq e).trans List.perm_middle
theorem popAt_strs {h : AH} {l j : Nat} {rs : List Str} (e : h[l]? = some (.lst (rs.map .str))) (hj : j < rs.length) (hn : rs.length ≤ 1000) : oPopAt (.li l) [.int (j : Nat)] h = some (.str rs[j], h.set l (.lst ((rs.eraseIdx j).map .str))) := by
  have g : Gd (-(2 ^ 63) ≤ (j : Int) ∧ (j : Int) < 2 ^ 63) := ⟨by omega, by omega⟩
  have hj' : j < (rs.map A.str).length := by simpa using hj
  have ee : (rs.map A.str).eraseIdx j = (rs.eraseIdx j).map A.str := erase_map ..
  rw [oPopAt_li, e]
  simp only [if_pos g, seqIx hj', List.getElem?_eq_getElem hj', List.getElem_map, ee]
theorem pop_run {h : AH} {s R : Nat} {rs : List Str} {ρ : Ab.Env} (z : Stored h s) (h0 : ρ[0]? = some (some (.li s))) (h5 : ρ[5]? = some (some (.li R))) (hR : R ≠ s) (er : h[R]? = some (.lst (rs.map .str))) (hn : 0 < rs.length) (hm : rs.length ≤ 1000) :
    ∃ nm rs' h', eM isLst oPopAt (eVar 5) (aCons (eF 2 f_law_take (aCons (eVar 0) (aCons (eN oLen (aCons (eVar 5) (aNil))) (aNil))) []) (aNil)) ρ h = .ok (.str nm) h' ∧ rs.Perm (nm :: rs') ∧ Stored h' s ∧ h'.length = h.length ∧ h'[R]? = some (.lst (rs'.map .str)) ∧ ∀ l c, l ≠ s → l ≠ R → h[l]? = some c → h'[l]? = some c := by
  obtain ⟨j, h1, e1, k1, l1, hj⟩ := take_nat (n := rs.length) z hn (by omega)
  have er1 := k1.at_ R _ hR er
  refine ⟨rs[j], rs.eraseIdx j, h1.set R (.lst ((rs.eraseIdx j).map .str)), ?_, erase_perm hj, Kp.other k1.st hR, by simp [l1], List.getElem?_set_self (List.getElem?_eq_some_iff.mp er1).1, fun l c q1 q2 e => by rw [List.getElem?_set_ne q2.symm]; exact k1.at_ l c q1 e⟩
  simp [h0, h5, isLst_li, er, e1, popAt_strs er1 hj hm]
structure Lots (h : AH) (R : Nat) (rs x0 x1 x2 : List Str) : Prop where
  r : h[R]? = some (.lst (rs.map .str))
  a : h[R + 1]? = some (.lst (x0.map .str))
  b : h[R + 2]? = some (.lst (x1.map .str))
  c : h[R + 3]? = some (.lst (x2.map .str))
theorem Lots.mv {h h' : AH} {s R : Nat} {rs x0 x1 x2 : List Str} (l : Lots h R rs x0 x1 x2) (hs : s < R) (k : Kp s h h') : Lots h' R rs x0 x1 x2 :=
  ⟨k.at_ _ _ (by omega) l.r, k.at_ _ _ (by omega) l.a, k.at_ _ _ (by omega) l.b, k.at_ _ _ (by omega) l.c⟩
def Menu (m : List A) : Prop := 0 < m.length ∧ m.length ≤ 4 ∧ ∀ y ∈ m, y = .int 0 ∨ y = .int 1 ∨ y = .int 2 ∨ y = .int 3
theorem claim_turn {h : AH} {s R : Nat} {room must : Int} {k : Nat} {menu : List A} {rs x0 x1 x2 : List Str} (z : Stored h s) (hs : s < R) (lo : Lots h R rs x0 x1 x2) (hr : 0 < rs.length) (hl : rs.length + x0.length + x1.length + x2.length ≤ 1000) (hm : Menu menu) (v1 v8 v9 : Option A) :
    ∃ room' h' nm y rs' x0' x1' x2', bf_law_claim_B1 [some (.li s), v1, some (.int room), some (.int must), some (.lst menu), some (.li R), some (.lst [.li (R + 1), .li (R + 2), .li (R + 3)]), some (.int (k : Nat)), v8, v9] h =
      .nx [some (.li s), v1, some (.int room'), some (.int must), some (.lst menu), some (.li R), some (.lst [.li (R + 1), .li (R + 2), .li (R + 3)]), some (.int (k : Nat)), some (.str nm), some y] h' ∧
      Stored h' s ∧ h'.length = h.length ∧ (∀ l c, l ≠ s → l < R → h[l]? = some c → h'[l]? = some c) ∧ Lots h' R rs' x0' x1' x2' ∧ rs.Perm (nm :: rs') ∧
      ((x0' = x0 ∧ x1' = x1 ∧ x2' = x2 ∧ room' = room - 1 ∧ ((k : Int) < must ∨ 0 < room)) ∨ (room' = room ∧ must ≤ k ∧ ((x0' = x0 ++ [nm] ∧ x1' = x1 ∧ x2' = x2) ∨ (x0' = x0 ∧ x1' = x1 ++ [nm] ∧ x2' = x2) ∨ (x0' = x0 ∧ x1' = x1 ∧ x2' = x2 ++ [nm])))) := by
  obtain ⟨nm, rs', h1, e1, p1, z1, l1, r1, f1⟩ := pop_run (ρ := [some (.li s), v1, some (.int room), some (.int must), some (.lst menu), some (.li R), some (.lst [.li (R + 1), .li (R + 2), .li (R + 3)]), some (.int (k : Nat)), v8, v9]) z rfl rfl (by omega) lo.r hr (by omega)
  have lo1 : Lots h1 R rs' x0 x1 x2 := ⟨r1, f1 _ _ (by omega) (by omega) lo.a, f1 _ _ (by omega) (by omega) lo.b, f1 _ _ (by omega) (by omega) lo.c⟩
  obtain ⟨y, h2, e2, hy, k2, l2⟩ := pick_lst (xs := menu) z1 hm.1 (by have := hm.2.1; omega)
  have lo2 := lo1.mv hs k2
  have fr : ∀ l c, l ≠ s → l < R → h[l]? = some c → h2[l]? = some c := fun l c q1 q2 e => k2.at_ l c q1 (f1 l c q1 (by omega) e)
  have hlt : R + 3 < h2.length := (List.getElem?_eq_some_iff.mp lo2.c).1
  have z0 : x0.length < 100000 := by omega
  have zz1 : x1.length < 100000 := by omega
  have z2 : x2.length < 100000 := by omega
  by_cases c1 : (k : Int) < must
  · refine ⟨room - 1, h2, nm, y, rs', x0, x1, x2, ?_, k2.st, l2.trans l1, fr, lo2, p1, .inl ⟨rfl, rfl, rfl, rfl, .inl c1⟩⟩
    simp only [bf_law_claim_B1, sSeq_run, sSet_run, e1, Out.fl_ok, Fl.seq_nx]
    simp [e2, c1]
  · have d0 := lo2.a
    have d1 := lo2.b
    have d2 := lo2.c
    rcases hm.2.2 y hy with rfl | rfl | rfl | rfl
    · refine ⟨room, h2.set (R + 1) (.lst ((x0 ++ [nm]).map .str)), nm, .int 0, rs', x0 ++ [nm], x1, x2, ?_, Kp.other k2.st (by omega), by simp [l1, l2], fun l c q1 q2 e => by rw [List.getElem?_set_ne (by omega)]; exact fr l c q1 q2 e, ⟨?_, ?_, ?_, ?_⟩, p1, .inr ⟨rfl, by omega, .inl ⟨rfl, rfl, rfl⟩⟩⟩
      · simp only [bf_law_claim_B1, sSeq_run, sSet_run, e1, Out.fl_ok, Fl.seq_nx]
        simp [e2, c1, isLst_li, d0, z0]
      · rw [List.getElem?_set_ne (by omega)]; exact lo2.r
      · exact List.getElem?_set_self (by omega)
      · rw [List.getElem?_set_ne (by omega)]; exact d1
      · rw [List.getElem?_set_ne (by omega)]; exact d2
    · refine ⟨room, h2.set (R + 2) (.lst ((x1 ++ [nm]).map .str)), nm, .int 1, rs', x0, x1 ++ [nm], x2, ?_, Kp.other k2.st (by omega), by simp [l1, l2], fun l c q1 q2 e => by rw [List.getElem?_set_ne (by omega)]; exact fr l c q1 q2 e, ⟨?_, ?_, ?_, ?_⟩, p1, .inr ⟨rfl, by omega, .inr (.inl ⟨rfl, rfl, rfl⟩)⟩⟩
      · simp only [bf_law_claim_B1, sSeq_run, sSet_run, e1, Out.fl_ok, Fl.seq_nx]
        simp [e2, c1, isLst_li, d1, zz1]
      · rw [List.getElem?_set_ne (by omega)]; exact lo2.r
      · rw [List.getElem?_set_ne (by omega)]; exact d0
      · exact List.getElem?_set_self (by omega)
      · rw [List.getElem?_set_ne (by omega)]; exact d2
    · refine ⟨room, h2.set (R + 3) (.lst ((x2 ++ [nm]).map .str)), nm, .int 2, rs', x0, x1, x2 ++ [nm], ?_, Kp.other k2.st (by omega), by simp [l1, l2], fun l c q1 q2 e => by rw [List.getElem?_set_ne (by omega)]; exact fr l c q1 q2 e, ⟨?_, ?_, ?_, ?_⟩, p1, .inr ⟨rfl, by omega, .inr (.inr ⟨rfl, rfl, rfl⟩)⟩⟩
      · simp only [bf_law_claim_B1, sSeq_run, sSet_run, e1, Out.fl_ok, Fl.seq_nx]
        simp [e2, c1, isLst_li, d2, z2]
      · rw [List.getElem?_set_ne (by omega)]; exact lo2.r
      · rw [List.getElem?_set_ne (by omega)]; exact d0
      · rw [List.getElem?_set_ne (by omega)]; exact d1
      · exact List.getElem?_set_self (by omega)
    · by_cases c2 : 0 < room
      · refine ⟨room - 1, h2, nm, .int 3, rs', x0, x1, x2, ?_, k2.st, l2.trans l1, fr, lo2, p1, .inl ⟨rfl, rfl, rfl, rfl, .inr c2⟩⟩
        simp only [bf_law_claim_B1, sSeq_run, sSet_run, e1, Out.fl_ok, Fl.seq_nx]
        simp [e2, c1, c2]
      · refine ⟨room, h2.set (R + 1) (.lst ((x0 ++ [nm]).map .str)), nm, .int 3, rs', x0 ++ [nm], x1, x2, ?_, Kp.other k2.st (by omega), by simp [l1, l2], fun l c q1 q2 e => by rw [List.getElem?_set_ne (by omega)]; exact fr l c q1 q2 e, ⟨?_, ?_, ?_, ?_⟩, p1, .inr ⟨rfl, by omega, .inl ⟨rfl, rfl, rfl⟩⟩⟩
        · simp only [bf_law_claim_B1, sSeq_run, sSet_run, e1, Out.fl_ok, Fl.seq_nx]
          simp [e2, c1, c2, isLst_li, d0, z0]
        · rw [List.getElem?_set_ne (by omega)]; exact lo2.r
        · exact List.getElem?_set_self (by omega)
        · rw [List.getElem?_set_ne (by omega)]; exact d1
        · rw [List.getElem?_set_ne (by omega)]; exact d2
end Q

namespace Q
open PySem PySem.Spec PyProof.Rows L2 Ab
/-- what a drawn claim is: three ascending texts' lists, apart, of the world -/
structure ClaimOf (ws a b c ds : List Str) : Prop where
  aa : Asc a
  bb : Asc b
  cc : Asc c
  perm : (a ++ b ++ c ++ ds).Perm ws
  na : a ≠ []
  nc : c ≠ []
theorem Menus {x : A} (h : x ∈ [A.lst [.int 1], .lst [.int 1, .int 3], .lst [.int 0, .int 1, .int 2, .int 3], .lst [.int 0, .int 1, .int 2, .int 3]]) : ∃ m, x = .lst m ∧ Menu m := by
  simp only [List.mem_cons, List.not_mem_nil, or_false] at h
  rcases h with rfl | rfl | rfl | rfl <;> exact ⟨_, rfl, by decide, by decide, by simp⟩
theorem perm_put {x0 x1 x2 ds rs rs' ws : List Str} {nm : Str} (p : (x0 ++ x1 ++ x2 ++ ds ++ rs).Perm ws) (q : rs.Perm (nm :: rs')) :
    ((x0 ++ [nm]) ++ x1 ++ x2 ++ ds ++ rs').Perm ws ∧ (x0 ++ (x1 ++ [nm]) ++ x2 ++ ds ++ rs').Perm ws ∧ (x0 ++ x1 ++ (x2 ++ [nm]) ++ ds ++ rs').Perm ws ∧ (x0 ++ x1 ++ x2 ++ (ds ++ [nm]) ++ rs').Perm ws := by
  simp only [List.perm_iff_count] at *
  refine ⟨fun a => ?_, fun a => ?_, fun a => ?_, fun a => ?_⟩ <;>
  · have h1 := p a
    have h2 := q a
    simp only [List.count_append, List.count_cons, List.count_nil] at h1 h2 ⊢
    omega
theorem claim_run {h : AH} {s : Nat} {room must : Int} {ws : List Str} (z : Stored h s) (hw : Asc ws) (h2 : 2 ≤ ws.length) (hm : ws.length ≤ 100) (hr : 0 ≤ room) :
    ∃ a b c ds h', f_law_claim [.li s, .tup (ws.map .str), .int room, .int must] h = .ok (.tup [.tup (a.map .str), .tup (b.map .str), .tup (c.map .str)]) h' ∧ ClaimOf ws a b c ds ∧ Kp s h h' ∧ ((ds.length : Int) ≤ room ∨ (ds.length : Int) ≤ must) ∧ (must ≤ ds.length ∨ ws.length ≤ ds.length + 2) := by
  obtain ⟨j, h1, e1, k1, l1, hj⟩ := take_nat (n := 4) z (by decide) (by decide)
  have e1' : f_law_take [.li s, .int 4] h = .ok (.int (j : Nat)) h1 := e1
  obtain ⟨menu, em, hmenu⟩ := Menus (List.getElem_mem (l := [A.lst [.int 1], .lst [.int 1, .int 3], .lst [.int 0, .int 1, .int 2, .int 3], .lst [.int 0, .int 1, .int 2, .int 3]]) (n := j) hj)
  have eat : atI [A.lst [.int 1], .lst [.int 1, .int 3], .lst [.int 0, .int 1, .int 2, .int 3], .lst [.int 0, .int 1, .int 2, .int 3]] (j : Int) = some (.lst menu) := by rw [atI_of hj, em]
  have hs := k1.st.lt
  -- the cell of the rest
  have kA : Kp s h1 (h1 ++ [.lst (ws.map .str)]) := Kp.new k1.st
  have hR : h1.length ≠ s := by omega
  have eR : (h1 ++ [Cell.lst (ws.map .str)])[h1.length]? = some (.lst (ws.map .str)) := by simp
  obtain ⟨g0, r0, h3, e3, p3, z3, l3, q3, f3⟩ := pop_run (ρ := [some (.li s), some (.tup (ws.map .str)), some (.int room), some (.int must), some (.lst menu), some (.li h1.length), none, none, none, none]) kA.st rfl rfl hR eR (by omega) (by omega)
  have n0 := p3.length_eq
  simp only [List.length_cons] at n0
  have kB : Kp s h3 (h3 ++ [.lst [.str g0]] ++ [.lst []]) := (Kp.new z3).trans (Kp.new (Kp.new z3).st)
  have eR2 := kB.at_ _ _ hR q3
  obtain ⟨g1, r1, h4, e4, p4, z4, l4, q4, f4⟩ := pop_run (ρ := [some (.li s), some (.tup (ws.map .str)), some (.int room), some (.int must), some (.lst menu), some (.li h1.length), none, none, none, none]) kB.st rfl rfl hR eR2 (by omega) (by omega)
  have n1 := p4.length_eq
  simp only [List.length_cons] at n1
  have L3 : h3.length = h1.length + 1 := by rw [l3]; simp
  have L4 : h4.length = h1.length + 3 := by rw [l4]; simp [L3]
  have kC : Kp s h4 (h4 ++ [.lst [.str g1]]) := Kp.new z4
  have lo : Lots (h4 ++ [.lst [.str g1]]) h1.length r1 [g0] [] [g1] := by
    refine ⟨kC.at_ _ _ hR q4, kC.at_ _ _ (by omega) (f4 _ _ (by omega) (by omega) ?_), kC.at_ _ _ (by omega) (f4 _ _ (by omega) (by omega) ?_), ?_⟩
    · rw [List.append_assoc, List.getElem?_append_right (by omega), L3, Nat.sub_self]; rfl
    · rw [List.getElem?_append_right (by simp; omega)]; simp [L3]
    · rw [List.getElem?_append_right (by omega), L4, Nat.sub_self]; rfl
  have pw : ([g0] ++ [] ++ [g1] ++ [] ++ r1).Perm ws := by
    have a1 := (p3.trans (p4.cons g0)).symm
    simpa using a1
  have key := forL_all (chk := fun _ => True) (g := tgN 7) (b := bf_law_claim_B1) (xs := rangeA 0 (ws.length - 2)) (h := h4 ++ [.lst [.str g1]]) (ρ := [some (.li s), some (.tup (ws.map .str)), some (.int room), some (.int must), some (.lst menu), some (.li h1.length), some (.lst [.li (h1.length + 1), .li (h1.length + 2), .li (h1.length + 3)]), none, none, none])
    (fun i ρ h' => ∃ (x0 x1 x2 ds rs : List Str) (rm : Int) (v7 v8 v9 : Option A), ρ = [some (.li s), some (.tup (ws.map .str)), some (.int rm), some (.int must), some (.lst menu), some (.li h1.length), some (.lst [.li (h1.length + 1), .li (h1.length + 2), .li (h1.length + 3)]), v7, v8, v9] ∧
      Stored h' s ∧ h4.length ≤ h'.length ∧ (∀ l c, l ≠ s → l < h1.length → (h4 ++ [.lst [.str g1]])[l]? = some c → h'[l]? = some c) ∧ Lots h' h1.length rs x0 x1 x2 ∧ (x0 ++ x1 ++ x2 ++ ds ++ rs).Perm ws ∧ rs.length + i = ws.length - 2 ∧ x0 ≠ [] ∧ x2 ≠ [] ∧ rm = room - ds.length ∧ ds.length ≤ i ∧ ((ds.length : Int) ≤ room ∨ (ds.length : Int) ≤ must) ∧ (must ≤ ds.length ∨ i ≤ ds.length))
    ⟨[g0], [], [g1], [], r1, room, none, none, none, rfl, kC.st, by simp, fun _ _ _ _ e => e, lo, pw, by omega, by simp, by simp, by simp, by simp, .inl (by simpa using hr), .inr (by simp)⟩ (fun _ _ _ _ => trivial)
    (fun i ρ h5 hi p => by
      obtain ⟨x0, x1, x2, ds, rs, rm, v7, v8, v9, rfl, z5, l5, f5, lo5, p5, n5, a0, a2, er, d1, d2, d3⟩ := p
      rw [rangeA_length] at hi
      have tot := p5.length_eq
      simp only [List.length_append] at tot
      obtain ⟨rm', h6, nm, y, rs', x0', x1', x2', e6, z6, l6, f6, lo6, p6, alt⟩ := claim_turn (k := i) (must := must) (room := rm) z5 (by omega) lo5 (by omega) (by omega) hmenu (some (.tup (ws.map .str))) v8 v9
      obtain ⟨t0, t1, t2, t3⟩ := perm_put p5 p6
      have n6 := p6.length_eq
      simp only [List.length_cons] at n6
      have fr : ∀ l c, l ≠ s → l < h1.length → (h4 ++ [.lst [.str g1]])[l]? = some c → h6[l]? = some c := fun l c q1 q2 e => f6 l c q1 q2 (f5 l c q1 q2 e)
      refine ⟨_, tgN_run, _, h6, .inl (by rw [rangeA_get, Int.zero_add]; exact e6), ?_⟩
      rcases alt with ⟨rfl, rfl, rfl, e, c⟩ | ⟨e, c, (⟨rfl, rfl, rfl⟩ | ⟨rfl, rfl, rfl⟩ | ⟨rfl, rfl, rfl⟩)⟩
      · exact ⟨x0', x1', x2', ds ++ [nm], rs', rm', _, _, _, rfl, z6, by omega, fr, lo6, t3, by omega, a0, a2, by simp; omega, by simp; omega, by simp; omega, by simp; omega⟩
      · exact ⟨_, _, _, ds, rs', rm', _, _, _, rfl, z6, by omega, fr, lo6, t0, by omega, by simp, a2, by omega, by omega, d2, .inl (by omega)⟩
      · exact ⟨_, _, _, ds, rs', rm', _, _, _, rfl, z6, by omega, fr, lo6, t1, by omega, a0, a2, by omega, by omega, d2, .inl (by omega)⟩
      · exact ⟨_, _, _, ds, rs', rm', _, _, _, rfl, z6, by omega, fr, lo6, t2, by omega, a0, by simp, by omega, by omega, d2, .inl (by omega)⟩)
  obtain ⟨ρ', h5, e5, x0, x1, x2, ds, rs, rm, v7, v8, v9, rfl, z5, l5, f5, lo5, p5, n5, a0, a2, er, d1, d2, d3⟩ := key
  rw [rangeA_length] at n5 d1 d3
  have hrs : rs = [] := List.eq_nil_of_length_eq_zero (by omega)
  subst hrs
  rw [List.append_nil] at p5
  have hnd := p5.nodup_iff.mpr hw.nodup
  rw [List.append_assoc, List.append_assoc] at hnd
  have nd0 := (List.nodup_append.mp hnd).1
  have hnd2 := (List.nodup_append.mp hnd).2.1
  have nd1 := (List.nodup_append.mp hnd2).1
  have nd2 := (List.nodup_append.mp (List.nodup_append.mp hnd2).2.1).1
  refine ⟨sortS x0, sortS x1, sortS x2, ds, h5, ?_, ⟨sortS_asc nd0, sortS_asc nd1, sortS_asc nd2, ?_, ?_, ?_⟩, ⟨z5, ?_, ?_⟩, d2, by omega⟩
  · have s0 : oSorted [.li (h1.length + 1)] h5 = some ((sortS x0).map .str, h5) := oSorted_c lo5.a
    have s1 : oSorted [.li (h1.length + 2)] h5 = some ((sortS x1).map .str, h5) := oSorted_c lo5.b
    have s2 : oSorted [.li (h1.length + 3)] h5 = some ((sortS x2).map .str, h5) := oSorted_c lo5.c
    have gn : Gd (-(2 ^ 62) ≤ ((ws.length : Int) - 2) ∧ ((ws.length : Int) - 2) < 2 ^ 62) := ⟨by omega, by omega⟩
    have tn : ((ws.length : Int) - 2).toNat = ws.length - 2 := by omega
    have eL : bf_law_claim_L1 [some (.li s), some (.tup (ws.map .str)), some (.int room), some (.int must), some (.lst menu), some (.li h1.length), some (.lst [.li (h1.length + 1), .li (h1.length + 2), .li (h1.length + 3)]), none, none, none] (h4 ++ [.lst [.str g1]]) = .nx [some (.li s), some (.tup (ws.map .str)), some (.int rm), some (.int must), some (.lst menu), some (.li h1.length), some (.lst [.li (h1.length + 1), .li (h1.length + 2), .li (h1.length + 3)]), v7, v8, v9] h5 := by
      simp only [bf_law_claim_L1, sFor_run, iR1_run, aCons_run, aNil_run, eB_run, eN_run, eVar_run, eC_run, List.getElem?_cons_zero, List.getElem?_cons_succ, Out.bind_ok, oLen_t, List.length_map, Out.of_some, oSub_ii, if_pos gn, tn, Out.fl_ok]
      exact e5
    simp [-eM_run, -List.append_assoc, f_law_claim, runS_run, bf_law_claim, e1', eat, e3, L3, e4, L4, eL, s0, s1, s2]
  · exact ((((sortS_perm x0).append (sortS_perm x1)).append (sortS_perm x2)).append (List.Perm.refl ds)).trans p5
  · intro q
    have := (sortS_perm x0).length_eq
    rw [q] at this
    exact a0 (List.eq_nil_of_length_eq_zero this.symm)
  · intro q
    have := (sortS_perm x2).length_eq
    rw [q] at this
    exact a2 (List.eq_nil_of_length_eq_zero this.symm)
  · have := k1.len
    omega
  · intro l c hl e
    have hlt := (List.getElem?_eq_some_iff.mp e).1
    have := k1.len
    exact f5 l c hl (by omega) (kC.at_ l c hl (f4 l c hl (by omega) (kB.at_ l c hl (f3 l c hl (by omega) (kA.at_ l c hl (k1.at_ l c hl e))))))
end Q

namespace Q
open PySem PySem.Spec PyProof.Rows L2 Ab
/-! ### uses and trees -/
theorem pull {β : Type} {enc : β → A} {P : β → Prop} {ys : List A} (h : ∀ (i : Nat) (y : A), ys[i]? = some y → ∃ x, y = enc x ∧ P x) : ∃ xs : List β, ys = xs.map enc ∧ ∀ x ∈ xs, P x := by
  induction ys with
  | nil => exact ⟨[], rfl, fun c hc => by cases hc⟩
  | cons y ys ih =>
    obtain ⟨c, rfl, hc⟩ := h 0 y rfl
    obtain ⟨cs, rfl, hcs⟩ := ih fun i y e => h (i + 1) y (by simpa using e)
    exact ⟨c :: cs, rfl, fun d hd => by
      rcases List.mem_cons.mp hd with q | q
      · rw [q]; exact hc
      · exact hcs d q⟩
/-- a list drawn item by item -/
theorem drawn {β : Type} {enc : β → A} {P : β → Prop} {f : Xp} {slot n s : Nat} {ρ : Ab.Env} {h : AH} (z : Stored h s) (hn : n ≤ 100000)
    (ht : ∀ v h1, Kp s h h1 → ∃ x h2, f (ρ.set slot v) h1 = .ok (enc x) h2 ∧ P x ∧ Kp s h1 h2) :
    ∃ (xs : List β) (h' : AH), compL (fun _ => True) (tgN slot) tYesA f ρ (rangeA 0 n) h [] = .ok (xs.map enc) h' ∧ xs.length = n ∧ (∀ x ∈ xs, P x) ∧ Kp s h h' := by
  obtain ⟨ys, h', e, k, l, r⟩ := compL_each (chk := fun _ => True) (g := tgN slot) (f := f) (ρ := ρ) (xs := rangeA 0 n) (h := h) (fun h' => Kp s h h') (fun _ y => ∃ x, y = enc x ∧ P x) (by rw [rangeA_length]; exact hn) (Kp.refl z) (fun _ _ => trivial)
    (fun i h1 hi k1 => by
      obtain ⟨x, h2, e2, p2, k2⟩ := ht (some (rangeA 0 n)[i]) h1 k1
      exact ⟨_, tgN_run, enc x, h2, e2, k1.trans k2, x, rfl, p2⟩)
  obtain ⟨xs, rfl, hx⟩ := pull r
  exact ⟨xs, h', e, by rw [List.length_map, rangeA_length] at l; exact l, hx, k⟩
structure Row where
  p : List Str
  q : List Str
  r : List Str
def Row.enc (x : Row) : A := .tup [.tup (x.p.map .str), .tup (x.q.map .str), .tup (x.r.map .str)]
def RowOk (ws : List Str) (x : Row) : Prop := ∃ ds, ClaimOf ws x.p x.q x.r ds
structure Use where
  k : Nat
  ins : List Row
  outs : List Row
def Use.enc (u : Use) : A := .tup [.int (u.k : Nat), .tup (u.ins.map Row.enc), .tup (u.outs.map Row.enc)]
structure UseOk (ws : List Str) (ends : Nat) (u : Use) : Prop where
  k1 : 1 ≤ u.k
  k5 : u.k ≤ 5
  rows : ∀ x ∈ u.ins ++ u.outs, RowOk ws x
  outs : u.outs.length = ends
  ins1 : 1 ≤ u.ins.length
  ins2 : u.ins.length ≤ 2
structure WorldOk (ws : List Str) : Prop extends World ws where
  two : 2 ≤ ws.length
  many : ws.length ≤ 26
theorem depths_run {h : AH} {s : Nat} {d : Nat} (z : Stored h s) (hd : 1 ≤ d) : ∃ a b h', f_law_depths [.li s, .int d] h = .ok (.lst [.int (a : Nat), .int (b : Nat)]) h' ∧ a < d ∧ b < d ∧ Kp s h h' := by
  obtain ⟨b, h', e, k, l⟩ := chance_run (many := 2) z (by omega)
  have e0 : ((d : Int) - 1) = ((d - 1 : Nat) : Int) := by omega
  have e1 : (if (3 : Int) < (d : Int) - 1 then 3 else (d : Int) - 1) = ((min 3 (d - 1) : Nat) : Int) := by split <;> omega
  cases b with
  | true => exact ⟨min 3 (d - 1), d - 1, h', by simp [f_law_depths, runS_run, bf_law_depths, e, e0, e1]; omega, by omega, by omega, k⟩
  | false => exact ⟨d - 1, min 3 (d - 1), h', by simp [f_law_depths, runS_run, bf_law_depths, e, e0, e1]; omega, by omega, by omega, k⟩
theorem any_use_run {h : AH} {s ends : Nat} {ws : List Str} (z : Stored h s) (hw : WorldOk ws) (he : ends ≤ 10) : ∃ u h', f_law_any_use [.li s, .tup (ws.map .str), .int (ends : Nat)] h = .ok u.enc h' ∧ UseOk ws ends u ∧ Kp s h h' := by
  obtain ⟨n, h1, e1, k1, l1, hn⟩ := take_nat (n := 2) z (by decide) (by decide)
  have e1' : f_law_take [.li s, .int 2] h = .ok (.int (n : Nat)) h1 := e1
  obtain ⟨rows, h2, e2, l2, p2, k2⟩ := drawn (enc := Row.enc) (P := RowOk ws) (slot := 4) (n := 1 + n + ends) (ρ := [some (.li s), some (.tup (ws.map .str)), some (.int (ends : Nat)), none, none]) (f := eF 4 f_law_claim (aCons (eVar 0) (aCons (eVar 1) (aCons (eN oLen (aCons (eVar 1) (aNil))) (aCons (eC (.int 0)) (aNil))))) []) k1.st (by omega)
    (fun v h1 k1 => by
      obtain ⟨a, b, c, ds, h2, e, q, k, _⟩ := claim_run (room := ws.length) (must := 0) k1.st hw.asc hw.two (by have := hw.many; omega) (by omega)
      exact ⟨⟨a, b, c⟩, h2, by simp [e, Row.enc], ⟨ds, q⟩, k⟩)
  obtain ⟨j, h3, e3, k3, l3, hj⟩ := take_nat (n := 5) k2.st (by decide) (by decide)
  have e3' : f_law_take [.li s, .int 5] h2 = .ok (.int (j : Nat)) h3 := e3
  refine ⟨⟨1 + j, rows.drop ends, rows.take ends⟩, h3, ?_, ⟨by simp, by simp; omega, fun x hx => p2 x ?_, by simp; omega, by simp; omega, by simp; omega⟩, (k1.trans k2).trans k3⟩
  · have gn : Gd (-(2 ^ 62) ≤ (1 + (n : Int) + (ends : Int)) ∧ (1 + (n : Int) + (ends : Int)) < 2 ^ 62) := ⟨by omega, by omega⟩
    have tn : (1 + (n : Int) + (ends : Int)).toNat = 1 + n + ends := by omega
    have eC1 : bf_law_any_use_C1 [some (.li s), some (.tup (ws.map .str)), some (.int (ends : Nat)), none, none] h = .ok (rows.map Row.enc) h2 := by
      rw [← e2]
      simp only [bf_law_any_use_C1, lcA_run, iR1_run, aCons_run, aNil_run, eB_run, eF_run, eVar_run, eC_run, List.getElem?_cons_zero, List.getElem?_cons_succ, Out.bind_ok, e1', List.append_nil, List.length_cons, List.length_nil, if_true, Out.of_some, oAdd_ii, if_pos gn, tn, wipeA_cons, wipeA_nil, List.set_cons_succ, List.set_cons_zero]
    simp [f_law_any_use, runS_run, bf_law_any_use, eC1, e3', oSl, lstOf, cutA_take, cutA_drop, Use.enc]
  · rcases List.mem_append.mp hx with q | q
    · exact List.mem_of_mem_drop q
    · exact List.mem_of_mem_take q
inductive Tr where
  | leaf (steps : List Use)
  | node (steps : List Use) (u : Use) (l r : Tr)
noncomputable def Tr.enc : Tr → A
  | .leaf st => .tup [.str (Str.ofString "leaf"), .tup (st.map Use.enc)]
  | .node st u l r => .tup [.str (Str.ofString "case"), .tup (st.map Use.enc), u.enc, l.enc, r.enc]
def Tr.depth : Tr → Nat
  | .leaf _ => 0
  | .node _ _ l r => 1 + max l.depth r.depth
def Tr.steps : Tr → List Use
  | .leaf st => st
  | .node st .. => st
/-- all the steps of the tree are good, and not too many a node -/
def Tr.Ok (ws : List Str) (many : Nat) : Tr → Prop
  | .leaf st => st.length ≤ many ∧ ∀ u ∈ st, UseOk ws 1 u
  | .node st u l r => st.length ≤ many ∧ (∀ u ∈ st, UseOk ws 1 u) ∧ UseOk ws 2 u ∧ l.Ok ws many ∧ r.Ok ws many
end Q

namespace Q
open PySem PySem.Spec PyProof.Rows L2 Ab
theorem Tr.Ok.mono {ws : List Str} {m n : Nat} (hm : m ≤ n) : ∀ {t : Tr}, t.Ok ws m → t.Ok ws n
  | .leaf _, h => ⟨by have := h.1; omega, h.2⟩
  | .node _ _ _ _, h => ⟨by have := h.1; omega, h.2.1, h.2.2.1, h.2.2.2.1.mono hm, h.2.2.2.2.mono hm⟩
theorem any_tree_C1 {h : AH} {s : Nat} {ws : List Str} (z : Stored h s) (hw : WorldOk ws) (rec : Fn) (v2 v3 v5 v6 v7 : Option A) : ∃ (st : List Use) (h' : AH), bf_law_any_tree_C1 rec [some (.li s), some (.tup (ws.map .str)), v2, v3, none, v5, v6, v7] h = .ok (st.map Use.enc) h' ∧ st.length ≤ 2 ∧ (∀ u ∈ st, UseOk ws 1 u) ∧ Kp s h h' := by
  obtain ⟨n, h1, e1, k1, l1, hn⟩ := take_nat (n := 3) z (by decide) (by decide)
  have e1' : f_law_take [.li s, .int 3] h = .ok (.int (n : Nat)) h1 := e1
  obtain ⟨st, h2, e2, l2, p2, k2⟩ := drawn (enc := Use.enc) (P := UseOk ws 1) (slot := 4) (n := n) (ρ := [some (.li s), some (.tup (ws.map .str)), v2, v3, none, v5, v6, v7]) (f := eF 3 f_law_any_use (aCons (eVar 0) (aCons (eVar 1) (aCons (eC (.int 1)) (aNil)))) []) k1.st (by omega)
    (fun v h1 k1 => by
      obtain ⟨u, h2, e, q, k⟩ := any_use_run (ends := 1) k1.st hw (by decide)
      have e' : f_law_any_use [.li s, .tup (ws.map .str), .int 1] h1 = .ok u.enc h2 := e
      exact ⟨u, h2, by simp [e'], q, k⟩)
  refine ⟨st, h2, ?_, by omega, p2, k1.trans k2⟩
  have gn : Gd (-(2 ^ 62) ≤ (n : Int) ∧ (n : Int) < 2 ^ 62) := ⟨by omega, by omega⟩
  rw [← e2]
  simp only [bf_law_any_tree_C1, lcA_run, iR1_run, aCons_run, aNil_run, eF_run, eVar_run, eC_run, List.getElem?_cons_zero, List.getElem?_cons_succ, Out.bind_ok, e1', List.append_nil, List.length_cons, List.length_nil, if_true, if_pos gn, Int.toNat_natCast, wipeA_cons, wipeA_nil, List.set_cons_succ, List.set_cons_zero]
theorem any_tree_run {s : Nat} {ws : List Str} (hw : WorldOk ws) : ∀ {fuel d : Nat} {h : AH}, d < fuel → Stored h s → ∃ (t : Tr) (h' : AH), f_law_any_tree fuel [.li s, .tup (ws.map .str), .int (d : Nat)] h = .ok t.enc h' ∧ t.Ok ws 2 ∧ t.depth ≤ d ∧ Kp s h h'
  | 0, d, h, hd, z => absurd hd (Nat.not_lt_zero d)
  | fuel + 1, d, h, hd, z => by
    obtain ⟨st, h1, e1, l1, p1, k1⟩ := any_tree_C1 z hw (f_law_any_tree fuel) (some (.int (d : Nat))) none none none none
    by_cases c : (d : Int) < 1
    · refine ⟨.leaf st, h1, ?_, ⟨l1, p1⟩, Nat.zero_le _, k1⟩
      simp [f_law_any_tree, runS_run, bf_law_any_tree, e1, c, Tr.enc]
    · obtain ⟨b, h2, e2, k2, l2⟩ := chance_run (many := 5) k1.st (by decide)
      cases b with
      | true =>
        refine ⟨.leaf st, h2, ?_, ⟨l1, p1⟩, Nat.zero_le _, k1.trans k2⟩
        simp [f_law_any_tree, runS_run, bf_law_any_tree, e1, c, e2, Tr.enc]
      | false =>
        obtain ⟨u, h3, e3, q3, k3⟩ := any_use_run (ends := 2) k2.st hw (by decide)
        have e3' : f_law_any_use [.li s, .tup (ws.map .str), .int 2] h2 = .ok u.enc h3 := e3
        obtain ⟨a, b, h4, e4, ha, hb, k4⟩ := depths_run (d := d) k3.st (by omega)
        obtain ⟨t1, h5, e5, o5, d5, k5⟩ := any_tree_run hw (fuel := fuel) (d := a) (by omega) k4.st
        obtain ⟨t2, h6, e6, o6, d6, k6⟩ := any_tree_run hw (fuel := fuel) (d := b) (by omega) k5.st
        refine ⟨.node st u t1 t2, h6, ?_, ⟨l1, p1, q3, o5, o6⟩, ?_, ((((k1.trans k2).trans k3).trans k4).trans k5).trans k6⟩
        · simp [f_law_any_tree, runS_run, bf_law_any_tree, e1, c, e2, e3', e4, e5, e6, Tr.enc]
        · show 1 + max t1.depth t2.depth ≤ d
          omega
theorem rep_enc (n : Nat) (u : Use) : (List.replicate n [u.enc]).flatten = (List.replicate n u).map Use.enc := by simp
theorem row_tree_C1 {h : AH} {s : Nat} {ws : List Str} (z : Stored h s) (hw : WorldOk ws) (v2 v3 v4 v5 v6 v7 v8 : Option A) : ∃ (st : List Use) (h' : AH), bf_law_row_tree_C1 [some (.li s), some (.tup (ws.map .str)), v2, v3, v4, v5, v6, v7, v8] h = .ok (st.map Use.enc) h' ∧ st.length ≤ 2 ∧ (∀ u ∈ st, UseOk ws 1 u) ∧ Kp s h h' := by
  obtain ⟨n, h1, e1, k1, l1, hn⟩ := take_nat (n := 3) z (by decide) (by decide)
  have e1' : f_law_take [.li s, .int 3] h = .ok (.int (n : Nat)) h1 := e1
  obtain ⟨st, h2, e2, l2, p2, k2⟩ := drawn (enc := Use.enc) (P := UseOk ws 1) (slot := 7) (n := n) (ρ := [some (.li s), some (.tup (ws.map .str)), v2, v3, v4, v5, v6, none, v8]) (f := eF 3 f_law_any_use (aCons (eVar 0) (aCons (eVar 1) (aCons (eC (.int 1)) (aNil)))) []) k1.st (by omega)
    (fun v h1 k1 => by
      obtain ⟨u, h2, e, q, k⟩ := any_use_run (ends := 1) k1.st hw (by decide)
      have e' : f_law_any_use [.li s, .tup (ws.map .str), .int 1] h1 = .ok u.enc h2 := e
      exact ⟨u, h2, by simp [e'], q, k⟩)
  refine ⟨st, h2, ?_, by omega, p2, k1.trans k2⟩
  have gn : Gd (-(2 ^ 62) ≤ (n : Int) ∧ (n : Int) < 2 ^ 62) := ⟨by omega, by omega⟩
  rw [← e2]
  simp only [bf_law_row_tree_C1, lcA_run, iR1_run, aCons_run, aNil_run, eF_run, eVar_run, eC_run, List.getElem?_cons_zero, List.getElem?_cons_succ, Out.bind_ok, e1', List.append_nil, List.length_cons, List.length_nil, if_true, if_pos gn, Int.toNat_natCast, wipeA_cons, wipeA_nil, List.set_cons_succ, List.set_cons_zero]
theorem row_turn {h : AH} {s : Nat} {ws : List Str} {t : Tr} (z : Stored h s) (hw : WorldOk ws) (ht : t.Ok ws 3) (v2 v4 v5 v6 v7 v8 : Option A) : ∃ (t' : Tr) (h' : AH) (v5' v6' v7' v8' : Option A), bf_law_row_tree_B1 [some (.li s), some (.tup (ws.map .str)), v2, some t.enc, v4, v5, v6, v7, v8] h = .nx [some (.li s), some (.tup (ws.map .str)), v2, some t'.enc, v4, v5', v6', v7', v8'] h' ∧ t'.Ok ws 3 ∧ t'.depth = t.depth + 1 ∧ Kp s h h' := by
  obtain ⟨u, h1, e1, q1, k1⟩ := any_use_run (ends := 1) z hw (by decide)
  have e1' : f_law_any_use [.li s, .tup (ws.map .str), .int 1] h = .ok u.enc h1 := e1
  obtain ⟨n, h2, e2, k2, l2, hn⟩ := take_nat (n := 3) k1.st (by decide) (by decide)
  have e2' : f_law_take [.li s, .int 3] h1 = .ok (.int (n : Nat)) h2 := e2
  have hmul : oMul (.tup [u.enc]) (.int (n : Nat)) h2 = some (.tup ((List.replicate n u).map Use.enc), h2) := by
    have g : -1000 ≤ (n : Int) ∧ (n : Int) ≤ 1000 ∧ [u.enc].length ≤ 1000 := ⟨by omega, by omega, by simp⟩
    rw [oMul_ti g, Int.toNat_natCast, rep_enc]
  have okL : (Tr.leaf (List.replicate n u)).Ok ws 3 := ⟨by simp; omega, fun x hx => by rw [List.eq_of_mem_replicate hx]; exact q1⟩
  have eL : A.tup [.str (Str.ofString "leaf"), .tup ((List.replicate n u).map Use.enc)] = (Tr.leaf (List.replicate n u)).enc := rfl
  obtain ⟨st, h3, e3, l3, p3, k3⟩ := row_tree_C1 k2.st hw v2 (some t.enc) v4 (some (Tr.leaf (List.replicate n u)).enc) v6 v7 v8
  obtain ⟨j, h4, e4, k4, l4, hj⟩ := take_nat (n := 2) k3.st (by decide) (by decide)
  have e4' : f_law_take [.li s, .int 2] h3 = .ok (.int (j : Nat)) h4 := e4
  obtain ⟨w, h5, e5, q5, k5⟩ := any_use_run (ends := 2) k4.st hw (by decide)
  have e5' : f_law_any_use [.li s, .tup (ws.map .str), .int 2] h4 = .ok w.enc h5 := e5
  have kk := (((k1.trans k2).trans k3).trans k4).trans k5
  have jj : j = 0 ∨ j = 1 := by omega
  generalize hlf : Tr.leaf (List.replicate n u) = lf at okL eL e3
  have dl : lf.depth = 0 := by rw [← hlf]; rfl
  rcases jj with rfl | rfl
  · refine ⟨.node st w t lf, h5, some lf.enc, some (.tup (st.map Use.enc)), v7, some (.tup [t.enc, lf.enc]), ?_, ⟨by omega, p3, q5, ht, okL⟩, ?_, kk⟩
    · simp [bf_law_row_tree_B1, e1', e2', hmul, -List.map_replicate, eL, e3, e4', e5', Tr.enc]
    · show 1 + max t.depth lf.depth = _
      rw [dl]; omega
  · refine ⟨.node st w lf t, h5, some lf.enc, some (.tup (st.map Use.enc)), v7, some (.tup [lf.enc, t.enc]), ?_, ⟨by omega, p3, q5, okL, ht⟩, ?_, kk⟩
    · simp [bf_law_row_tree_B1, e1', e2', hmul, -List.map_replicate, eL, e3, e4', e5', Tr.enc]
    · show 1 + max lf.depth t.depth = _
      rw [dl]; omega
end Q

namespace Q
open PySem PySem.Spec PyProof.Rows L2 Ab
theorem row_tree_run {h : AH} {s d : Nat} {ws : List Str} (z : Stored h s) (hw : WorldOk ws) (hd : d ≤ 100) : ∃ (t : Tr) (h' : AH), f_law_row_tree [.li s, .tup (ws.map .str), .int (d : Nat)] h = .ok t.enc h' ∧ t.Ok ws 3 ∧ t.depth = d ∧ Kp s h h' := by
  obtain ⟨u, h1, e1, q1, k1⟩ := any_use_run (ends := 1) z hw (by decide)
  have e1' : f_law_any_use [.li s, .tup (ws.map .str), .int 1] h = .ok u.enc h1 := e1
  obtain ⟨n, h2, e2, k2, l2, hn⟩ := take_nat (n := 4) k1.st (by decide) (by decide)
  have e2' : f_law_take [.li s, .int 4] h1 = .ok (.int (n : Nat)) h2 := e2
  have hmul : oMul (.tup [u.enc]) (.int (n : Nat)) h2 = some (.tup ((List.replicate n u).map Use.enc), h2) := by
    have g : -1000 ≤ (n : Int) ∧ (n : Int) ≤ 1000 ∧ [u.enc].length ≤ 1000 := ⟨by omega, by omega, by simp⟩
    rw [oMul_ti g, Int.toNat_natCast, rep_enc]
  have okL : (Tr.leaf (List.replicate n u)).Ok ws 3 := ⟨by simp; omega, fun x hx => by rw [List.eq_of_mem_replicate hx]; exact q1⟩
  have eL : A.tup [.str (Str.ofString "leaf"), .tup ((List.replicate n u).map Use.enc)] = (Tr.leaf (List.replicate n u)).enc := rfl
  have dL : (Tr.leaf (List.replicate n u)).depth = 0 := rfl
  generalize Tr.leaf (List.replicate n u) = lf at okL eL dL
  have key := forL_all (chk := fun _ => True) (g := tgN 4) (b := bf_law_row_tree_B1) (xs := rangeA 0 d) (h := h2) (ρ := [some (.li s), some (.tup (ws.map .str)), some (.int (d : Nat)), some lf.enc, none, none, none, none, none])
    (fun i ρ h' => ∃ (t : Tr) (v4 v5 v6 v7 v8 : Option A), ρ = [some (.li s), some (.tup (ws.map .str)), some (.int (d : Nat)), some t.enc, v4, v5, v6, v7, v8] ∧ t.Ok ws 3 ∧ t.depth = i ∧ Kp s h2 h')
    ⟨lf, none, none, none, none, none, rfl, okL, dL, Kp.refl k2.st⟩ (fun _ _ _ _ => trivial)
    (fun i ρ h3 hi p => by
      obtain ⟨t, v4, v5, v6, v7, v8, rfl, ot, dt, k3⟩ := p
      obtain ⟨t', h4, v5', v6', v7', v8', e4, o4, d4, k4⟩ := row_turn k3.st hw ot (some (.int (d : Nat))) (some (rangeA 0 d)[i]) v5 v6 v7 v8
      exact ⟨_, tgN_run, _, h4, .inl e4, t', _, _, _, _, _, rfl, o4, by omega, k3.trans k4⟩)
  obtain ⟨ρ', h3, e3, t, v4, v5, v6, v7, v8, rfl, ot, dt, k3⟩ := key
  rw [rangeA_length] at dt
  refine ⟨t, h3, ?_, ot, dt, (k1.trans k2).trans k3⟩
  have gn : Gd (-(2 ^ 62) ≤ (d : Int) ∧ (d : Int) < 2 ^ 62) := ⟨by omega, by omega⟩
  have eC1 : bf_law_row_tree_L1 [some (.li s), some (.tup (ws.map .str)), some (.int (d : Nat)), some lf.enc, none, none, none, none, none] h2 = .nx [some (.li s), some (.tup (ws.map .str)), some (.int (d : Nat)), some t.enc, v4, v5, v6, v7, v8] h3 := by
    rw [← e3]
    simp only [bf_law_row_tree_L1, sFor_run, iR1_run, aCons_run, aNil_run, eVar_run, List.getElem?_cons_zero, List.getElem?_cons_succ, Out.bind_ok, if_pos gn, Int.toNat_natCast, Out.fl_ok]
  simp [f_law_row_tree, runS_run, bf_law_row_tree, e1', e2', hmul, -List.map_replicate, eL, eC1]
theorem even_turn {h : AH} {s m : Nat} {ws : List Str} {t : Tr} {u : Use} (z : Stored h s) (hw : WorldOk ws) (ht : t.Ok ws 3) (hu : UseOk ws 1 u) (hm : m ≤ 3) (v2 v3 v7 : Option A) : ∃ (t' : Tr) (h' : AH), bf_law_even_tree_B1 [some (.li s), some (.tup (ws.map .str)), v2, v3, some u.enc, some t.enc, some (.int (m : Nat)), v7] h = .nx [some (.li s), some (.tup (ws.map .str)), v2, v3, some u.enc, some t'.enc, some (.int (m : Nat)), v7] h' ∧ t'.Ok ws 3 ∧ t'.depth = t.depth + 1 ∧ Kp s h h' := by
  have hmul : oMul (.tup [u.enc]) (.int (m : Nat)) h = some (.tup ((List.replicate m u).map Use.enc), h) := by
    have g : -1000 ≤ (m : Int) ∧ (m : Int) ≤ 1000 ∧ [u.enc].length ≤ 1000 := ⟨by omega, by omega, by simp⟩
    rw [oMul_ti g, Int.toNat_natCast, rep_enc]
  obtain ⟨w, h5, e5, q5, k5⟩ := any_use_run (ends := 2) z hw (by decide)
  have e5' : f_law_any_use [.li s, .tup (ws.map .str), .int 2] h = .ok w.enc h5 := e5
  refine ⟨.node (List.replicate m u) w t t, h5, ?_, ⟨by simp; omega, fun x hx => by rw [List.eq_of_mem_replicate hx]; exact hu, q5, ht, ht⟩, ?_, k5⟩
  · simp [bf_law_even_tree_B1, hmul, -List.map_replicate, e5', Tr.enc]
  · show 1 + max t.depth t.depth = _
    omega
theorem even_tree_run {h : AH} {s d : Nat} {ws : List Str} (z : Stored h s) (hw : WorldOk ws) (hd : d ≤ 8) : ∃ (t : Tr) (h' : AH), f_law_even_tree [.li s, .tup (ws.map .str), .int (d : Nat)] h = .ok t.enc h' ∧ t.Ok ws 3 ∧ t.depth = d ∧ Kp s h h' := by
  obtain ⟨u, h1, e1, q1, k1⟩ := any_use_run (ends := 1) z hw (by decide)
  have e1' : f_law_any_use [.li s, .tup (ws.map .str), .int 1] h = .ok u.enc h1 := e1
  have hb : ∃ b : Nat, atI [A.int 3, .int 3, .int 3, .int 3, .int 3, .int 3, .int 3, .int 2, .int 1] (d : Int) = some (.int (b : Nat)) ∧ 1 ≤ b ∧ b ≤ 3 := by
    rw [atI_nat (j := d) (List.getElem?_eq_getElem (show d < 9 by omega))]
    have : d = 0 ∨ d = 1 ∨ d = 2 ∨ d = 3 ∨ d = 4 ∨ d = 5 ∨ d = 6 ∨ d = 7 ∨ d = 8 := by omega
    rcases this with rfl | rfl | rfl | rfl | rfl | rfl | rfl | rfl | rfl
    · exact ⟨3, rfl, by decide, by decide⟩
    · exact ⟨3, rfl, by decide, by decide⟩
    · exact ⟨3, rfl, by decide, by decide⟩
    · exact ⟨3, rfl, by decide, by decide⟩
    · exact ⟨3, rfl, by decide, by decide⟩
    · exact ⟨3, rfl, by decide, by decide⟩
    · exact ⟨3, rfl, by decide, by decide⟩
    · exact ⟨2, rfl, by decide, by decide⟩
    · exact ⟨1, rfl, by decide, by decide⟩
  obtain ⟨b, eb, b1, b3⟩ := hb
  obtain ⟨n, h2, e2, k2, l2, hn⟩ := take_nat (n := b + 1) k1.st (by omega) (by omega)
  have e2' : f_law_take [.li s, .int ((b : Int) + 1)] h1 = .ok (.int (n : Nat)) h2 := e2
  obtain ⟨m, h3, e3, k3, l3, hm⟩ := take_nat (n := b) k2.st b1 (by omega)
  have hmul : oMul (.tup [u.enc]) (.int (n : Nat)) h2 = some (.tup ((List.replicate n u).map Use.enc), h2) := by
    have g : -1000 ≤ (n : Int) ∧ (n : Int) ≤ 1000 ∧ [u.enc].length ≤ 1000 := ⟨by omega, by omega, by simp⟩
    rw [oMul_ti g, Int.toNat_natCast, rep_enc]
  have okL : (Tr.leaf (List.replicate n u)).Ok ws 3 := ⟨by simp; omega, fun x hx => by rw [List.eq_of_mem_replicate hx]; exact q1⟩
  have eL : A.tup [.str (Str.ofString "leaf"), .tup ((List.replicate n u).map Use.enc)] = (Tr.leaf (List.replicate n u)).enc := rfl
  have dL : (Tr.leaf (List.replicate n u)).depth = 0 := rfl
  generalize Tr.leaf (List.replicate n u) = lf at okL eL dL
  have key := forL_all (chk := fun _ => True) (g := tgN 7) (b := bf_law_even_tree_B1) (xs := rangeA 0 d) (h := h3) (ρ := [some (.li s), some (.tup (ws.map .str)), some (.int (d : Nat)), some (.lst [.int 3, .int 3, .int 3, .int 3, .int 3, .int 3, .int 3, .int 2, .int 1]), some u.enc, some lf.enc, some (.int (m : Nat)), none])
    (fun i ρ h' => ∃ (t : Tr) (v7 : Option A), ρ = [some (.li s), some (.tup (ws.map .str)), some (.int (d : Nat)), some (.lst [.int 3, .int 3, .int 3, .int 3, .int 3, .int 3, .int 3, .int 2, .int 1]), some u.enc, some t.enc, some (.int (m : Nat)), v7] ∧ t.Ok ws 3 ∧ t.depth = i ∧ Kp s h3 h')
    ⟨lf, none, rfl, okL, dL, Kp.refl k3.st⟩ (fun _ _ _ _ => trivial)
    (fun i ρ h3 hi p => by
      obtain ⟨t, v7, rfl, ot, dt, k3⟩ := p
      obtain ⟨t', h4, e4, o4, d4, k4⟩ := even_turn (m := m) k3.st hw ot q1 (by omega) (some (.int (d : Nat))) (some (.lst [.int 3, .int 3, .int 3, .int 3, .int 3, .int 3, .int 3, .int 2, .int 1])) (some (rangeA 0 d)[i])
      exact ⟨_, tgN_run, _, h4, .inl e4, t', _, rfl, o4, by omega, k3.trans k4⟩)
  obtain ⟨ρ', h4, e4, t, v7, rfl, ot, dt, k4⟩ := key
  rw [rangeA_length] at dt
  refine ⟨t, h4, ?_, ot, dt, ((k1.trans k2).trans k3).trans k4⟩
  have gn : Gd (-(2 ^ 62) ≤ (d : Int) ∧ (d : Int) < 2 ^ 62) := ⟨by omega, by omega⟩
  have eC1 : bf_law_even_tree_L1 [some (.li s), some (.tup (ws.map .str)), some (.int (d : Nat)), some (.lst [.int 3, .int 3, .int 3, .int 3, .int 3, .int 3, .int 3, .int 2, .int 1]), some u.enc, some lf.enc, some (.int (m : Nat)), none] h3 = .nx [some (.li s), some (.tup (ws.map .str)), some (.int (d : Nat)), some (.lst [.int 3, .int 3, .int 3, .int 3, .int 3, .int 3, .int 3, .int 2, .int 1]), some u.enc, some t.enc, some (.int (m : Nat)), v7] h4 := by
    rw [← e4]
    simp only [bf_law_even_tree_L1, sFor_run, iR1_run, aCons_run, aNil_run, eVar_run, List.getElem?_cons_zero, List.getElem?_cons_succ, Out.bind_ok, if_pos gn, Int.toNat_natCast, Out.fl_ok]
  simp [f_law_even_tree, runS_run, bf_law_even_tree, e1', eb, e2', e3, hmul, -List.map_replicate, eL, eC1]
end Q

namespace Q
open PySem PySem.Spec PyProof.Rows L2 Ab
theorem rep_encs (n : Nat) (us : List Use) : (List.replicate n (us.map Use.enc)).flatten = (List.replicate n us).flatten.map Use.enc := by
  rw [List.map_flatten, List.map_replicate]
theorem draw_C1 {h : AH} {s : Nat} {ws : List Str} (z : Stored h s) (hw : WorldOk ws) (v2 v3 v4 v5 v6 : Option A) : ∃ (st : List Use) (h' : AH), bf_law_draw_C1 [some (.li s), some (.tup (ws.map .str)), v2, v3, v4, v5, v6] h = .ok (st.map Use.enc) h' ∧ st.length = 3 ∧ (∀ u ∈ st, UseOk ws 1 u) ∧ Kp s h h' := by
  obtain ⟨st, h2, e2, l2, p2, k2⟩ := drawn (enc := Use.enc) (P := UseOk ws 1) (slot := 4) (n := 3) (ρ := [some (.li s), some (.tup (ws.map .str)), v2, v3, none, v5, v6]) (f := eF 3 f_law_any_use (aCons (eVar 0) (aCons (eVar 1) (aCons (eC (.int 1)) (aNil)))) []) z (by omega)
    (fun v h1 k1 => by
      obtain ⟨u, h2, e, q, k⟩ := any_use_run (ends := 1) k1.st hw (by decide)
      have e' : f_law_any_use [.li s, .tup (ws.map .str), .int 1] h1 = .ok u.enc h2 := e
      exact ⟨u, h2, by simp [e'], q, k⟩)
  refine ⟨st, h2, ?_, by omega, p2, k2⟩
  have gn : Gd (-(2 ^ 62) ≤ (3 : Int) ∧ (3 : Int) < 2 ^ 62) := ⟨by omega, by omega⟩
  rw [← e2]
  simp only [bf_law_draw_C1, lcA_run, iR1_run, aCons_run, aNil_run, eC_run, Out.bind_ok, if_pos gn, wipeA_cons, wipeA_nil, List.set_cons_succ, List.set_cons_zero]
  rfl
theorem draw_run {h : AH} {s : Nat} {ws : List Str} (z : Stored h s) (hw : WorldOk ws) : ∃ (t : Tr) (h' : AH), f_law_draw [.li s, .tup (ws.map .str)] h = .ok t.enc h' ∧ t.Ok ws 702 ∧ t.depth ≤ 8 ∧ Kp s h h' := by
  obtain ⟨k, h1, e1, k1, l1, hk⟩ := take_nat (n := 8) z (by decide) (by decide)
  have e1' : f_law_take [.li s, .int 8] h = .ok (.int (k : Nat)) h1 := e1
  by_cases c0 : k = 0
  · subst c0
    obtain ⟨us, h2, e2, l2, p2, k2⟩ := draw_C1 k1.st hw (some (.int 0)) none none none none
    obtain ⟨n, h3, e3, k3, l3, hn⟩ := take_nat (n := 701) k2.st (by decide) (by decide)
    have e3' : f_law_take [.li s, .int 701] h2 = .ok (.int (n : Nat)) h3 := e3
    obtain ⟨x, h4, e4, hx, k4, l4⟩ := pick_lst (xs := [.int (n : Nat), .int 700, .int 699, .int 1]) k3.st (by simp) (by simp)
    have hm : ∃ m : Nat, x = .int (m : Nat) := by
      simp only [List.mem_cons, List.not_mem_nil, or_false] at hx
      rcases hx with rfl | rfl | rfl | rfl
      · exact ⟨n, rfl⟩
      · exact ⟨700, rfl⟩
      · exact ⟨699, rfl⟩
      · exact ⟨1, rfl⟩
    obtain ⟨m, rfl⟩ := hm
    have g : -1000 ≤ (234 : Int) ∧ (234 : Int) ≤ 1000 ∧ (us.map Use.enc).length ≤ 1000 := ⟨by omega, by omega, by simp; omega⟩
    have hmul : oMul (.tup (us.map Use.enc)) (.int 234) h4 = some (.tup ((List.replicate 234 us).flatten.map Use.enc), h4) := by
      rw [oMul_ti g, ← rep_encs]
      rfl
    have hlen : (List.replicate 234 us).flatten.length = 702 := by rw [List.length_flatten, List.map_replicate, l2, List.sum_replicate_nat]
    have hmem : ∀ x ∈ (List.replicate 234 us).flatten, x ∈ us := fun x hx => by
      obtain ⟨l, hl, hxl⟩ := List.mem_flatten.mp hx
      rw [List.eq_of_mem_replicate hl] at hxl
      exact hxl
    generalize (List.replicate 234 us).flatten = big at hmul hlen hmem
    refine ⟨.leaf (big.take m), h4, ?_, ⟨by simp; omega, fun x hx => p2 x (hmem x (List.mem_of_mem_take hx))⟩, Nat.zero_le _, ((k1.trans k2).trans k3).trans k4⟩
    have e4' : f_law_pick [.li s, .lst [.int (n : Nat), .int 700, .int 699, .int 1]] h3 = .ok (.int (m : Nat)) h4 := e4
    have e1'' : f_law_take [.li s, .int 8] h = .ok (.int 0) h1 := e1
    simp [f_law_draw, runS_run, bf_law_draw, e1'', e2, e3', e4', hmul, oSl, cutA_take, Tr.enc]
  · obtain ⟨d, h2, e2, k2, l2, hd⟩ := take_nat (n := 9) k1.st (by decide) (by decide)
    have e2' : f_law_take [.li s, .int 9] h1 = .ok (.int (d : Nat)) h2 := e2
    have c0' : ¬ (k : Int) = 0 := by omega
    by_cases c1 : k = 1
    · subst c1
      have e1'' : f_law_take [.li s, .int 8] h = .ok (.int 1) h1 := e1
      obtain ⟨t, h3, e3, o3, d3, k3⟩ := even_tree_run (d := d) k2.st hw (by omega)
      exact ⟨t, h3, by simp [f_law_draw, runS_run, bf_law_draw, e1'', e2', e3], o3.mono (by decide), by omega, (k1.trans k2).trans k3⟩
    · have c1' : ¬ (k : Int) = 1 := by omega
      by_cases c2 : (k : Int) < 4
      · obtain ⟨t, h3, e3, o3, d3, k3⟩ := row_tree_run (d := d) k2.st hw (by omega)
        exact ⟨t, h3, by simp [f_law_draw, runS_run, bf_law_draw, e1', c0, c0', c1, c1', c2, e2', e3], o3.mono (by decide), by omega, (k1.trans k2).trans k3⟩
      · have ha : ∃ a : Nat, atI [A.int 1, .int 2, .int 3, .int (d : Nat)] ((k : Int) - 4) = some (.int (a : Nat)) ∧ a ≤ 8 := by
          have ek : ((k : Int) - 4) = ((k - 4 : Nat) : Int) := by omega
          rw [ek, atI_nat (List.getElem?_eq_getElem (l := [A.int 1, .int 2, .int 3, .int (d : Nat)]) (show k - 4 < 4 by omega))]
          have : k = 4 ∨ k = 5 ∨ k = 6 ∨ k = 7 := by omega
          rcases this with rfl | rfl | rfl | rfl
          · exact ⟨1, rfl, by decide⟩
          · exact ⟨2, rfl, by decide⟩
          · exact ⟨3, rfl, by decide⟩
          · exact ⟨d, rfl, by omega⟩
        obtain ⟨a, ea, a8⟩ := ha
        obtain ⟨t, h3, e3, o3, d3, k3⟩ := any_tree_run (s := s) hw (fuel := 12) (d := a) (by omega) k2.st
        exact ⟨t, h3, by simp [f_law_draw, runS_run, bf_law_draw, e1', c0, c0', c1, c1', c2, e2', ea, e3], o3.mono (by decide), by omega, (k1.trans k2).trans k3⟩
end Q

namespace Q
open PySem PySem.Spec PyProof.Rows L2 Ab
/-! ### the size of a tree, and the law's own count -/
def Tr.leaves : Tr → Nat
  | .leaf _ => 1
  | .node _ _ l r => l.leaves + r.leaves
def Tr.nodes : Tr → Nat
  | .leaf _ => 0
  | .node _ _ l r => 1 + l.nodes + r.nodes
def Tr.count : Tr → Nat
  | .leaf st => st.length
  | .node st _ l r => st.length + l.count + r.count
theorem Tr.few : ∀ t : Tr, t.leaves ≤ 2 ^ t.depth ∧ t.nodes + 1 = t.leaves
  | .leaf _ => ⟨Nat.le_refl _, rfl⟩
  | .node _ _ l r => by
    have h1 := l.few
    have h2 := r.few
    have m1 : 2 ^ l.depth ≤ 2 ^ (max l.depth r.depth) := Nat.pow_le_pow_right (by decide) (Nat.le_max_left ..)
    have m2 : 2 ^ r.depth ≤ 2 ^ (max l.depth r.depth) := Nat.pow_le_pow_right (by decide) (Nat.le_max_right ..)
    have e : 2 ^ (1 + max l.depth r.depth) = 2 * 2 ^ (max l.depth r.depth) := by rw [Nat.add_comm, Nat.pow_succ, Nat.mul_comm]
    refine ⟨?_, ?_⟩
    · show l.leaves + r.leaves ≤ 2 ^ (1 + max l.depth r.depth)
      omega
    · show 1 + l.nodes + r.nodes + 1 = l.leaves + r.leaves
      omega
theorem Tr.count_le {ws : List Str} {m : Nat} : ∀ {t : Tr}, t.Ok ws m → t.count ≤ m * (t.leaves + t.nodes)
  | .leaf _, h => by
    show _ ≤ m * (1 + 0)
    have := h.1
    simpa [Tr.count] using this
  | .node st _ l r, h => by
    have h1 := Tr.count_le h.2.2.2.1
    have h2 := Tr.count_le h.2.2.2.2
    have h0 := h.1
    show st.length + l.count + r.count ≤ m * (l.leaves + r.leaves + (1 + l.nodes + r.nodes))
    have : m * (l.leaves + r.leaves + (1 + l.nodes + r.nodes)) = m + m * (l.leaves + l.nodes) + m * (r.leaves + r.nodes) := by
      simp only [Nat.mul_add, Nat.mul_one]; omega
    omega
theorem case_leaf : ¬ (Str.ofString "case" = Str.ofString "leaf") := by decide +kernel
def sizeA (t : Tr) : A := .tup [.int (t.leaves : Nat), .int (t.nodes : Nat), .int (t.count : Nat), .int (t.depth : Nat)]
theorem tree_size_run : ∀ {fuel : Nat} {t : Tr} {h : AH}, t.depth < fuel → f_tree_size fuel [t.enc] h = .ok (sizeA t) h
  | 0, t, h, hd => absurd hd (Nat.not_lt_zero _)
  | fuel + 1, .leaf st, h, hd => by
    simp [f_tree_size, runS_run, bf_tree_size, Tr.enc, sizeA, Tr.leaves, Tr.nodes, Tr.count, Tr.depth]
  | fuel + 1, .node st u l r, h, hd => by
    have hd' : 1 + max l.depth r.depth < fuel + 1 := hd
    have e1 := tree_size_run (fuel := fuel) (t := l) (h := h) (by omega)
    have e2 := tree_size_run (fuel := fuel) (t := r) (h := h) (by omega)
    have em : (if (l.depth : Int) < (r.depth : Int) then (r.depth : Int) else (l.depth : Int)) = ((max l.depth r.depth : Nat) : Int) := by split <;> omega
    simp [f_tree_size, runS_run, bf_tree_size, Tr.enc, e1, e2, sizeA, case_leaf, Tr.leaves, Tr.nodes, Tr.count, Tr.depth]
    split <;> omega
/-- nothing of the old heap is touched -/
structure Frm (h h' : AH) : Prop where
  len : h.length ≤ h'.length
  at_ : ∀ (l : Nat) (c : Cell), h[l]? = some c → h'[l]? = some c
theorem Frm.kp {s : Nat} {h h' : AH} (f : Frm h h') (z : Stored h s) : Kp s h h' := by
  obtain ⟨a, b, c, d, e, g, i, j⟩ := z
  exact ⟨⟨a, b, c, d, e, g, f.at_ _ _ i, j⟩, f.len, fun l c _ q => f.at_ l c q⟩
theorem count_leaf {h : AH} {P Z : Nat} {k : Nat} {xs : List A} {st : List Use} {a b c m d : Int} (eP : h[P]? = some (.lst xs)) (eZ : h[Z]? = some (.lst [.int a, .int b, .int c, .int m])) (hk : (k : Int) < xs.length) (ek : atI xs (k : Int) = some (.tup [(Tr.leaf st).enc, .int d])) (v0 v4 v5 : Option A) :
    bf_law_count_B1 [v0, some (.li P), some (.li Z), some (.int (k : Nat)), v4, v5] h = .nx [v0, some (.li P), some (.li Z), some (.int (k : Nat)), some (Tr.leaf st).enc, some (.int d)] (h.set Z (.lst [.int (a + 1), .int b, .int (c + st.length), .int (if d > m then d else m)])) := by
  have hk' : ¬ ((xs.length : Int) ≤ (k : Int)) := by omega
  have lt := (List.getElem?_eq_some_iff.mp eZ).1
  simp [bf_law_count_B1, eP, hk', ek, eZ, Tr.enc, ixN, List.getElem?_set_self', List.set_set]
end Q

namespace Q
open PySem PySem.Spec PyProof.Rows L2 Ab
theorem count_node {h : AH} {P Z : Nat} {k : Nat} {xs : List A} {st : List Use} {u : Use} {l r : Tr} {a b c m d : Int} (hPZ : P ≠ Z) (eP : h[P]? = some (.lst xs)) (eZ : h[Z]? = some (.lst [.int a, .int b, .int c, .int m])) (hk : (k : Int) < xs.length) (hx : xs.length < 99999) (ek : atI xs (k : Int) = some (.tup [(Tr.node st u l r).enc, .int d])) (v0 v4 v5 : Option A) :
    bf_law_count_B1 [v0, some (.li P), some (.li Z), some (.int (k : Nat)), v4, v5] h = .nx [v0, some (.li P), some (.li Z), some (.int (k : Nat)), some (Tr.node st u l r).enc, some (.int d)] ((h.set Z (.lst [.int a, .int (b + 1), .int (c + st.length), .int (if d > m then d else m)])).set P (.lst (xs ++ [.tup [l.enc, .int (d + 1)]] ++ [.tup [r.enc, .int (d + 1)]]))) := by
  have hk' : ¬ ((xs.length : Int) ≤ (k : Int)) := by omega
  have lt := (List.getElem?_eq_some_iff.mp eZ).1
  have ltP := (List.getElem?_eq_some_iff.mp eP).1
  have hPZ' : Z ≠ P := fun q => hPZ q.symm
  have x1 : xs.length < 100000 := by omega
  have x2 : xs.length + 1 < 100000 := by omega
  have gP : ∀ c : Cell, (h.set Z c)[P]? = some (.lst xs) := fun c => by rw [List.getElem?_set_ne hPZ']; exact eP
  have gS : ∀ c c' : Cell, ((h.set Z c).set P c')[P]? = some c' := fun c c' => List.getElem?_set_self (by simpa using ltP)
  have gZ : ∀ c : Cell, (h.set Z c)[Z]? = some c := fun c => List.getElem?_set_self lt
  simp only [bf_law_count_B1, sSeq_run]
  simp [eP, hk', ek, eZ, Tr.enc, ixN, gZ, case_leaf, List.set_set, isLst_li, gP, x1, gS, x2]
noncomputable def encP (p : Tr × Nat) : A := .tup [p.1.enc, .int (p.2 : Nat)]
def sL (q : List (Tr × Nat)) : Nat := (q.map fun p => p.1.leaves).sum
def sN (q : List (Tr × Nat)) : Nat := (q.map fun p => p.1.nodes).sum
def sC (q : List (Tr × Nat)) : Nat := (q.map fun p => p.1.count).sum
def sD : List (Tr × Nat) → Nat
  | [] => 0
  | p :: q => max (p.2 + p.1.depth) (sD q)
theorem sD_app (p q : List (Tr × Nat)) : sD (p ++ q) = max (sD p) (sD q) := by
  induction p with
  | nil => simp [sD]
  | cons x p ih => simp only [List.cons_append, sD, ih]; omega
theorem sL_len : ∀ q : List (Tr × Nat), q.length ≤ sL q
  | [] => Nat.le_refl _
  | p :: q => by
    have h1 := sL_len q
    have h2 := p.1.few
    show q.length + 1 ≤ p.1.leaves + sL q
    omega
theorem count_run {h : AH} {t : Tr} (ht : t.depth ≤ 8) : ∃ h', f_law_count [t.enc] h = .ok (sizeA t) h' ∧ Frm h h' := by
  have few := t.few
  have p8 : 2 ^ t.depth ≤ 2 ^ 8 := Nat.pow_le_pow_right (by decide) ht
  have q8 : (2 : Nat) ^ 8 = 256 := rfl
  have key := forL_out (chk := fun _ => True) (g := tgN 3) (b := bf_law_count_B1) (xs := rangeA 0 1023) (h := h ++ [.lst [.tup [t.enc, .int 0]]] ++ [.lst [.int 0, .int 0, .int 0, .int 0]]) (ρ := [some t.enc, some (.li h.length), some (.li (h.length + 1)), none, none, none])
    (fun i ρ h' => ∃ (done pend : List (Tr × Nat)) (a b c m : Nat) (v3 v4 v5 : Option A), ρ = [some t.enc, some (.li h.length), some (.li (h.length + 1)), v3, v4, v5] ∧ h'.length = h.length + 2 ∧ (∀ (l : Nat) (c : Cell), h[l]? = some c → h'[l]? = some c) ∧ h'[h.length]? = some (.lst ((done ++ pend).map encP)) ∧ h'[h.length + 1]? = some (.lst [.int (a : Nat), .int (b : Nat), .int (c : Nat), .int (m : Nat)]) ∧ done.length = i ∧ a + sL pend = t.leaves ∧ b + sN pend = t.nodes ∧ c + sC pend = t.count ∧ max m (sD pend) = t.depth ∧ i + sL pend + sN pend = t.leaves + t.nodes ∧ pend.length ≤ sL pend)
    (fun f => ∃ ρ h', f = .nx ρ h' ∧ ρ[2]? = some (some (.li (h.length + 1))) ∧ h.length ≤ h'.length ∧ (∀ (l : Nat) (c : Cell), h[l]? = some c → h'[l]? = some c) ∧ h'[h.length + 1]? = some (.lst [.int (t.leaves : Nat), .int (t.nodes : Nat), .int (t.count : Nat), .int (t.depth : Nat)]))
    ⟨[], [(t, 0)], 0, 0, 0, 0, none, none, none, rfl, by simp, ?_, ?_, ?_, rfl, by simp [sL], by simp [sN], by simp [sC], by simp [sD], by simp [sL, sN], ?_⟩ (fun _ _ _ _ => trivial)
    (fun i ρ h1 hi p => ?_) (fun ρ h1 p => ?_)
  · obtain ⟨f, ef, ρ', h', rfl, e2, l2, f2, q2⟩ := key
    refine ⟨h', ?_, l2, f2⟩
    have gn : Gd (-(2 ^ 62) ≤ (1023 : Int) ∧ (1023 : Int) < 2 ^ 62) := ⟨by omega, by omega⟩
    have eL : bf_law_count_L1 [some t.enc, some (.li h.length), some (.li (h.length + 1)), none, none, none] (h ++ [.lst [.tup [t.enc, .int 0]]] ++ [.lst [.int 0, .int 0, .int 0, .int 0]]) = .nx ρ' h' := by
      rw [← ef]
      simp only [bf_law_count_L1, sFor_run, iR1_run, aCons_run, aNil_run, eC_run, Out.bind_ok, if_pos gn, Out.fl_ok]
      rfl
    simp [-List.append_assoc, f_law_count, runS_run, bf_law_count, eL, e2, q2, sizeA]
  · intro l c e
    have hlt := (List.getElem?_eq_some_iff.mp e).1
    rw [List.append_assoc, List.getElem?_append_left hlt]
    exact e
  · rw [List.append_assoc, List.getElem?_append_right (by omega), Nat.sub_self]; rfl
  · rw [List.getElem?_append_right (by simp)]; simp
  · have : 1 ≤ t.leaves := by omega
    simp [sL]; omega
  · obtain ⟨done, pend, a, b, c, m, v3, v4, v5, rfl, n1, f1, q1, q2, i1, i2, i3, i4, i5, i6, i7⟩ := p
    rw [rangeA_length] at hi
    refine ⟨_, tgN_run, ?_⟩
    rw [rangeA_get, Int.zero_add]
    cases pend with
    | nil =>
      refine .inr (.inl ⟨[some t.enc, some (.li h.length), some (.li (h.length + 1)), some (.int (i : Nat)), v4, v5], h1, ?_, _, _, rfl, rfl, by omega, f1, ?_⟩)
      · have hk' : ((done.length : Nat) : Int) ≤ (i : Int) := by omega
        simp [bf_law_count_B1, q1, hk', i1]
      · simp only [sL, sN, sC, sD, List.map_nil, List.sum_nil] at i2 i3 i4 i5
        rw [q2, ← i2, ← i3, ← i4, ← i5]
        simp
    | cons p pend =>
      obtain ⟨tt, d⟩ := p
      have hk : ((i : Nat) : Int) < (((done ++ (tt, d) :: pend).map encP).length : Int) := by simp; omega
      have ek : atI ((done ++ (tt, d) :: pend).map encP) ((i : Nat) : Int) = some (.tup [tt.enc, .int (d : Nat)]) := by
        refine atI_nat ?_
        rw [List.map_append, List.getElem?_append_right (by simp; omega)]
        simp [i1, encP]
      have em : (if (d : Int) > (m : Int) then (d : Int) else (m : Int)) = ((max m d : Nat) : Int) := by split <;> omega
      have hZ : h.length + 1 < h1.length := (List.getElem?_eq_some_iff.mp q2).1
      have hxx : ((done ++ (tt, d) :: pend).map encP).length < 99999 := by
        simp only [sL, List.map_cons, List.sum_cons] at i6 i7
        simp only [List.length_map, List.length_append, List.length_cons] at i7 ⊢
        omega
      cases tt with
      | leaf st =>
        have e := count_leaf (a := (a : Int)) (b := (b : Int)) (c := (c : Int)) (m := (m : Int)) (d := (d : Int)) q1 q2 hk ek (some t.enc) v4 v5
        rw [em] at e
        refine .inl ⟨_, _, .inl e, done ++ [(.leaf st, d)], pend, a + 1, b, c + st.length, max m d, _, _, _, rfl, by simp [n1], ?_, ?_, ?_, by simp [i1], ?_, ?_, ?_, ?_, ?_, ?_⟩
        · intro l c2 e2
          have hlt := (List.getElem?_eq_some_iff.mp e2).1
          rw [List.getElem?_set_ne (by omega)]
          exact f1 l c2 e2
        · rw [List.getElem?_set_ne (by omega), q1, List.append_assoc]; rfl
        · rw [List.getElem?_set_self hZ]; simp
        · simp only [sL, List.map_cons, List.sum_cons, Tr.leaves] at i2 ⊢; omega
        · simp only [sN, List.map_cons, List.sum_cons, Tr.nodes] at i3 ⊢; omega
        · simp only [sC, List.map_cons, List.sum_cons, Tr.count] at i4 ⊢; omega
        · simp only [sD, Tr.depth] at i5 ⊢; omega
        · simp only [sL, sN, List.map_cons, List.sum_cons, Tr.leaves, Tr.nodes] at i6 ⊢; omega
        · exact sL_len _
      | node st u l r =>
        have e := count_node (a := (a : Int)) (b := (b : Int)) (c := (c : Int)) (m := (m : Int)) (d := (d : Int)) (P := h.length) (Z := h.length + 1) (by omega) q1 q2 hk hxx ek (some t.enc) v4 v5
        rw [em] at e
        have fl := l.few
        have frr := r.few
        refine .inl ⟨_, _, .inl e, done ++ [(.node st u l r, d)], pend ++ [(l, d + 1), (r, d + 1)], a, b + 1, c + st.length, max m d, _, _, _, rfl, by simp [n1], ?_, ?_, ?_, by simp [i1], ?_, ?_, ?_, ?_, ?_, ?_⟩
        · intro l c2 e2
          have hlt := (List.getElem?_eq_some_iff.mp e2).1
          rw [List.getElem?_set_ne (by omega), List.getElem?_set_ne (by omega)]
          exact f1 l c2 e2
        · rw [List.getElem?_set_self (by simp; omega)]
          simp [encP]
        · rw [List.getElem?_set_ne (by omega), List.getElem?_set_self hZ]; simp
        · simp only [sL, List.map_cons, List.sum_cons, Tr.leaves, List.map_append, List.sum_append, List.map_nil, List.sum_nil] at i2 ⊢; omega
        · simp only [sN, List.map_cons, List.sum_cons, Tr.nodes, List.map_append, List.sum_append, List.map_nil, List.sum_nil] at i3 ⊢; omega
        · simp only [sC, List.map_cons, List.sum_cons, Tr.count, List.map_append, List.sum_append, List.map_nil, List.sum_nil] at i4 ⊢; omega
        · rw [sD_app]; simp only [sD, Tr.depth] at i5 ⊢; omega
        · simp only [sL, sN, List.map_cons, List.sum_cons, Tr.leaves, Tr.nodes, List.map_append, List.sum_append, List.map_nil, List.sum_nil] at i6 ⊢; omega
        · exact sL_len _
  · obtain ⟨done, pend, a, b, c, m, v3, v4, v5, rfl, n1, f1, q1, q2, i1, i2, i3, i4, i5, i6, i7⟩ := p
    rw [rangeA_length] at i6
    omega
end Q

namespace Q
open PySem PySem.Spec PyProof.Rows L2 Ab
theorem sizeA_tiny {ws : List Str} {t : Tr} (ht : t.depth ≤ 9) (ho : t.count ≤ 10000000) : tiny (sizeA t) = true ∧ dok 60 (sizeA t) = true ∧ (pd (sizeA t)).weight ≤ 2 ^ 20 := by
  have few := t.few
  have p8 : 2 ^ t.depth ≤ 2 ^ 9 := Nat.pow_le_pow_right (by decide) ht
  have q8 : (2 : Nat) ^ 9 = 512 := rfl
  have b1 : ((t.leaves : Nat) : Int).natAbs < 10 ^ 12 := by omega
  have b2 : ((t.nodes : Nat) : Int).natAbs < 10 ^ 12 := by omega
  have b3 : ((t.count : Nat) : Int).natAbs < 10 ^ 12 := by omega
  have b4 : ((t.depth : Nat) : Int).natAbs < 10 ^ 12 := by omega
  have w1 := int_weight b1
  have w2 := int_weight b2
  have w3 := int_weight b3
  have w4 := int_weight b4
  refine ⟨?_, ?_, ?_⟩
  · simp only [sizeA, tiny, tinys, Bool.and_eq_true, decide_eq_true_eq]
    exact ⟨b1, b2, b3, b4, trivial⟩
  · simp [sizeA, dok]
  · simp only [sizeA, pd, pds]
    simp only [PyData.weight] at w1 w2 w3 w4
    simp only [PyData.weight, PyData.weightAll]
    omega
theorem aEq_self_sizeA (t : Tr) : aEq (sizeA t) (sizeA t) = true := by
  simp [aEq, sizeA, pd, pds, PyData.eqv, PyData.eqvAll]
theorem exact_run {t : Tr} {h : AH} (ht : t.depth ≤ 9) (ho : t.count ≤ 10000000) : f_law_exact [sizeA t, sizeA t] h = .ok (.bl true) h := by
  obtain ⟨a, b, c⟩ := sizeA_tiny (ws := []) ht ho
  have e1 : oEq (sizeA t) (sizeA t) h = some (.bl true, h) := by
    rw [oEq_dok rfl rfl (fun s q => by simp [sizeA] at q) b b, aEq_self_sizeA]
  have e2 := repr_tiny (h := h) b a c
  simp [f_law_exact, runS_run, bf_law_exact, e1, e2]
theorem sizes_pick {x : A} {n : Nat} (hn : n < 11) (h : x ∈ [A.int 2, .int 3, .int 3, .int 4, .int 4, .int 5, .int 12, .int (2 + (n : Int))]) : ∃ m : Nat, x = .int (m : Nat) ∧ 2 ≤ m ∧ m ≤ 12 := by
  simp only [List.mem_cons, List.not_mem_nil, or_false] at h
  rcases h with rfl | rfl | rfl | rfl | rfl | rfl | rfl | rfl
  · exact ⟨2, rfl, by omega⟩
  · exact ⟨3, rfl, by omega⟩
  · exact ⟨3, rfl, by omega⟩
  · exact ⟨4, rfl, by omega⟩
  · exact ⟨4, rfl, by omega⟩
  · exact ⟨5, rfl, by omega⟩
  · exact ⟨12, rfl, by omega⟩
  · exact ⟨2 + n, by simp, by omega⟩
theorem law_true_k55 (ns : List Int) (hn : ns.length ≤ 63) : ∃ h', f_law_v10 [.lst (ns.map .int)] [] = .ok (.bl true) h' := by
  obtain ⟨s, h1, e1, z1⟩ := store_run ns hn
  obtain ⟨n, h2, e2, k2, l2, hn2⟩ := take_nat (n := 11) z1 (by decide) (by decide)
  have e2' : f_law_take [.li s, .int 11] h1 = .ok (.int (n : Nat)) h2 := e2
  obtain ⟨x, h3, e3, hx, k3, l3⟩ := pick_lst (xs := [.int 2, .int 3, .int 3, .int 4, .int 4, .int 5, .int 12, .int (2 + (n : Int))]) k2.st (by simp) (by simp)
  obtain ⟨size, rfl, s2, s12⟩ := sizes_pick hn2 hx
  obtain ⟨ws, h4, e4, w4, c4, k4⟩ := realm_run (size := size) k3.st (by omega)
  have hw : WorldOk ws := { toWorld := w4, two := by omega, many := by omega }
  obtain ⟨t1, h5, e5, o5, d5, k5⟩ := draw_run k4.st hw
  obtain ⟨t2, h6, e6, o6, d6, k6⟩ := draw_run k5.st hw
  obtain ⟨h7, e7, f7⟩ := count_run (h := h6) d5
  have k7 := f7.kp k6.st
  obtain ⟨h8, e8, f8⟩ := count_run (h := h7) d6
  have k8 := f8.kp k7.st
  have few1 := t1.few
  have few2 := t2.few
  have p1 : 2 ^ t1.depth ≤ 2 ^ 8 := Nat.pow_le_pow_right (by decide) d5
  have p2 : 2 ^ t2.depth ≤ 2 ^ 8 := Nat.pow_le_pow_right (by decide) d6
  have q8 : (2 : Nat) ^ 8 = 256 := rfl
  have c1 := Tr.count_le o5
  have c2 := Tr.count_le o6
  have x1 : ∀ h : AH, f_law_exact [sizeA t1, sizeA t1] h = .ok (.bl true) h := fun h => exact_run (by omega) (by omega)
  have x2 : ∀ h : AH, f_law_exact [sizeA t2, sizeA t2] h = .ok (.bl true) h := fun h => exact_run (by omega) (by omega)
  have s1 : ∀ h : AH, f_tree_size 12 [t1.enc] h = .ok (sizeA t1) h := fun h => tree_size_run (by omega)
  have s2 : ∀ h : AH, f_tree_size 12 [t2.enc] h = .ok (sizeA t2) h := fun h => tree_size_run (by omega)
  obtain ⟨u, h9, e9, q9, k9⟩ := any_use_run (ends := 2) k8.st hw (by decide)
  have e9' : f_law_any_use [.li s, .tup (ws.map .str), .int 2] h8 = .ok u.enc h9 := e9
  have m1 : max t1.depth t2.depth ≤ 8 := by omega
  have s3 : ∀ h : AH, f_tree_size 12 [(Tr.node [] u t1 t2).enc] h = .ok (sizeA (Tr.node [] u t1 t2)) h := fun h => tree_size_run (by show 1 + max t1.depth t2.depth < 12; omega)
  have x3 : ∀ h : AH, f_law_exact [sizeA (Tr.node [] u t1 t2), sizeA (Tr.node [] u t1 t2)] h = .ok (.bl true) h := fun h => exact_run (by show 1 + max t1.depth t2.depth ≤ 9; omega) (by show [].length + t1.count + t2.count ≤ _; simp only [List.length_nil]; omega)
  have en : A.tup [.str (Str.ofString "case"), .tup [], u.enc, t1.enc, t2.enc] = (Tr.node [] u t1 t2).enc := rfl
  have em : (if t1.depth < t2.depth then (t2.depth : Int) else (t1.depth : Int)) = ((max t1.depth t2.depth : Nat) : Int) := by
    by_cases q : t1.depth < t2.depth
    · rw [if_pos q]; omega
    · rw [if_neg q]; omega
  have es : A.tup [.int ((t1.leaves : Int) + (t2.leaves : Int)), .int ((t1.nodes : Int) + (t2.nodes : Int) + 1), .int ((t1.count : Int) + (t2.count : Int)), .int (((max t1.depth t2.depth : Nat) : Int) + 1)] = sizeA (Tr.node [] u t1 t2) := by
    have a1 : ((t1.leaves + t2.leaves : Nat) : Int) = (t1.leaves : Int) + (t2.leaves : Int) := by omega
    have a2 : ((1 + t1.nodes + t2.nodes : Nat) : Int) = (t1.nodes : Int) + (t2.nodes : Int) + 1 := by omega
    have a3 : (((([] : List Use).length + t1.count + t2.count : Nat)) : Int) = (t1.count : Int) + (t2.count : Int) := by simp
    have a4 : ((1 + max t1.depth t2.depth : Nat) : Int) = ((max t1.depth t2.depth : Nat) : Int) + 1 := by omega
    show _ = A.tup [.int ((t1.leaves + t2.leaves : Nat) : Int), .int ((1 + t1.nodes + t2.nodes : Nat) : Int), .int ((([] : List Use).length + t1.count + t2.count : Nat) : Int), .int ((1 + max t1.depth t2.depth : Nat) : Int)]
    rw [a1, a2, a3, a4]
  have sA1 : sizeA t1 = A.tup [.int (t1.leaves : Nat), .int (t1.nodes : Nat), .int (t1.count : Nat), .int (t1.depth : Nat)] := rfl
  have sA2 : sizeA t2 = A.tup [.int (t2.leaves : Nat), .int (t2.nodes : Nat), .int (t2.count : Nat), .int (t2.depth : Nat)] := rfl
  generalize max t1.depth t2.depth = D at em es m1
  rw [sA1] at x1 s1 e7
  rw [sA2] at x2 s2 e8
  by_cases c8 : (D : Int) < 8 ∧ (t1.nodes : Int) + (t1.count : Int) + (t2.nodes : Int) + (t2.count : Int) < 699
  · refine ⟨h9, ?_⟩
    simp [f_law_v10, runS_run, bf_law_v10, e1, e2', e3, e4, e5, e6, e7, e8, s1, s2, x1, x2, em, c8.1, c8.2, e9', en, es, s3, x3]
  · refine ⟨h8, ?_⟩
    by_cases c9 : (D : Int) < 8
    · have c10 : ¬ ((t1.nodes : Int) + (t1.count : Int) + (t2.nodes : Int) + (t2.count : Int) < 699) := fun q => c8 ⟨c9, q⟩
      simp [f_law_v10, runS_run, bf_law_v10, e1, e2', e3, e4, e5, e6, e7, e8, s1, s2, x1, x2, em, c9, c10]
    · simp [f_law_v10, runS_run, bf_law_v10, e1, e2', e3, e4, e5, e6, e7, e8, s1, s2, x1, x2, em, c9]
end Q

namespace Pk55
open PySem PySem.Spec PyProof.Rows L2 Ab Q
def fn : List He.DefD := [df_tree_size, df_law_mix, df_law_store, df_law_take, df_law_pick, df_law_chance, df_law_depths, df_law_realm, df_law_claim, df_law_exact, df_law_any_use, df_law_any_tree, df_law_row_tree, df_law_even_tree, df_law_draw, df_law_count, df_law_v10]
def fa : List He.Fa := [.glo "tree_size", .glo "_law_mix", .glo "_law_store", .glo "_law_take", .glo "_law_pick", .glo "_law_chance", .glo "_law_depths", .glo "_law_realm", .glo "_law_claim", .glo "_law_exact", .glo "_law_any_use", .glo "_law_any_tree", .glo "_law_row_tree", .glo "_law_even_tree", .glo "_law_draw", .glo "_law_count", .glo "law", .free "int", .free "len", .free "list", .free "max", .free "min", .free "range", .free "repr", .free "sorted", .free "tuple"]
def loose0 : List PySem.Str := ["tree_size", "_law_mix", "_law_store", "_law_take", "_law_pick", "_law_chance", "_law_depths", "_law_realm", "_law_claim", "_law_exact", "_law_any_use", "_law_any_tree", "_law_row_tree", "_law_even_tree", "_law_draw", "_law_count"]
def loose : List PySem.Str := loose0
abbrev R : PySem.W.OpenRow := PySem.W.OpenLaw.row PySem.Challenge.rw_keepsapart_k55_the_size_of_a_tree
abbrev hk : PySem.W.Hook := He.hookD 4 fa fn
def ob (s : PySem.W.SharedT) : He.AlD := He.obsDG 4 fa fn (HandSHeadRun.getT s)
theorem ob_eq (s : PySem.W.SharedT) : ob s = hk.obs s.abs := He.obsDG_eq (HandSHeadRun.getT_eq s)
theorem run (w : World) : HandSHeadRun.RunEq R (PySem.W.view R.prog [18]) hk ob 3000 loose w := by
  intro os
  kernel_rfl
theorem facts {P : Program} {w : World} {K : PySem.W.Frag} {h : Heap} {mg : Str → Option Value} (X : K.In h) (G : h.Ns mainGlobals mg) (c : He.SaysD fa fn K) : ∃ (a : Addr) (fd : FuncData), mg "law" = some (.ref a) ∧ (∀ (s : Shared) (u : Value), BindsTo s fd ⟨[u], []⟩ [("script", u)]) ∧ ∀ base : Heap, FnG P w K mg base (L2.CX P w) 19 a fd ["script"] (spF K 1 f_law_v10) := by
  have T : Tx K mg := ⟨He.free_ok X G (c.fact 17 (f := .free "int") rfl), He.free_ok X G (c.fact 18 (f := .free "len") rfl), He.free_ok X G (c.fact 19 (f := .free "list") rfl), He.free_ok X G (c.fact 20 (f := .free "max") rfl), He.free_ok X G (c.fact 21 (f := .free "min") rfl), He.free_ok X G (c.fact 22 (f := .free "range") rfl), He.free_ok X G (c.fact 23 (f := .free "repr") rfl), He.free_ok X G (c.fact 24 (f := .free "sorted") rfl), He.free_ok X G (c.fact 25 (f := .free "tuple") rfl)⟩
  obtain ⟨_, Ff_tree_size⟩ := c.def_ 0 (d := df_tree_size) rfl
  obtain ⟨_, Ff_law_mix⟩ := c.def_ 1 (d := df_law_mix) rfl
  obtain ⟨_, Ff_law_store⟩ := c.def_ 2 (d := df_law_store) rfl
  obtain ⟨_, Ff_law_take⟩ := c.def_ 3 (d := df_law_take) rfl
  obtain ⟨_, Ff_law_pick⟩ := c.def_ 4 (d := df_law_pick) rfl
  obtain ⟨_, Ff_law_chance⟩ := c.def_ 5 (d := df_law_chance) rfl
  obtain ⟨_, Ff_law_depths⟩ := c.def_ 6 (d := df_law_depths) rfl
  obtain ⟨_, Ff_law_realm⟩ := c.def_ 7 (d := df_law_realm) rfl
  obtain ⟨_, Ff_law_claim⟩ := c.def_ 8 (d := df_law_claim) rfl
  obtain ⟨_, Ff_law_exact⟩ := c.def_ 9 (d := df_law_exact) rfl
  obtain ⟨_, Ff_law_any_use⟩ := c.def_ 10 (d := df_law_any_use) rfl
  obtain ⟨_, Ff_law_any_tree⟩ := c.def_ 11 (d := df_law_any_tree) rfl
  obtain ⟨_, Ff_law_row_tree⟩ := c.def_ 12 (d := df_law_row_tree) rfl
  obtain ⟨_, Ff_law_even_tree⟩ := c.def_ 13 (d := df_law_even_tree) rfl
  obtain ⟨_, Ff_law_draw⟩ := c.def_ 14 (d := df_law_draw) rfl
  obtain ⟨_, Ff_law_count⟩ := c.def_ 15 (d := df_law_count) rfl
  obtain ⟨_, Ff_law_v10⟩ := c.def_ 16 (d := df_law_v10) rfl
  refine ⟨_, _, He.glo_ok X G (c.fact 16 (f := .glo "law") rfl), fun s u => FunD.bindsA (ps := ["script"]) Ff_law_v10 (fun _ _ _ _ _ _ us hl => match us, hl with | [_], _ => rfl) s [u] rfl, fun base => ?_⟩
  have hf_tree_size := wf_tree_size (P := P) (w := w) (base := base) T (He.glo_ok X G (c.fact 0 (f := .glo "tree_size") rfl)) Ff_tree_size  12
  have hf_law_mix := wf_law_mix (P := P) (w := w) (base := base) T (He.glo_ok X G (c.fact 1 (f := .glo "_law_mix") rfl)) Ff_law_mix 
  have hf_law_store := wf_law_store (P := P) (w := w) (base := base) T (He.glo_ok X G (c.fact 2 (f := .glo "_law_store") rfl)) Ff_law_store 
  have hf_law_take := wf_law_take (P := P) (w := w) (base := base) T (He.glo_ok X G (c.fact 3 (f := .glo "_law_take") rfl)) Ff_law_take hf_law_mix
  have hf_law_pick := wf_law_pick (P := P) (w := w) (base := base) T (He.glo_ok X G (c.fact 4 (f := .glo "_law_pick") rfl)) Ff_law_pick hf_law_take
  have hf_law_chance := wf_law_chance (P := P) (w := w) (base := base) T (He.glo_ok X G (c.fact 5 (f := .glo "_law_chance") rfl)) Ff_law_chance hf_law_take
  have hf_law_depths := wf_law_depths (P := P) (w := w) (base := base) T (He.glo_ok X G (c.fact 6 (f := .glo "_law_depths") rfl)) Ff_law_depths hf_law_chance
  have hf_law_realm := wf_law_realm (P := P) (w := w) (base := base) T (He.glo_ok X G (c.fact 7 (f := .glo "_law_realm") rfl)) Ff_law_realm hf_law_take hf_law_pick
  have hf_law_claim := wf_law_claim (P := P) (w := w) (base := base) T (He.glo_ok X G (c.fact 8 (f := .glo "_law_claim") rfl)) Ff_law_claim hf_law_take hf_law_pick
  have hf_law_exact := wf_law_exact (P := P) (w := w) (base := base) T (He.glo_ok X G (c.fact 9 (f := .glo "_law_exact") rfl)) Ff_law_exact 
  have hf_law_any_use := wf_law_any_use (P := P) (w := w) (base := base) T (He.glo_ok X G (c.fact 10 (f := .glo "_law_any_use") rfl)) Ff_law_any_use hf_law_take hf_law_claim
  have hf_law_any_tree := wf_law_any_tree (P := P) (w := w) (base := base) T (He.glo_ok X G (c.fact 11 (f := .glo "_law_any_tree") rfl)) Ff_law_any_tree hf_law_take hf_law_chance hf_law_depths hf_law_any_use 12
  have hf_law_row_tree := wf_law_row_tree (P := P) (w := w) (base := base) T (He.glo_ok X G (c.fact 12 (f := .glo "_law_row_tree") rfl)) Ff_law_row_tree hf_law_take hf_law_any_use
  have hf_law_even_tree := wf_law_even_tree (P := P) (w := w) (base := base) T (He.glo_ok X G (c.fact 13 (f := .glo "_law_even_tree") rfl)) Ff_law_even_tree hf_law_take hf_law_any_use
  have hf_law_draw := wf_law_draw (P := P) (w := w) (base := base) T (He.glo_ok X G (c.fact 14 (f := .glo "_law_draw") rfl)) Ff_law_draw hf_law_take hf_law_pick hf_law_any_use hf_law_any_tree hf_law_row_tree hf_law_even_tree
  have hf_law_count := wf_law_count (P := P) (w := w) (base := base) T (He.glo_ok X G (c.fact 15 (f := .glo "_law_count") rfl)) Ff_law_count 
  exact wf_law_v10 T Ff_law_v10 hf_tree_size hf_law_store hf_law_take hf_law_pick hf_law_realm hf_law_exact hf_law_any_use hf_law_draw hf_law_count
end Pk55
open PySem PySem.W PySem.Calls PyProof.Rows
theorem PySem.Challenge.cw_keepsapart_k55_the_size_of_a_tree_holds : PySem.Challenge.rw_keepsapart_k55_the_size_of_a_tree.Holds := by
  w_on; o_law
  refine HandSHeadRun.head_any (r := Pk55.R) (q := view Pk55.R.prog [18]) (H := Pk55.hk) (ob := Pk55.ob) (M := 3000) (loose := Pk55.loose) (d := HandSHeadRun.topDef Pk55.R.prog 18) (kwd := []) Pk55.ob_eq
    (by kernel_rfl) (fun s => by kernel_rfl) Pk55.run (by kernel_rfl) (by kernel_rfl) (by kernel_rfl) (by rfl) (by first | assumption | decide +kernel) (by decide +kernel) ⟨rfl, rfl, rfl, rfl, rfl, by decide +kernel⟩ ?hw ?hc
  case hw => w_witness2
  case hc =>
    refine Ab.walk_G (l := PySem.Challenge.rw_keepsapart_k55_the_size_of_a_tree) (n := 63) (k := 19) (x := "script") rfl (by decide) (by kernel_rfl) ⟨rfl, by decide, by decide⟩ ?F
    intro w mg fa h Y G hmg0
    obtain ⟨K, KX, c⟩ := Y
    have hmg : mg ("law" : PySem.Str) = some (.ref fa) := by
      have e : (HandSHeadRun.topDef Pk55.R.prog 18).name = ("law" : PySem.Str) := by kernel_rfl
      rw [← e]
      exact hmg0
    exact Ab.law_end KX Q.law_true_k55 (Pk55.facts KX G c) hmg

