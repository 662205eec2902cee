import PyProof.Rows.All
import Wide.All
import OpenK.AllK
import Wide.FinOn
import PyProof.EqAt
import PyProof.EqKinds
import PyProof.TupleCall
import HandS.ForMost
import HandS.Codes
import HandS.Style
import HandS.IsInst
import KE.DataCmp
import KE.SortData
import HandS.DictComp
import HandS.SetKeys
import HandS.SetBool
import KE.KDictDisplayH
import KE.KDictCopyH
import PySem.Challenge.RW_labelhouse_k79_whole_bars_read_from_both
import HandS.Exc
import HandS.TryOnly
import HandS.ExcOwn
import HandS.WordsExc
import HandS.ExcSuper
import KE.KExcSuper
import HandS.Walk
import HandS.Zip
import HandS.TupAny
import HandS.Conv
import KE.RegKSuper
/-! # Bars read from both ends: the mathematics, in plain Lean (no program in sight) -/
namespace K79
abbrev T := List Nat
abbrev Wd := Nat × T
abbrev Pn := Nat × T

structure Bk where
  start : T
  stop : T
  ws : List Wd

def look (ws : List Wd) (s : Nat) : T := ((ws.find? fun p => p.1 == s).map (·.2)).getD []
def rlook (ws : List Wd) (w : T) : Option Nat := (ws.find? fun p => p.2 == w).map (·.1)
def flat (b : Bk) (t : T) : T := t.flatMap (look b.ws)
def bars (b : Bk) (t : T) : T := b.start ++ flat b t ++ b.stop
def wide (b : Bk) : Nat := (b.ws.head?.map (·.2.length)).getD 0
def Mods (l : T) : Prop := ∀ c ∈ l, c = 48 ∨ c = 49
def Sgs (b : Bk) (t : T) : Prop := ∀ s ∈ t, s ∈ b.ws.map (·.1)

structure Good (b : Bk) : Prop where
  s1 : 1 ≤ b.start.length
  s4 : b.start.length ≤ 4
  e1 : 1 ≤ b.stop.length
  e4 : b.stop.length ≤ 4
  sm : Mods b.start
  em : Mods b.stop
  n2 : 2 ≤ b.ws.length
  n4 : b.ws.length ≤ 4
  wm : ∀ p ∈ b.ws, Mods p.2
  w2 : 2 ≤ wide b
  w3 : wide b ≤ 3
  wl : ∀ p ∈ b.ws, p.2.length = wide b
  nd1 : (b.ws.map (·.1)).Nodup
  nd2 : (b.ws.map (·.2)).Nodup
  sg : ∀ p ∈ b.ws, p.1 = 48 ∨ p.1 = 49 ∨ p.1 = 57 ∨ p.1 = 65 ∨ p.1 = 90

/-! ### looking up -/
theorem find_nd {α β : Type} [BEq β] [LawfulBEq β] (g : α → β) : ∀ {l : List α} {p : α}, (l.map g).Nodup → p ∈ l → l.find? (fun q => g q == g p) = some p
  | [], _, _, h => by simp at h
  | a :: r, p, hn, h => by
    rw [List.map_cons, List.nodup_cons] at hn
    rcases List.mem_cons.mp h with e | h
    · subst e
      rw [List.find?_cons_of_pos] <;> simp
    · have ne : ¬ g a = g p := fun e => hn.1 (by rw [e]; exact List.mem_map.mpr ⟨p, h, rfl⟩)
      rw [List.find?_cons_of_neg]
      · exact find_nd g hn.2 h
      · simpa using ne
theorem look_mem {ws : List Wd} (hn : (ws.map (·.1)).Nodup) {p : Wd} (h : p ∈ ws) : look ws p.1 = p.2 := by
  unfold look
  rw [find_nd (·.1) hn h]
  rfl
theorem rlook_mem {ws : List Wd} (hn : (ws.map (·.2)).Nodup) {p : Wd} (h : p ∈ ws) : rlook ws p.2 = some p.1 := by
  unfold rlook
  rw [find_nd (·.2) hn h]
  rfl
theorem rlook_some {ws : List Wd} {w : T} {s : Nat} (h : rlook ws w = some s) : (s, w) ∈ ws := by
  unfold rlook at h
  cases e : ws.find? (fun p => p.2 == w) with
  | none => rw [e] at h; cases h
  | some p =>
    rw [e] at h
    have hp := List.mem_of_find?_eq_some e
    have hw : (fun q : Wd => q.2 == w) p = true := List.find?_some (p := fun q : Wd => q.2 == w) e
    have e1 : p.1 = s := Option.some.inj h
    have e2 : p.2 = w := eq_of_beq (show (p.2 == w) = true from hw)
    rw [← e1, ← e2]
    exact hp
theorem rlook_none {ws : List Wd} {w : T} (h : rlook ws w = none) : w ∉ ws.map (·.2) := by
  unfold rlook at h
  rw [Option.map_eq_none_iff, List.find?_eq_none] at h
  intro hm
  obtain ⟨p, hp, e⟩ := List.mem_map.mp hm
  exact h p hp (by simpa using e)

section
variable {b : Bk}
theorem Good.look (g : Good b) {s : Nat} (h : s ∈ b.ws.map (·.1)) : (s, look b.ws s) ∈ b.ws := by
  obtain ⟨p, hp, e⟩ := List.mem_map.mp h
  subst e
  rw [look_mem g.nd1 hp]
  exact hp
theorem Good.look_len (g : Good b) {s : Nat} (h : s ∈ b.ws.map (·.1)) : (K79.look b.ws s).length = wide b := g.wl _ (g.look h)
theorem Good.rlook_look (g : Good b) {s : Nat} (h : s ∈ b.ws.map (·.1)) : rlook b.ws (K79.look b.ws s) = some s := rlook_mem g.nd2 (g.look h)
theorem flat_len (g : Good b) : ∀ {t : T}, Sgs b t → (flat b t).length = t.length * wide b
  | [], _ => by simp [flat]
  | s :: t, h => by
    have h1 := g.look_len (h s (List.mem_cons_self ..))
    have h2 := flat_len g (t := t) fun x hx => h x (List.mem_cons_of_mem _ hx)
    unfold flat at h2 ⊢
    rw [List.flatMap_cons, List.length_append, h1, h2, List.length_cons, Nat.add_mul]
    omega
theorem bars_len (g : Good b) {t : T} (h : Sgs b t) : (bars b t).length = b.start.length + t.length * wide b + b.stop.length := by
  unfold bars
  rw [List.length_append, List.length_append, flat_len g h]
theorem flat_app (b : Bk) (t u : T) : flat b (t ++ u) = flat b t ++ flat b u := by
  unfold flat
  rw [List.flatMap_append]
theorem flat_one (b : Bk) (s : Nat) : flat b [s] = look b.ws s := by
  unfold flat
  simp
theorem flat_cons (b : Bk) (s : Nat) (t : T) : flat b (s :: t) = look b.ws s ++ flat b t := by
  unfold flat
  rw [List.flatMap_cons]

/-! ### reading -/
def upTo (f : Nat → Option Nat) : Nat → Option T
  | 0 => some []
  | i + 1 => (upTo f i).bind fun t => (f i).map fun s => t ++ [s]
def chunk (b : Bk) (row : T) (j : Nat) : T := (row.drop (b.start.length + j * wide b)).take (wide b)
def many (b : Bk) (row : T) : Nat := (row.length - b.start.length - b.stop.length) / wide b
def fits (b : Bk) (row : T) : Bool :=
  decide (b.start.length + b.stop.length + wide b ≤ row.length) && (decide ((row.length - b.start.length - b.stop.length) % wide b = 0)
    && (row.take b.start.length == b.start && row.drop (row.length - b.stop.length) == b.stop))
def signAt (b : Bk) (row : T) (j : Nat) : Option Nat := rlook b.ws (chunk b row j)
def textOf (b : Bk) (row : T) : Option T := if fits b row = true then upTo (signAt b row) (many b row) else none

theorem upTo_none {f : Nat → Option Nat} {i : Nat} (h : f i = none) : ∀ {n : Nat}, i < n → upTo f n = none
  | 0, hn => absurd hn (Nat.not_lt_zero _)
  | n + 1, hn => by
    show (upTo f n).bind _ = none
    by_cases e : i = n
    · subst e
      cases upTo f i with
      | none => rfl
      | some t => show (f i).map _ = none; rw [h]; rfl
    · rw [upTo_none h (n := n) (by omega)]
      rfl
theorem upTo_succ {f : Nat → Option Nat} {i : Nat} {t : T} {s : Nat} (h : upTo f i = some t) (hs : f i = some s) : upTo f (i + 1) = some (t ++ [s]) := by
  show (upTo f i).bind _ = _
  rw [h]
  show (f i).map _ = _
  rw [hs]
  rfl
theorem upTo_len {f : Nat → Option Nat} : ∀ {n : Nat} {t : T}, upTo f n = some t → t.length = n
  | 0, t, h => by
    have e : [] = t := Option.some.inj h
    subst e
    rfl
  | n + 1, t, h => by
    have h : (upTo f n).bind _ = some t := h
    cases e : upTo f n with
    | none => rw [e] at h; cases h
    | some u =>
      rw [e] at h
      have h : (f n).map _ = some t := h
      cases e2 : f n with
      | none => rw [e2] at h; cases h
      | some s =>
        rw [e2] at h
        have h : some (u ++ [s]) = some t := h
        rw [← Option.some.inj h, List.length_append, upTo_len e]
        rfl
theorem upTo_get {f : Nat → Option Nat} : ∀ {n : Nat} {t : T}, upTo f n = some t → ∀ i, i < n → f i = t[i]?
  | 0, _, _, i, hi => absurd hi (Nat.not_lt_zero _)
  | n + 1, t, h, i, hi => by
    have h : (upTo f n).bind _ = some t := h
    cases e : upTo f n with
    | none => rw [e] at h; cases h
    | some u =>
      rw [e] at h
      have h : (f n).map _ = some t := h
      cases e2 : f n with
      | none => rw [e2] at h; cases h
      | some s =>
        rw [e2] at h
        have h : some (u ++ [s]) = some t := h
        have hl := upTo_len e
        rw [← Option.some.inj h]
        by_cases q : i = n
        · subst q
          rw [e2, List.getElem?_append_right (by omega), hl, Nat.sub_self]
          rfl
        · rw [List.getElem?_append_left (by omega)]
          exact upTo_get e i (by omega)
theorem upTo_all {f : Nat → Option Nat} {t : T} : ∀ {n : Nat}, n ≤ t.length → (∀ i, i < n → f i = t[i]?) → upTo f n = some (t.take n)
  | 0, _, _ => rfl
  | n + 1, hn, h => by
    have ih := upTo_all (n := n) (by omega) fun i hi => h i (by omega)
    have hs : f n = some t[n] := by rw [h n (by omega), List.getElem?_eq_getElem]
    rw [upTo_succ ih hs, List.take_add_one, List.getElem?_eq_getElem (by omega)]
    rfl

/-- the chunks of bars -/
theorem flat_chunk (g : Good b) : ∀ {t : T}, Sgs b t → ∀ {i s : Nat}, t[i]? = some s → ∀ z : T, ((flat b t ++ z).drop (i * wide b)).take (wide b) = look b.ws s
  | [], _, i, s, h, _ => by simp at h
  | a :: t, hs, i, s, h, z => by
    have ha := g.look_len (hs a (List.mem_cons_self ..))
    rw [flat_cons, List.append_assoc]
    cases i with
    | zero =>
      have e : a = s := Option.some.inj h
      subst e
      rw [Nat.zero_mul, List.drop_zero, ← ha, List.take_left']
      rfl
    | succ i =>
      have e : (i + 1) * wide b = (look b.ws a).length + i * wide b := by rw [ha, Nat.add_mul]; omega
      rw [e, List.drop_append]
      have e0 : (look b.ws a).drop ((look b.ws a).length + i * wide b) = [] := List.drop_eq_nil_of_le (by omega)
      rw [e0, List.nil_append, Nat.add_sub_cancel_left]
      exact flat_chunk g (fun x hx => hs x (List.mem_cons_of_mem _ hx)) (by simpa using h) z
theorem chunk_bars (g : Good b) {t : T} (hs : Sgs b t) {i s : Nat} (h : t[i]? = some s) : chunk b (bars b t) i = look b.ws s := by
  unfold chunk bars
  rw [List.append_assoc, List.drop_append]
  have e0 : b.start.drop (b.start.length + i * wide b) = [] := List.drop_eq_nil_of_le (by omega)
  rw [e0, List.nil_append, Nat.add_sub_cancel_left]
  exact flat_chunk g hs h _
theorem many_bars (g : Good b) {t : T} (hs : Sgs b t) : many b (bars b t) = t.length := by
  unfold many
  have w2 := g.w2
  rw [bars_len g hs]
  have e : b.start.length + t.length * wide b + b.stop.length - b.start.length - b.stop.length = t.length * wide b := by omega
  rw [e, Nat.mul_div_cancel _ (by omega)]
theorem fits_bars (g : Good b) {t : T} (hs : Sgs b t) (h : t ≠ []) : fits b (bars b t) = true := by
  have hl := bars_len g hs
  have h1 : 1 ≤ t.length := by
    cases t with
    | nil => exact absurd rfl h
    | cons a r => simp
  have hm : wide b ≤ t.length * wide b := by
    have := Nat.mul_le_mul_right (wide b) h1
    omega
  unfold fits
  have c1 : b.start.length + b.stop.length + wide b ≤ (bars b t).length := by rw [hl]; omega
  have c2 : ((bars b t).length - b.start.length - b.stop.length) % wide b = 0 := by
    rw [hl]
    have e : b.start.length + t.length * wide b + b.stop.length - b.start.length - b.stop.length = t.length * wide b := by omega
    rw [e, Nat.mul_mod_left]
  have c3 : (bars b t).take b.start.length = b.start := by
    unfold bars
    rw [List.append_assoc, List.take_left']
    rfl
  have c4 : (bars b t).drop ((bars b t).length - b.stop.length) = b.stop := by
    have e : (bars b t).length - b.stop.length = (b.start ++ flat b t).length := by
      rw [hl, List.length_append, flat_len g hs]
      omega
    rw [e]
    unfold bars
    rw [List.drop_left']
    rfl
  rw [c3, c4, decide_eq_true c1, decide_eq_true c2, beq_self_eq_true, beq_self_eq_true]
  rfl
theorem textOf_bars (g : Good b) {t : T} (hs : Sgs b t) (h : t ≠ []) : textOf b (bars b t) = some t := by
  unfold textOf
  rw [if_pos (fits_bars g hs h), many_bars g hs]
  rw [upTo_all (t := t) (Nat.le_refl _) fun i hi => ?_, List.take_length]
  unfold signAt
  have hg : t[i]? = some t[i] := List.getElem?_eq_getElem hi
  rw [chunk_bars g hs hg, g.rlook_look (hs _ (List.getElem_mem hi)), hg]

/-- what is read is the bars of what was read -/
theorem chunks_flat (g : Good b) {row : T} : ∀ {n : Nat} {t : T}, upTo (signAt b row) n = some t → Sgs b t ∧ flat b t = (row.drop b.start.length).take (n * wide b)
  | 0, t, h => by
    have e : [] = t := Option.some.inj h
    subst e
    refine ⟨fun _ hx => absurd hx (by simp), ?_⟩
    simp [flat]
  | n + 1, t, h => by
    have h : (upTo (signAt b row) n).bind _ = some t := h
    cases e : upTo (signAt b row) n with
    | none => rw [e] at h; cases h
    | some u =>
      rw [e] at h
      have h : (signAt b row n).map _ = some t := h
      cases e2 : signAt b row n with
      | none => rw [e2] at h; cases h
      | some s =>
        rw [e2] at h
        have h : some (u ++ [s]) = some t := h
        obtain ⟨i1, i2⟩ := chunks_flat g e
        have hm := rlook_some (show rlook b.ws (chunk b row n) = some s from e2)
        have hl := look_mem g.nd1 hm
        rw [← Option.some.inj h]
        refine ⟨fun x hx => ?_, ?_⟩
        · rcases List.mem_append.mp hx with q | q
          · exact i1 x q
          · rw [List.mem_singleton.mp q]
            exact List.mem_map.mpr ⟨_, hm, rfl⟩
        · rw [flat_app, i2, flat_one, hl]
          show _ ++ chunk b row n = _
          unfold chunk
          rw [Nat.add_mul, Nat.one_mul, List.take_add, List.drop_drop]
theorem textOf_some (g : Good b) {row t : T} (h : textOf b row = some t) : Sgs b t ∧ t ≠ [] ∧ row = bars b t := by
  unfold textOf at h
  by_cases hf : fits b row = true
  · rw [if_pos hf] at h
    unfold fits at hf
    rw [Bool.and_eq_true, Bool.and_eq_true, Bool.and_eq_true, decide_eq_true_iff, decide_eq_true_iff, beq_iff_eq, beq_iff_eq] at hf
    obtain ⟨f1, f2, f3, f4⟩ := hf
    obtain ⟨c1, c2⟩ := chunks_flat g h
    have w2 := g.w2
    have hmul : many b row * wide b = row.length - b.start.length - b.stop.length := by
      unfold many
      exact Nat.div_mul_cancel (Nat.dvd_of_mod_eq_zero f2)
    have hlen := upTo_len h
    refine ⟨c1, fun e => ?_, ?_⟩
    · rw [e] at hlen
      have hlen : 0 = many b row := hlen
      rw [← hlen, Nat.zero_mul] at hmul
      omega
    · unfold bars
      rw [c2, hmul]
      have e1 : row = row.take b.start.length ++ row.drop b.start.length := (List.take_append_drop _ _).symm
      have e2 : row.drop b.start.length = (row.drop b.start.length).take (row.length - b.start.length - b.stop.length) ++ (row.drop b.start.length).drop (row.length - b.start.length - b.stop.length) := (List.take_append_drop _ _).symm
      have e3 : (row.drop b.start.length).drop (row.length - b.start.length - b.stop.length) = b.stop := by
        rw [List.drop_drop, show b.start.length + (row.length - b.start.length - b.stop.length) = row.length - b.stop.length by omega]
        exact f4
      rw [e3] at e2
      rw [f3] at e1
      rw [List.append_assoc, ← e2]
      exact e1
  · rw [if_neg hf] at h
    cases h
theorem textOf_iff (g : Good b) {row t : T} : textOf b row = some t ↔ Sgs b t ∧ t ≠ [] ∧ row = bars b t :=
  ⟨textOf_some g, fun ⟨h1, h2, h3⟩ => by rw [h3]; exact textOf_bars g h1 h2⟩
/-- bars turn, told by a text of as many signs -/
theorem turn_iff (g : Good b) {t : T} (hs : Sgs b t) {f : T} : textOf b (bars b t).reverse = some f → Sgs b f ∧ f ≠ [] ∧ (bars b t).reverse = bars b f ∧ f.length = t.length := fun h => by
  obtain ⟨h1, h2, h3⟩ := textOf_some g h
  refine ⟨h1, h2, h3, ?_⟩
  have e := congrArg List.length h3
  rw [List.length_reverse, bars_len g hs, bars_len g h1] at e
  have w2 := g.w2
  have e2 : f.length * wide b = t.length * wide b := by omega
  exact Nat.eq_of_mul_eq_mul_right (by omega) e2
end

/-! ### pendings -/
def pend (x y : T) : Option Pn := if y.isPrefixOf x = true then some (0, x.drop y.length) else if x.isPrefixOf y = true then some (1, y.drop x.length) else none
def grown (p : Pn) (x y : T) : Option Pn := if p.1 = 0 then pend (p.2 ++ x) y else pend x (p.2 ++ y)
theorem pre_iff {x y : T} : x.isPrefixOf y = true ↔ ∃ r, y = x ++ r := by
  rw [List.isPrefixOf_iff_prefix]
  exact ⟨fun ⟨r, e⟩ => ⟨r, e.symm⟩, fun ⟨r, e⟩ => ⟨r, e.symm⟩⟩
theorem pre_app (c : T) {x y : T} : (c ++ x).isPrefixOf (c ++ y) = x.isPrefixOf y := by
  rw [Bool.eq_iff_iff, List.isPrefixOf_iff_prefix, List.isPrefixOf_iff_prefix, List.prefix_append_right_inj]
theorem pend_app (c x y : T) : pend (c ++ x) (c ++ y) = pend x y := by
  unfold pend
  rw [pre_app, pre_app]
  have e1 : (c ++ x).drop (c ++ y).length = x.drop y.length := by rw [List.length_append, List.drop_append, List.drop_eq_nil_of_le (by omega), Nat.add_sub_cancel_left, List.nil_append]
  have e2 : (c ++ y).drop (c ++ x).length = y.drop x.length := by rw [List.length_append, List.drop_append, List.drop_eq_nil_of_le (by omega), Nat.add_sub_cancel_left, List.nil_append]
  rw [e1, e2]
theorem pend_cases {x y : T} {p : Pn} (h : pend x y = some p) : (∃ r, x = y ++ r ∧ p = (0, r)) ∨ (∃ r, y = x ++ r ∧ p = (1, r) ∧ r ≠ []) := by
  unfold pend at h
  by_cases h1 : y.isPrefixOf x = true
  · rw [if_pos h1] at h
    obtain ⟨r, e⟩ := pre_iff.mp h1
    refine .inl ⟨r, e, ?_⟩
    rw [← Option.some.inj h, e, List.drop_left']
    rfl
  · rw [if_neg h1] at h
    by_cases h2 : x.isPrefixOf y = true
    · rw [if_pos h2] at h
      obtain ⟨r, e⟩ := pre_iff.mp h2
      refine .inr ⟨r, e, ?_, fun z => h1 ?_⟩
      · rw [← Option.some.inj h, e, List.drop_left']
        rfl
      · rw [e, z, List.append_nil]
        exact pre_iff.mpr ⟨[], (List.append_nil _).symm⟩
    · rw [if_neg h2] at h
      cases h
theorem grown_pend {a c : T} {p : Pn} (h : pend a c = some p) (x y : T) : grown p x y = pend (a ++ x) (c ++ y) := by
  rcases pend_cases h with ⟨r, e, rfl⟩ | ⟨r, e, rfl, _⟩
  · show (if (0 : Nat) = 0 then pend (r ++ x) y else _) = _
    rw [if_pos rfl, e, List.append_assoc, pend_app]
  · show (if (1 : Nat) = 0 then _ else pend x (r ++ y)) = _
    rw [if_neg (by decide), e, List.append_assoc, pend_app]
theorem pend_zero {x y : T} : pend x y = some (0, []) ↔ x = y := by
  constructor
  · intro h
    rcases pend_cases h with ⟨r, e, q⟩ | ⟨r, e, q, _⟩
    · have z : [] = r := (Prod.mk.inj q).2
      rw [e, ← z, List.append_nil]
    · exact absurd (Prod.mk.inj q).1 (by decide)
  · rintro rfl
    unfold pend
    rw [if_pos (pre_iff.mpr ⟨[], (List.append_nil _).symm⟩), List.drop_length]
/-- two beginnings of one row -/
theorem pend_common {a c x y : T} (h : a ++ x = c ++ y) : ∃ p, pend a c = some p := by
  unfold pend
  by_cases h1 : c.isPrefixOf a = true
  · exact ⟨_, if_pos h1⟩
  · rw [if_neg h1]
    by_cases h2 : a.isPrefixOf c = true
    · exact ⟨_, if_pos h2⟩
    · exfalso
      have pa : a <+: a ++ x := List.prefix_append _ _
      have pc : c <+: a ++ x := by rw [h]; exact List.prefix_append _ _
      rcases Nat.le_total a.length c.length with l | l
      · exact h2 (List.isPrefixOf_iff_prefix.mpr (List.prefix_of_prefix_length_le pa pc l))
      · exact h1 (List.isPrefixOf_iff_prefix.mpr (List.prefix_of_prefix_length_le pc pa l))
theorem pend_before {a c x y : T} {p : Pn} (h : pend (a ++ x) (c ++ y) = some p) : ∃ q, pend a c = some q := by
  rcases pend_cases h with ⟨r, e, _⟩ | ⟨r, e, _, _⟩
  · exact pend_common (x := x) (y := y ++ r) (by rw [← List.append_assoc]; exact e)
  · exact pend_common (x := x ++ r) (y := y) (by rw [← List.append_assoc]; exact e.symm)

/-! ### the search -/
abbrev Edge := Pn × Nat × Nat
def nexts (b : Bk) (p : Pn) : List Edge := b.ws.flatMap fun u => b.ws.filterMap fun v => (grown p u.2.reverse v.2).map fun e => (e, u.1, v.1)
def isEnd (b : Bk) (p : Pn) : Bool := grown p b.start.reverse b.stop == some (0, [])
abbrev Kn := List (Pn × T)
def keys (k : Kn) : List Pn := k.map (·.1)
def edge (b : Bk) (t : T) (st : Kn × Kn) (e : Edge) : Except T (Kn × Kn) :=
  if isEnd b e.1 = true then .error (e.2.1 :: t)
  else if e.1 ∈ keys st.1 then .ok st
  else .ok (st.1 ++ [(e.1, e.2.1 :: t)], st.2 ++ [(e.1, e.2.1 :: t)])
def run {S E X : Type} (f : S → E → Except X S) : List E → S → Except X S
  | [], s => .ok s
  | e :: es, s => match f s e with
    | .ok s' => run f es s'
    | .error x => .error x
def item (b : Bk) (st : Kn × Kn) (q : Pn × T) : Except T (Kn × Kn) := run (edge b q.2) (nexts b q.1) st
def layerStep (b : Bk) (k l : Kn) : Except T (Kn × Kn) := run (item b) l (k, [])
def searchF (b : Bk) : Nat → Kn → Kn → Option (Except T Kn)
  | _, k, [] => some (.ok k)
  | 0, _, _ :: _ => none
  | m + 1, k, a :: l => match layerStep b k (a :: l) with
    | .error t => some (.error t)
    | .ok st => searchF b m st.1 st.2
def first (b : Bk) : Option Pn := pend b.stop.reverse b.start
def fuel : Nat := 40
def search (b : Bk) : Option (Except T Kn) := match first b with
  | none => some (.ok [])
  | some p => searchF b fuel [(p, [])] [(p, [])]

section
variable {S E X : Type} {f : S → E → Except X S}
theorem run_cons (e : E) (es : List E) (s : S) : run f (e :: es) s = match f s e with
    | .ok s' => run f es s'
    | .error x => .error x := rfl
theorem run_app : ∀ (xs ys : List E) (s : S), run f (xs ++ ys) s = match run f xs s with
    | .ok s' => run f ys s'
    | .error x => .error x
  | [], ys, s => rfl
  | e :: xs, ys, s => by
    rw [List.cons_append, run_cons, run_cons]
    cases f s e with
    | ok s' => exact run_app xs ys s'
    | error x => rfl
theorem run_snoc {xs : List E} {e : E} {s s' : S} (h : run f xs s = .ok s') : run f (xs ++ [e]) s = f s' e := by
  rw [run_app, h]
  show run f [e] s' = _
  rw [run_cons]
  cases f s' e with
  | ok _ => rfl
  | error _ => rfl
theorem run_err {xs ys : List E} {s : S} {x : X} (h : run f xs s = .error x) : run f (xs ++ ys) s = .error x := by
  rw [run_app, h]
/-- an invariant of a run -/
theorem run_inv {Q : S → Prop} {R : X → Prop} : ∀ {es : List E} {s : S}, (∀ e ∈ es, ∀ s s', Q s → f s e = .ok s' → Q s') → (∀ e ∈ es, ∀ s x, Q s → f s e = .error x → R x) → Q s →
    (∀ s', run f es s = .ok s' → Q s') ∧ ∀ x, run f es s = .error x → R x
  | [], s, _, _, q => ⟨fun s' h => by cases h; exact q, fun x h => by cases h⟩
  | e :: es, s, h1, h2, q => by
    rw [run_cons]
    cases he : f s e with
    | ok s' => exact run_inv (fun e' m => h1 e' (List.mem_cons_of_mem _ m)) (fun e' m => h2 e' (List.mem_cons_of_mem _ m)) (h1 e (List.mem_cons_self ..) s s' q he)
    | error x =>
      refine ⟨fun s' h => ?_, fun y h => ?_⟩
      · cases h
      · cases h
        exact h2 e (List.mem_cons_self ..) s x q he
end

section
variable {b : Bk}
theorem mem_nexts {p : Pn} {e : Edge} : e ∈ nexts b p ↔ ∃ u ∈ b.ws, ∃ v ∈ b.ws, grown p u.2.reverse v.2 = some e.1 ∧ e.2.1 = u.1 ∧ e.2.2 = v.1 := by
  unfold nexts
  rw [List.mem_flatMap]
  constructor
  · rintro ⟨u, hu, h⟩
    obtain ⟨v, hv, h⟩ := List.mem_filterMap.mp h
    cases q : grown p u.2.reverse v.2 with
    | none => rw [q] at h; cases h
    | some z =>
      rw [q] at h
      have h : some (z, u.1, v.1) = some e := h
      have h := Option.some.inj h
      subst h
      exact ⟨u, hu, v, hv, q, rfl, rfl⟩
  · rintro ⟨u, hu, v, hv, q, e1, e2⟩
    refine ⟨u, hu, List.mem_filterMap.mpr ⟨v, hv, ?_⟩⟩
    rw [q]
    show some (e.1, u.1, v.1) = some e
    rw [← e1, ← e2]

/-- the rows behind the words told, the latest sign ahead -/
def ra (b : Bk) : T → T
  | [] => b.stop.reverse
  | s :: t => ra b t ++ (look b.ws s).reverse
def rc (b : Bk) : T → T
  | [] => b.start
  | s :: t => rc b t ++ look b.ws s
theorem ra_eq (b : Bk) : ∀ t : T, ra b t = (flat b t ++ b.stop).reverse
  | [] => by simp [ra, flat]
  | s :: t => by
    show ra b t ++ _ = _
    rw [ra_eq b t, flat_cons, List.append_assoc, List.reverse_append (as := look b.ws s)]
theorem rc_eq (b : Bk) : ∀ t : T, rc b t = b.start ++ flat b t.reverse
  | [] => by simp [rc, flat]
  | s :: t => by
    show rc b t ++ _ = _
    rw [rc_eq b t, List.reverse_cons, flat_app, flat_one, List.append_assoc]
theorem ra_len (g : Good b) : ∀ {t : T}, Sgs b t → (ra b t).length = b.stop.length + t.length * wide b := fun {t} h => by
  rw [ra_eq, List.length_reverse, List.length_append, flat_len g h]
  omega
theorem rc_len (g : Good b) : ∀ {t : T}, Sgs b t → (rc b t).length = b.start.length + t.length * wide b := fun {t} h => by
  rw [rc_eq, List.length_append, flat_len g (t := t.reverse) fun s hs => h s (List.mem_reverse.mp hs), List.length_reverse]
structure Path (b : Bk) (t f : T) (p : Pn) : Prop where
  pd : pend (ra b t) (rc b f) = some p
  ln : t.length = f.length
  st : Sgs b t
  sf : Sgs b f
theorem Path.first {p : Pn} (h : K79.first b = some p) : Path b [] [] p := ⟨h, rfl, fun _ h => absurd h (by simp), fun _ h => absurd h (by simp)⟩
theorem Path.nil {p : Pn} (h : Path b [] [] p) : K79.first b = some p := h.pd
theorem Path.step (g : Good b) {t f : T} {p : Pn} (h : Path b t f p) {e : Edge} (he : e ∈ nexts b p) : Path b (e.2.1 :: t) (e.2.2 :: f) e.1 := by
  obtain ⟨u, hu, v, hv, q, e1, e2⟩ := mem_nexts.mp he
  refine ⟨?_, by rw [List.length_cons, List.length_cons, h.ln], fun s hs => ?_, fun s hs => ?_⟩
  · show pend (ra b t ++ (look b.ws e.2.1).reverse) (rc b f ++ look b.ws e.2.2) = some e.1
    rw [e1, e2, look_mem g.nd1 hu, look_mem g.nd1 hv, ← grown_pend h.pd]
    exact q
  · rcases List.mem_cons.mp hs with z | z
    · rw [z, e1]; exact List.mem_map.mpr ⟨u, hu, rfl⟩
    · exact h.st s z
  · rcases List.mem_cons.mp hs with z | z
    · rw [z, e2]; exact List.mem_map.mpr ⟨v, hv, rfl⟩
    · exact h.sf s z
theorem Path.back (g : Good b) {t f : T} {s u : Nat} {p : Pn} (h : Path b (s :: t) (u :: f) p) : ∃ q, Path b t f q ∧ (p, s, u) ∈ nexts b q := by
  obtain ⟨q, hq⟩ := pend_before (show pend (ra b t ++ (look b.ws s).reverse) (rc b f ++ look b.ws u) = some p from h.pd)
  have hs := h.st s (List.mem_cons_self ..)
  have hu := h.sf u (List.mem_cons_self ..)
  refine ⟨q, ⟨hq, by have := h.ln; simp only [List.length_cons] at this; omega, fun x hx => h.st x (List.mem_cons_of_mem _ hx), fun x hx => h.sf x (List.mem_cons_of_mem _ hx)⟩, ?_⟩
  refine mem_nexts.mpr ⟨_, g.look hs, _, g.look hu, ?_, rfl, rfl⟩
  rw [grown_pend hq]
  exact h.pd
theorem Path.isEnd {t f : T} {p : Pn} (h : Path b t f p) : K79.isEnd b p = true ↔ (bars b t).reverse = bars b f.reverse := by
  unfold K79.isEnd
  rw [beq_iff_eq, grown_pend h.pd, pend_zero, ra_eq, rc_eq]
  unfold bars
  rw [List.append_assoc b.start (flat b t) b.stop, List.append_assoc b.start (flat b f.reverse) b.stop, List.reverse_append (as := b.start)]

/-- what a pending is like -/
structure GoodP (b : Bk) (p : Pn) : Prop where
  side : p.1 = 0 ∨ p.1 = 1
  ne : p.1 = 1 → p.2 ≠ []
  mods : Mods p.2
  len : p.2.length ≤ 3
theorem mods_app {x y : T} (h : Mods x) (h' : Mods y) : Mods (x ++ y) := fun c hc => (List.mem_append.mp hc).elim (h c) (h' c)
theorem mods_rev {x : T} (h : Mods x) : Mods x.reverse := fun c hc => h c (List.mem_reverse.mp hc)
theorem look_mods (g : Good b) {s : Nat} (h : s ∈ b.ws.map (·.1)) : Mods (look b.ws s) := g.wm _ (g.look h)
theorem ra_mods (g : Good b) : ∀ {t : T}, Sgs b t → Mods (ra b t)
  | [], _ => mods_rev g.em
  | s :: t, h => mods_app (ra_mods g fun x hx => h x (List.mem_cons_of_mem _ hx)) (mods_rev (look_mods g (h s (List.mem_cons_self ..))))
theorem rc_mods (g : Good b) : ∀ {t : T}, Sgs b t → Mods (rc b t)
  | [], _ => g.sm
  | s :: t, h => mods_app (rc_mods g fun x hx => h x (List.mem_cons_of_mem _ hx)) (look_mods g (h s (List.mem_cons_self ..)))
theorem Path.good (g : Good b) {t f : T} {p : Pn} (h : Path b t f p) : GoodP b p := by
  have l1 := ra_len g h.st
  have l2 := rc_len g h.sf
  have m1 := ra_mods g h.st
  have m2 := rc_mods g h.sf
  have hl := h.ln
  have := g.s1
  have := g.s4
  have := g.e1
  have := g.e4
  rw [hl] at l1
  rcases pend_cases h.pd with ⟨r, e, rfl⟩ | ⟨r, e, rfl, hr⟩
  · refine ⟨.inl rfl, fun z => absurd z (show ¬ (0 : Nat) = 1 by decide), fun c hc => m1 c (by rw [e]; exact List.mem_append_right _ hc), ?_⟩
    have := congrArg List.length e
    rw [List.length_append] at this
    show r.length ≤ 3
    omega
  · refine ⟨.inr rfl, fun _ => hr, fun c hc => m2 c (by rw [e]; exact List.mem_append_right _ hc), ?_⟩
    have := congrArg List.length e
    rw [List.length_append] at this
    show r.length ≤ 3
    omega
/-- all of them -/
def univ : List Pn := [0, 1].flatMap fun s => ([[], [48], [49], [48, 48], [48, 49], [49, 48], [49, 49], [48, 48, 48], [48, 48, 49], [48, 49, 48], [48, 49, 49], [49, 48, 48], [49, 48, 49], [49, 49, 48], [49, 49, 49]] : List T).map fun r => (s, r)
theorem GoodP.univ {p : Pn} (h : GoodP b p) : p ∈ K79.univ := by
  obtain ⟨s, r⟩ := p
  have hs : s = 0 ∨ s = 1 := h.side
  have hm : Mods r := h.mods
  have hl : r.length ≤ 3 := h.len
  unfold K79.univ
  refine List.mem_flatMap.mpr ⟨s, by rcases hs with rfl | rfl <;> simp, List.mem_map.mpr ⟨r, ?_, rfl⟩⟩
  match r, hm, hl with
  | [], _, _ => simp
  | [x], hm, _ =>
    have hx := hm x (by simp)
    rcases hx with rfl | rfl <;> simp
  | [x, y], hm, _ =>
    have hx := hm x (by simp)
    have hy := hm y (by simp)
    rcases hx with rfl | rfl <;> rcases hy with rfl | rfl <;> simp
  | [x, y, z], hm, _ =>
    have hx := hm x (by simp)
    have hy := hm y (by simp)
    have hz := hm z (by simp)
    rcases hx with rfl | rfl <;> rcases hy with rfl | rfl <;> rcases hz with rfl | rfl <;> simp
  | _ :: _ :: _ :: _ :: _, _, hl => simp at hl
theorem univ_len : K79.univ.length = 30 := by decide
theorem nodup_len {α : Type} [DecidableEq α] : ∀ (l D : List α), l.Nodup → (∀ x ∈ l, x ∈ D) → l.length ≤ D.length
  | [], _, _, _ => Nat.zero_le _
  | a :: r, D, hn, h => by
    obtain ⟨h1, h2⟩ := List.nodup_cons.mp hn
    have ha := h a (List.mem_cons_self ..)
    have ih := nodup_len r (D.erase a) h2 fun x hx => (List.mem_erase_of_ne fun e => h1 (by rw [← e]; exact hx)).mpr (h x (List.mem_cons_of_mem _ hx))
    have hl := List.length_erase_of_mem ha
    have hp : 0 < D.length := List.length_pos_of_mem ha
    rw [List.length_cons]
    omega

/-! ### what the search keeps -/
/-- within the layer of depth d: k0 is what was known ahead of it -/
structure LInv (b : Bk) (d : Nat) (k0 : Kn) (st : Kn × Kn) : Prop where
  nd : (keys st.1).Nodup
  path : ∀ q ∈ st.1, ∃ f, Path b q.2 f q.1
  shrt : ∀ q ∈ st.1, q.2.length ≤ d + 1
  fur : ∀ q ∈ st.2, q ∈ st.1 ∧ q.2.length = d + 1 ∧ q.1 ∉ keys k0
  old : ∀ p ∈ keys k0, p ∈ keys st.1
  new : ∀ p ∈ keys st.1, p ∈ keys k0 ∨ p ∈ keys st.2
  cnt : st.1.length = k0.length + st.2.length
theorem keys_snoc (k : Kn) (q : Pn × T) : keys (k ++ [q]) = keys k ++ [q.1] := by
  unfold keys
  rw [List.map_append]
  rfl
theorem edge_inv (g : Good b) {d : Nat} {k0 : Kn} {q : Pn × T} (hq : ∃ f, Path b q.2 f q.1) (hl : q.2.length = d) {e : Edge} (he : e ∈ nexts b q.1) {st st' : Kn × Kn} (I : LInv b d k0 st) (h : edge b q.2 st e = .ok st') :
    LInv b d k0 st' ∧ K79.isEnd b e.1 = false ∧ e.1 ∈ keys st'.1 ∧ ∀ p ∈ keys st.1, p ∈ keys st'.1 := by
  unfold edge at h
  by_cases h1 : K79.isEnd b e.1 = true
  · rw [if_pos h1] at h; cases h
  · have h1' : K79.isEnd b e.1 = false := by simpa using h1
    rw [if_neg h1] at h
    by_cases h2 : e.1 ∈ keys st.1
    · rw [if_pos h2] at h
      cases h
      exact ⟨I, h1', h2, fun _ hp => hp⟩
    · rw [if_neg h2] at h
      cases h
      obtain ⟨f, hf⟩ := hq
      have hp := hf.step g he
      refine ⟨⟨?_, fun x hx => ?_, fun x hx => ?_, fun x hx => ?_, fun p hp => ?_, fun p hp => ?_, ?_⟩, h1', ?_, fun p hp => ?_⟩
      · show (keys (st.1 ++ _)).Nodup
        rw [keys_snoc, List.nodup_append]
        exact ⟨I.nd, by simp, fun a ha c hc z => h2 (by rw [List.mem_singleton.mp hc] at z; rw [← z]; exact ha)⟩
      · rcases List.mem_append.mp hx with z | z
        · exact I.path x z
        · rw [List.mem_singleton.mp z]; exact ⟨_, hp⟩
      · rcases List.mem_append.mp hx with z | z
        · exact I.shrt x z
        · rw [List.mem_singleton.mp z]
          show (e.2.1 :: q.2).length ≤ d + 1
          rw [List.length_cons, hl]
          exact Nat.le_refl _
      · rcases List.mem_append.mp hx with z | z
        · obtain ⟨a1, a2, a3⟩ := I.fur x z
          exact ⟨List.mem_append_left _ a1, a2, a3⟩
        · rw [List.mem_singleton.mp z]
          refine ⟨List.mem_append_right _ (by simp), by show (e.2.1 :: q.2).length = d + 1; rw [List.length_cons, hl], fun y => h2 (I.old _ y)⟩
      · show p ∈ keys (st.1 ++ _)
        rw [keys_snoc]
        exact List.mem_append_left _ (I.old p hp)
      · have hp : p ∈ keys (st.1 ++ _) := hp
        rw [keys_snoc] at hp
        show p ∈ keys k0 ∨ p ∈ keys (st.2 ++ _)
        rw [keys_snoc]
        rcases List.mem_append.mp hp with z | z
        · rcases I.new p z with y | y
          · exact .inl y
          · exact .inr (List.mem_append_left _ y)
        · exact .inr (List.mem_append_right _ z)
      · show (st.1 ++ _).length = k0.length + (st.2 ++ _).length
        rw [List.length_append, List.length_append, I.cnt]
        simp only [List.length_singleton]
        omega
      · show e.1 ∈ keys (st.1 ++ _)
        rw [keys_snoc]
        exact List.mem_append_right _ (by simp)
      · show p ∈ keys (st.1 ++ _)
        rw [keys_snoc]
        exact List.mem_append_left _ hp
/-- what is said of an error -/
def Turns (b : Bk) (d : Nat) (t : T) : Prop := t.length = d + 1 ∧ Sgs b t ∧ ∃ f, Sgs b f ∧ f ≠ [] ∧ (bars b t).reverse = bars b f
theorem edge_err (g : Good b) {d : Nat} {q : Pn × T} (hq : ∃ f, Path b q.2 f q.1) (hl : q.2.length = d) {e : Edge} (he : e ∈ nexts b q.1) {st : Kn × Kn} {t : T} (h : edge b q.2 st e = .error t) : Turns b d t ∧ K79.isEnd b e.1 = true := by
  unfold edge at h
  by_cases h1 : K79.isEnd b e.1 = true
  · rw [if_pos h1] at h
    cases h
    obtain ⟨f, hf⟩ := hq
    have hp := hf.step g he
    refine ⟨⟨by rw [List.length_cons, hl], hp.st, (e.2.2 :: f).reverse, fun s hs => hp.sf s (List.mem_reverse.mp hs), by simp, hp.isEnd.mp h1⟩, h1⟩
  · rw [if_neg h1] at h
    by_cases h2 : e.1 ∈ keys st.1
    · rw [if_pos h2] at h; cases h
    · rw [if_neg h2] at h; cases h
/-- one item: all that comes behind it is known, and no end -/
def Exp (b : Bk) (k : Kn) (p : Pn) : Prop := ∀ e ∈ nexts b p, K79.isEnd b e.1 = false ∧ e.1 ∈ keys k
theorem run_edges (g : Good b) {d : Nat} {k0 : Kn} {q : Pn × T} (hq : ∃ f, Path b q.2 f q.1) (hl : q.2.length = d) : ∀ {es : List Edge}, (∀ e ∈ es, e ∈ nexts b q.1) → ∀ {st : Kn × Kn}, LInv b d k0 st →
    (∀ st', run (edge b q.2) es st = .ok st' → LInv b d k0 st' ∧ (∀ e ∈ es, K79.isEnd b e.1 = false ∧ e.1 ∈ keys st'.1) ∧ ∀ p ∈ keys st.1, p ∈ keys st'.1) ∧ (∀ t, run (edge b q.2) es st = .error t → Turns b d t ∧ ∃ e ∈ es, K79.isEnd b e.1 = true)
  | [], _, st, I => ⟨fun st' h => by cases h; exact ⟨I, fun e he => absurd he (by simp), fun _ hp => hp⟩, fun t h => by cases h⟩
  | e :: es, hs, st, I => by
    unfold run
    cases h : edge b q.2 st e with
    | ok s1 =>
      obtain ⟨I1, a1, a2, a3⟩ := edge_inv g hq hl (hs e (List.mem_cons_self ..)) I h
      obtain ⟨r1, r2⟩ := run_edges g hq hl (fun e' m => hs e' (List.mem_cons_of_mem _ m)) I1
      refine ⟨fun st' h' => ?_, fun t h' => ?_⟩
      · obtain ⟨c1, c2, c3⟩ := r1 st' h'
        refine ⟨c1, fun e' m => ?_, fun p hp => c3 p (a3 p hp)⟩
        rcases List.mem_cons.mp m with z | z
        · rw [z]; exact ⟨a1, c3 _ a2⟩
        · exact c2 e' z
      · obtain ⟨c1, e', m, c2⟩ := r2 t h'
        exact ⟨c1, e', List.mem_cons_of_mem _ m, c2⟩
    | error t =>
      obtain ⟨c1, c2⟩ := edge_err g hq hl (hs e (List.mem_cons_self ..)) h
      exact ⟨fun st' h' => (by cases h'), fun t' h' => (by cases h'; exact ⟨c1, e, List.mem_cons_self .., c2⟩)⟩
theorem run_items (g : Good b) {d : Nat} {k0 : Kn} : ∀ {l : Kn}, (∀ q ∈ l, (∃ f, Path b q.2 f q.1) ∧ q.2.length = d) → ∀ {st : Kn × Kn}, LInv b d k0 st →
    (∀ st', run (item b) l st = .ok st' → LInv b d k0 st' ∧ (∀ q ∈ l, Exp b st'.1 q.1) ∧ ∀ p ∈ keys st.1, p ∈ keys st'.1) ∧ (∀ t, run (item b) l st = .error t → Turns b d t ∧ ∃ q ∈ l, ¬ ∀ e ∈ nexts b q.1, K79.isEnd b e.1 = false)
  | [], _, st, I => ⟨fun st' h => by cases h; exact ⟨I, fun e he => absurd he (by simp), fun _ hp => hp⟩, fun t h => by cases h⟩
  | q :: l, hs, st, I => by
    obtain ⟨hq, hl⟩ := hs q (List.mem_cons_self ..)
    obtain ⟨s1, s2⟩ := run_edges g hq hl (fun _ m => m) I
    unfold run
    cases h : item b st q with
    | ok st1 =>
      obtain ⟨I1, a1, a3⟩ := s1 st1 h
      obtain ⟨r1, r2⟩ := run_items g (fun q' m => hs q' (List.mem_cons_of_mem _ m)) I1
      refine ⟨fun st' h' => ?_, fun t h' => ?_⟩
      · obtain ⟨c1, c2, c3⟩ := r1 st' h'
        refine ⟨c1, fun q' m => ?_, fun p hp => c3 p (a3 p hp)⟩
        rcases List.mem_cons.mp m with z | z
        · rw [z]; exact fun e he => ⟨(a1 e he).1, c3 _ (a1 e he).2⟩
        · exact c2 q' z
      · obtain ⟨c1, q', m, c2⟩ := r2 t h'
        exact ⟨c1, q', List.mem_cons_of_mem _ m, c2⟩
    | error t =>
      obtain ⟨c1, e, m, c2⟩ := s2 t h
      exact ⟨fun st' h' => (by cases h'), fun t' h' => (by cases h'; exact ⟨c1, q, List.mem_cons_self .., fun z => by rw [z e m] at c2; cases c2⟩)⟩

/-- ahead of the layer of depth d -/
structure SInv (b : Bk) (d : Nat) (k l : Kn) : Prop where
  nd : (keys k).Nodup
  path : ∀ q ∈ k, ∃ f, Path b q.2 f q.1
  shrt : ∀ q ∈ k, q.2.length ≤ d
  lay : ∀ q ∈ l, q ∈ k ∧ q.2.length = d
  exp : ∀ p ∈ keys k, p ∈ keys l ∨ Exp b k p
  reach : ∀ t f p, Path b t f p → t.length ≤ d → p ∈ keys k
  deep : ∀ q ∈ l, ∀ t f, Path b t f q.1 → d ≤ t.length
theorem SInv.start (g : Good b) {p : Pn} (h : first b = some p) : SInv b 0 [(p, [])] [(p, [])] where
  nd := by simp [keys]
  path := fun q hq => by rw [List.mem_singleton.mp hq]; exact ⟨[], Path.first h⟩
  shrt := fun q hq => by rw [List.mem_singleton.mp hq]; exact Nat.le_refl _
  lay := fun q hq => ⟨hq, by rw [List.mem_singleton.mp hq]; rfl⟩
  exp := fun p hp => .inl hp
  reach := fun t f p' hp hl => by
    have e1 : t = [] := List.eq_nil_of_length_eq_zero (by omega)
    have e2 : f = [] := List.eq_nil_of_length_eq_zero (by have := hp.ln; omega)
    rw [e1, e2] at hp
    have := hp.nil
    rw [h] at this
    rw [← Option.some.inj this]
    simp [keys]
  deep := fun q hq t f hp => Nat.zero_le _
theorem SInv.linv {d : Nat} {k l : Kn} (I : SInv b d k l) : LInv b d k (k, []) where
  nd := I.nd
  path := I.path
  shrt := fun q hq => Nat.le_succ_of_le (I.shrt q hq)
  fur := fun q hq => absurd hq (by simp)
  old := fun p hp => hp
  new := fun p hp => .inl hp
  cnt := by simp
theorem SInv.items {d : Nat} {k l : Kn} (I : SInv b d k l) : ∀ q ∈ l, (∃ f, Path b q.2 f q.1) ∧ q.2.length = d := fun q hq => ⟨I.path q (I.lay q hq).1, (I.lay q hq).2⟩
theorem mem_keys {k : Kn} {q : Pn × T} (h : q ∈ k) : q.1 ∈ keys k := List.mem_map.mpr ⟨q, h, rfl⟩
theorem SInv.next (g : Good b) {d : Nat} {k l : Kn} (I : SInv b d k l) {st : Kn × Kn} (h : layerStep b k l = .ok st) : SInv b (d + 1) st.1 st.2 ∧ st.1.length = k.length + st.2.length := by
  obtain ⟨L, ex, up⟩ := (run_items g I.items I.linv).1 st h
  refine ⟨⟨L.nd, L.path, L.shrt, fun q hq => ⟨(L.fur q hq).1, (L.fur q hq).2.1⟩, fun p hp => ?_, fun t f p hp hl => ?_, fun q hq t f hp => ?_⟩, L.cnt⟩
  · rcases L.new p hp with z | z
    · right
      rcases I.exp p z with y | y
      · obtain ⟨q, hq, e⟩ := List.mem_map.mp y
        rw [← e]
        exact ex q hq
      · exact fun e he => ⟨(y e he).1, L.old _ (y e he).2⟩
    · exact .inl z
  · by_cases hd : t.length ≤ d
    · exact L.old _ (I.reach t f p hp hd)
    · match t, f, hp, hl, hd with
      | [], _, _, _, hd => exact absurd (Nat.zero_le _) hd
      | s :: t, [], hp, _, _ => exact absurd hp.ln (by simp)
      | s :: t, u :: f, hp, hl, hd =>
        obtain ⟨q, hq, hn⟩ := hp.back g
        have hk := I.reach t f q hq (by simp at hl; omega)
        rcases I.exp q hk with y | y
        · obtain ⟨q', hq', e⟩ := List.mem_map.mp y
          rw [← e] at hn
          exact (ex q' hq' _ hn).2
        · exact L.old _ (y _ hn).2
  · by_cases hd : d + 1 ≤ t.length
    · exact hd
    · exact absurd (I.reach t f q.1 hp (by omega)) (L.fur q hq).2.2
theorem SInv.small {d : Nat} (g : Good b) {k l : Kn} (I : SInv b d k l) : k.length ≤ 30 := by
  have h := nodup_len (keys k) univ I.nd fun p hp => by
    obtain ⟨q, hq, e⟩ := List.mem_map.mp hp
    obtain ⟨f, hf⟩ := I.path q hq
    rw [← e]
    exact (hf.good g).univ
  rw [univ_len] at h
  simpa [keys] using h
/-- it ends -/
theorem searchF_ends (g : Good b) : ∀ (m d : Nat) (k l : Kn), SInv b d k l → l = [] ∨ 31 ≤ k.length + m → ∃ r, searchF b m k l = some r
  | m, d, k, [], _, _ => ⟨.ok k, by cases m <;> rfl⟩
  | 0, d, k, a :: l, I, h => by
    have := I.small g
    rcases h with h | h
    · cases h
    · omega
  | m + 1, d, k, a :: l, I, h => by
    have h : 31 ≤ k.length + (m + 1) := by
      rcases h with h | h
      · cases h
      · exact h
    unfold searchF
    cases e : layerStep b k (a :: l) with
    | error t => exact ⟨_, rfl⟩
    | ok st =>
      obtain ⟨J, c⟩ := I.next g e
      refine searchF_ends g m (d + 1) st.1 st.2 J ?_
      by_cases z : st.2 = []
      · exact .inl z
      · right
        have : 0 < st.2.length := List.length_pos_iff.mpr z
        omega
theorem search_ends (g : Good b) : ∃ r, search b = some r := by
  unfold search
  cases h : first b with
  | none => exact ⟨_, rfl⟩
  | some p => exact searchF_ends g fuel 0 _ _ (SInv.start g h) (.inr (show 31 ≤ 1 + 40 by decide))

/-- what an answer of the search says -/
structure Found (b : Bk) (m d : Nat) (t : T) : Prop where
  sg : Sgs b t
  ne : t ≠ []
  trn : ∃ f, textOf b (bars b t).reverse = some f
  least : ∀ u f, Sgs b u → u ≠ [] → textOf b (bars b u).reverse = some f → t.length ≤ u.length
  len : t.length ≤ d + m
structure Closed (b : Bk) (k : Kn) : Prop where
  nd : (keys k).Nodup
  good : ∀ p ∈ keys k, GoodP b p
  fst : ∀ p, first b = some p → p ∈ keys k
  exp : ∀ p ∈ keys k, Exp b k p
  small : k.length ≤ 30
theorem turns_path (g : Good b) {u f : T} (hu : Sgs b u) (h : textOf b (bars b u).reverse = some f) : ∃ p, Path b u f.reverse p ∧ K79.isEnd b p = true := by
  obtain ⟨h1, h2, h3, h4⟩ := turn_iff g hu h
  have e : ra b u ++ b.start.reverse = rc b f.reverse ++ b.stop := by
    rw [ra_eq, rc_eq, List.reverse_reverse]
    unfold bars at h3
    rw [List.append_assoc, List.reverse_append (as := b.start)] at h3
    exact h3
  obtain ⟨p, hp⟩ := pend_common e
  have P : Path b u f.reverse p := ⟨hp, by rw [List.length_reverse, h4], hu, fun s hs => h1 s (List.mem_reverse.mp hs)⟩
  refine ⟨p, P, P.isEnd.mpr ?_⟩
  rw [List.reverse_reverse]
  exact h3
theorem searchF_says (g : Good b) : ∀ (m d : Nat) (k l : Kn), SInv b d k l → (∀ t, searchF b m k l = some (.error t) → Found b m d t) ∧ ∀ k', searchF b m k l = some (.ok k') → (keys k').Nodup ∧ (∀ p ∈ keys k', GoodP b p) ∧ (∀ p ∈ keys k, p ∈ keys k') ∧ (∀ p ∈ keys k', Exp b k' p) ∧ k'.length ≤ 30
  | m, d, k, [], I => by
    have e : searchF b m k [] = some (.ok k) := by cases m <;> rfl
    rw [e]
    refine ⟨fun t h => (by cases h), fun k' h => ?_⟩
    cases h
    refine ⟨I.nd, fun p hp => ?_, fun p hp => hp, fun p hp => ?_, I.small g⟩
    · obtain ⟨q, hq, e⟩ := List.mem_map.mp hp
      obtain ⟨f, hf⟩ := I.path q hq
      rw [← e]
      exact hf.good g
    · rcases I.exp p hp with z | z
      · exact absurd z (by simp [keys])
      · exact z
  | 0, d, k, a :: l, I => ⟨fun t h => (by cases h), fun k' h => (by cases h)⟩
  | m + 1, d, k, a :: l, I => by
    unfold searchF
    cases e : layerStep b k (a :: l) with
    | error t =>
      refine ⟨fun t' h => ?_, fun k' h => (by cases h)⟩
      have e1 : t = t' := by
        have := Option.some.inj h
        cases this
        rfl
      subst e1
      obtain ⟨⟨c1, c2, f, c3, c4, c5⟩, q, hq, c6⟩ := (run_items g I.items I.linv).2 t e
      refine ⟨c2, fun z => (by rw [z] at c1; cases c1), ⟨f, ?_⟩, fun u f' hu hne hf => ?_, by omega⟩
      · rw [c5]
        exact textOf_bars g c3 c4
      · by_cases hd : d + 1 ≤ u.length
        · omega
        · exfalso
          obtain ⟨p, P, E⟩ := turns_path g hu hf
          generalize hfr : f'.reverse = f1 at P
          match u, f1, P, hne, hd with
          | s :: u, [], P, _, _ => exact absurd P.ln (by simp)
          | s :: u, v :: f1, P, _, hd =>
            obtain ⟨q1, P1, hn⟩ := P.back g
            have hk := I.reach u f1 q1 P1 (by simp at hd; omega)
            rcases I.exp q1 hk with y | y
            · obtain ⟨q', hq', e'⟩ := List.mem_map.mp y
              have := I.deep q' hq' u f1 (by rw [e']; exact P1)
              simp at hd
              omega
            · rw [(y _ hn).1] at E
              cases E
    | ok st =>
      obtain ⟨J, c⟩ := I.next g e
      obtain ⟨r1, r2⟩ := searchF_says g m (d + 1) st.1 st.2 J
      refine ⟨fun t h => ?_, fun k' h => ?_⟩
      · obtain ⟨a1, a2, a3, a4, a5⟩ := r1 t h
        exact ⟨a1, a2, a3, a4, by omega⟩
      · obtain ⟨a1, a2, a3, a4, a5⟩ := r2 k' h
        have L := ((run_items g I.items I.linv).1 st e).2.2
        exact ⟨a1, a2, fun p hp => a3 p (L p hp), a4, a5⟩
theorem search_found (g : Good b) {t : T} (h : search b = some (.error t)) : Found b fuel 0 t := by
  unfold search at h
  cases e : first b with
  | none => rw [e] at h; cases h
  | some p =>
    rw [e] at h
    exact (searchF_says g fuel 0 _ _ (SInv.start g e)).1 t h
theorem search_closed (g : Good b) {k : Kn} (h : search b = some (.ok k)) : Closed b k := by
  unfold search at h
  cases e : first b with
  | none =>
    rw [e] at h
    have h : some (Except.ok []) = some (.ok k) := h
    cases h
    exact ⟨by simp [keys], fun p hp => absurd hp (by simp [keys]), fun p hp => (by rw [e] at hp; cases hp), fun p hp => absurd hp (by simp [keys]), Nat.zero_le _⟩
  | some p =>
    rw [e] at h
    obtain ⟨a1, a2, a3, a4, a5⟩ := (searchF_says g fuel 0 _ _ (SInv.start g e)).2 k h
    exact ⟨a1, a2, fun q hq => by rw [e] at hq; rw [← Option.some.inj hq]; exact a3 p (by simp [keys]), a4, a5⟩
theorem Closed.reach (g : Good b) {k : Kn} (C : Closed b k) : ∀ {t f : T} {p : Pn}, Path b t f p → p ∈ keys k
  | [], [], p, h => C.fst p h.nil
  | [], _ :: _, _, h => absurd h.ln (by simp)
  | _ :: _, [], _, h => absurd h.ln (by simp)
  | s :: t, u :: f, p, h => by
    obtain ⟨q, hq, hn⟩ := h.back g
    exact (C.exp q (C.reach g hq) _ hn).2
/-- nothing turns -/
theorem Closed.safe (g : Good b) {k : Kn} (C : Closed b k) {u f : T} (hu : Sgs b u) (hne : u ≠ []) : textOf b (bars b u).reverse ≠ some f := fun hf => by
  obtain ⟨p, P, E⟩ := turns_path g hu hf
  generalize f.reverse = f1 at P
  match u, f1, P, hne with
  | s :: u, [], P, _ => exact absurd P.ln (by simp)
  | s :: u, v :: f1, P, _ =>
    obtain ⟨q, hq, hn⟩ := P.back g
    have := (C.exp q (C.reach g hq) _ hn).1
    rw [this] at E
    cases E
end
end K79
set_option Elab.async false
set_option linter.all false
set_option maxRecDepth 100000
set_option maxHeartbeats 2000000
/-! # Rules of our own, over the hand layer: text[::-1], repr of a text or None -/
namespace K79R
open PySem PySem.Spec PyProof.Rows L2

theorem rev_ix (n : Nat) : Builtin.Str.strSliceIndices none none (-1) n = (List.range n).map fun k => n - 1 - k := by
  have h1 : ¬ ((-1 : Int) > 0) := by decide
  unfold Builtin.Str.strSliceIndices
  simp only [h1, if_false]
  exact PySem.W.krv_sliceRange n
theorem rev_pick (l : List Nat) : (Builtin.Str.strSliceIndices none none (-1) (SX.S l).length).filterMap ((SX.S l).cps[·]?) = l.reverse := by
  rw [rev_ix, SX.S_len, PySem.W.krv_range, List.filterMap_reverse]
  congr 1
  have h := PySem.W.krv_all l.toArray
  rw [List.size_toArray] at h
  exact h
/-- text[::-1] -/
def tRevS (te : TE) : TE := fun σ H Q => te σ H fun x H1 => ∃ l : List Nat, x = .str (SX.S l) ∧ l.length ≤ sizeLine ∧ Q (.str (SX.S l.reverse)) H1
theorem pe_revS {X : Cx} {e : Expr} {te : TE} {k : Nat} {p1 p2 p3 pos : Pos} (he : PE X e te) :
    PE X (.Subscript e (.Slice none none (some (.UnaryOp .USub (.Constant (.int 1) k p1) p2)) p3) pos) (tRevS te) := by
  refine ⟨fun pins s σ H Q I h => ?_⟩
  refine Subscript_ (thn (he.run pins s σ H _ I h) fun v s1 ⟨x, H1, I1, r1, l, ex, hz, q⟩ => ?_)
  subst ex
  obtain ⟨t, rfl⟩ := r1
  have hst : PO X (some (.UnaryOp .USub (.Constant (.int 1) k p1) p2)) (tPart (tUn (rU fun i => .int (-i)) (tC (.int 1)))) := po_some (pe_un un_neg pe_int)
  refine wpAny_Slice (thn (po_none.run pins s1 σ H1 (fun o H2 => o = none ∧ H2 = H1) I1 ⟨rfl, rfl⟩) fun vl s2 ⟨a, H2, I2, pl, ea, e2⟩ => ?_)
  subst ea e2
  refine thn (po_none.run pins s2 σ H2 (fun o H3 => o = none ∧ H3 = H2) I2 ⟨rfl, rfl⟩) fun vu s3 ⟨b, H3, I3, pu, eb, e3⟩ => ?_
  subst eb e3
  refine thn (hst.run pins s3 σ H3 (fun o H4 => o = some (-1) ∧ H4 = H3) I3 ⟨1, rfl, -1, rfl, rfl, rfl⟩) fun vs s4 ⟨c, H4, I4, ps, ec, e4⟩ => ?_
  subst ec e4
  obtain ⟨a, ea, ha⟩ := IsPart.raw pl
  obtain ⟨b, eb, hb⟩ := IsPart.raw pu
  obtain ⟨c, ec, hc⟩ := IsPart.raw ps
  have I5 : Inv X pins σ H4 { s4 with heap := s4.heap.push { cls := .type "slice", data := .fields #[vl, vu, vs] } } := I4.kept (t' := s4.toks) fun b ob q => Heap.get?_push_of_some _ q
  refine tail_any (ops := [.str (SX.S l) t, .ref s4.heap.objs.size]) (T := "str") (typeIs_str _ _ _) F.slot_str_getitem.lookup ?_ (by with_unfolding_all rfl)
  refine wpAny_getItem_str_slice (l := a) (u := b) (st := c) ⟨_, Heap.get?_push_size _ rfl, rfl, ?_⟩ ?_ ?_
  · show _ = _
    rw [ea, eb, ec]
  · rw [hc]
    decide
  · unfold sliceMade slicePicked
    rw [ha, hb, hc]
    rw [if_neg (by rw [show ((some (-1 : Int)).getD 1 == 1) = false by decide, Bool.false_and]; exact Bool.false_ne_true)]
    show Made.post (Made.str ⟨((Builtin.Str.strSliceIndices none none (-1) (SX.S l).length).filterMap ((SX.S l).cps[·]?)).toArray⟩) (EP X pins σ Q) _
    rw [rev_pick]
    exact ⟨by show (SX.S l.reverse).length ≤ sizeLine; rw [SX.S_len, List.length_reverse]; exact hz, .str _, H4, I5.tok _, ⟨_, rfl⟩, q⟩
end K79R
set_option Elab.async false
set_option linter.all false
set_option maxRecDepth 100000
set_option maxHeartbeats 2000000
/-! # Rules of our own: < of data, sorted of data, repr of a text or None -/
namespace K79R
open PySem PySem.Spec PyProof.Rows L2
section
variable {X : Cx}
/-- x < y, both data of one shape -/
def rLtD (K : PySem.W.Frag) : R2 := fun x y H Q => ∃ d e : PyData, Dp K H x d ∧ Dp K H y e ∧ PySem.W.alike d e = true ∧ d ≠ .none ∧ d.depth ≤ 16 ∧ Q (.bl (PySem.W.dataLt d e)) H
theorem op_ltD (hu : X.A.units + 64 < cLine) : OpR X (compareOp .Lt) (rLtD X.K) := by
  intro pins s σ H x y v u Q I rx ry h
  obtain ⟨d, e, hd, he, ha, hn, hz, q⟩ := h
  obtain ⟨as, r1⟩ := Dp.reads I d x v hd rx
  obtain ⟨bs, r2⟩ := Dp.reads I e y u he ry
  exact PySem.W.lt_data r1 r2 ha hn (by have : min d.depth e.depth ≤ d.depth := Nat.min_le_left _ _; omega) ⟨.bl _, H, I, rfl, q⟩
/-- sorted(xs), xs a list of objects that are data of one shape, each a tuple -/
def rSortedD (K : PySem.W.Frag) : List V → Hp → VK → Prop := fun xs H Q => ∃ (l : Addr) (bs : List (Addr × PyData)), xs = [.ref l] ∧ SqL K H l (bs.map fun b => V.ref b.1) ∧ (∀ b ∈ bs, Dp K H (.ref b.1) b.2) ∧
  PySem.W.AllAlike (bs.map (·.2)) ∧ PySem.W.Sortable (bs.map (·.2)) ∧ (∀ b ∈ bs, b.2.depth ≤ 16) ∧ ∀ p, H p = none → Q (.ref p) (upd H p (.lst ((bs.mergeSort (PySem.W.dataLe false (fun b : Addr × PyData => b.2))).map fun b => V.ref b.1)))
theorem each_of {α β : Type} {R : α → β → Prop} {f : β → α} : ∀ {bs : List β}, (∀ b ∈ bs, R (f b) b) → PySem.W.EachIs R (bs.map f) bs
  | [], _ => .nil
  | b :: bs, h => .cons (h b (List.mem_cons_self ..)) (each_of fun c hc => h c (List.mem_cons_of_mem _ hc))
theorem each_eq {β : Type} {f : β → Value} : ∀ {us : List Value} {bs : List β}, PySem.W.EachIs (fun v b => v = f b) us bs → us = bs.map f
  | _, _, .nil => rfl
  | _, _, .cons h t => by rw [h, each_eq t]; rfl
theorem vals_refs : ∀ {bs : List Addr} {us : List Value}, Vals (bs.map V.ref) us → us = bs.map Value.ref
  | [], _, .nil => rfl
  | _ :: _, _, .cons h t => by
    cases h
    rw [vals_refs t]
    rfl
theorem refs_vals : ∀ (bs : List Addr), Vals (bs.map V.ref) (bs.map Value.ref)
  | [] => .nil
  | _ :: bs => .cons rfl (refs_vals bs)
theorem cr_sortedD (hu : X.A.units + 64 < cLine) : CallR X (.builtin "sorted") (rSortedD X.K) := by
  intro pins s σ H xs us Q I r h
  obtain ⟨l, bs, rfl, hl, hd, ha, hk, hz, q⟩ := h
  obtain ⟨u, rfl, ru⟩ := vals1 r
  cases ru
  obtain ⟨its, rv, pl, hn⟩ := I.list hl
  have e0 : (bs.map fun b => V.ref b.1) = (bs.map (·.1)).map V.ref := by rw [List.map_map]; rfl
  rw [e0] at rv
  have e1 := vals_refs rv
  rw [List.map_map] at e1
  subst e1
  rw [List.length_map] at hn
  refine PySem.W.sorted_data (enc := fun b : Addr × PyData => b.2) (bs := bs) (R := fun v b => v = .ref b.1) pl.isList (each_of fun b hb => rfl) (each_of (f := fun b : Addr × PyData => Value.ref b.1) fun b hb => ?_) ha hk hn (fun b hb => by have := hz b hb; omega) fun out hlen ho => ?_
  · exact Dp.reads I b.2 _ _ (hd b hb) rfl
  · have eo := each_eq (f := fun b : Addr × PyData => Value.ref b.1) ho
    obtain ⟨n, hD⟩ := sortedAll_at s.heap (bs.map (Value.ref ∘ fun b : Addr × PyData => b.1)) out.toArray
    have hsz : s.heap.objs.size ≤ s.heap.objs.size + 1 := Nat.le_succ _
    refine ⟨.ref (s.heap.objs.size + 1), _, I.laid (t' := s.toks) (a := s.heap.objs.size + 1) (o := .lst ((bs.mergeSort (PySem.W.dataLe false (fun b : Addr × PyData => b.2))).map fun b => V.ref b.1)) (fun b o e => sortedAll_old e) hsz ?_, rfl, q _ (I.hok.fresh hsz)⟩
    refine ⟨?_, out, n, ?_, hD⟩
    · rw [List.length_map, List.length_mergeSort]
      exact hn
    · rw [eo]
      have e2 : ((bs.mergeSort (PySem.W.dataLe false (fun b : Addr × PyData => b.2))).map fun b => V.ref b.1) = ((bs.mergeSort (PySem.W.dataLe false (fun b : Addr × PyData => b.2))).map (·.1)).map V.ref := by rw [List.map_map]; rfl
      have e3 : ((bs.mergeSort (PySem.W.dataLe false (fun b : Addr × PyData => b.2))).map fun b => Value.ref b.1) = ((bs.mergeSort (PySem.W.dataLe false (fun b : Addr × PyData => b.2))).map (·.1)).map Value.ref := by rw [List.map_map]; rfl
      rw [e2, e3]
      exact refs_vals _
/-- a text or None -/
def optV : Option (List Nat) → V
  | none => .non
  | some l => .str (SX.S l)
def reprO : Option (List Nat) → Str
  | none => "None"
  | some l => reprText (SX.S l)
theorem call_reprO : CallR X (.builtin "repr") (fun xs H Q => ∃ o : Option (List Nat), xs = [optV o] ∧ (∀ l, o = some l → l.length ≤ 10000 ∧ ∀ c ∈ l, c < 1000) ∧ Q (.str (reprO o)) H) := by
  intro pins s σ H xs us Q I r h
  obtain ⟨o, rfl, hz, q⟩ := h
  obtain ⟨u, rfl, ru⟩ := vals1 r
  cases o with
  | none =>
    cases ru
    exact PySem.P.repr_of_none ⟨.str _, H, I.tok _, ⟨_, rfl⟩, q⟩
  | some l =>
    obtain ⟨t, rfl⟩ := ru
    obtain ⟨h1, h2⟩ := hz l rfl
    refine PySem.P.repr_of_str ⟨.str _, H, I.tok _, ⟨_, rfl⟩, q⟩ ?_
    have := PySem.StrLaws.reprText_len (SX.S l) fun c hc => Nat.lt_of_lt_of_le (h2 c hc) (by decide)
    rw [SX.S_len] at this
    exact Nat.le_trans this (Nat.le_trans (show 10 * l.length + 2 ≤ 100002 by omega) (by decide))
end
end K79R
set_option Elab.async false
set_option linter.all false
set_option maxRecDepth 100000
set_option maxHeartbeats 2000000
/-! # Rules of our own: {k: v} with a tuple as its key (or None), {k: v for ..} with such keys, {text for ..}, len of it -/
namespace K79R
open PySem PySem.Spec PyProof.Rows L2
section
variable {X : Cx}
/-- either reading will do -/
theorem pe_or2 {e : Expr} {t u : TE} (h : PE X e t) (h' : PE X e u) : PE X e (fun σ H Q => t σ H Q ∨ u σ H Q) :=
  ⟨fun pins s σ H Q I q => q.elim (h.run pins s σ H Q I) (h'.run pins s σ H Q I)⟩

/-! ### the display of one pair -/
def tDispT (tk tv : TE) : TE := fun σ H Q => ∀ p, H p = none → tk σ (upd H p (.dT [])) fun x H1 => tv σ H1 fun y H2 =>
  ∃ (ks : List Key) (b : Addr), x = .ref b ∧ H2 p = some (.dT []) ∧ H2 b = some (.tup (ks.map kV)) ∧ Q (.ref p) (upd H2 p (.dT [(ks, y)]))
def onePair (P : V → V → Hp → Prop) : List (V × V) → Hp → Prop
  | [(x, y)], H => P x y H
  | _, _ => False
theorem one_of {P : V → V → Hp → Prop} : ∀ {ps : List (V × V)} {H : Hp}, onePair P ps H → ∃ x y, ps = [(x, y)] ∧ P x y H
  | [(x, y)], _, h => ⟨x, y, rfl, h⟩
  | [], _, h => h.elim
  | _ :: _ :: _, _, h => h.elim
theorem pe_dispT {k v : Expr} {tk tv : TE} {pos : Pos} (hu : X.A.units < cLine) (h : PPs X pos [some k] [v] [(tk, tv)]) : PE X (.Dict [some k] [v] pos) (tDispT tk tv) := by
  refine ⟨fun pins s σ H Q I q => ?_⟩
  have hn := I.hok.fresh (Nat.le_refl s.heap.objs.size)
  have I1 := I.laid (a := s.heap.objs.size) (o := .dT []) (h' := s.heap.push { cls := .type "dict", data := .dict #[] }) (t' := s.toks) (fun _ _ e => Heap.get?_push_of_some _ e) (Nat.le_refl _) (dt_empty s.heap I.big)
  rw [arm_eval_Dict, zip_pairTrees [some k] [v] X.env pos rfl rfl, dictDisplay_pairs (pairTrees [some k] [v] X.env pos) (List.cons_ne_nil _ _) (by show (1 : Nat) < 17; decide)]
  refine wpAny_bind (wpAny_standAt (wpAny_bind (wpAny_subDictH (knd := tupleKind (mixKind X.prog X.w)) (Q := fun d s' => wpAny (model X.prog X.w) X.A (pure (Value.ref d)) (EP X pins σ Q) X.xe s') hu (by show (1 : Nat) ≤ 15; decide)
    (thn (h.run pins _ σ _ (onePair fun x y H2 => ∃ (ks : List Key) (b : Addr), x = .ref b ∧ H2 s.heap.objs.size = some (.dT []) ∧ H2 b = some (.tup (ks.map kV)) ∧ Q (.ref s.heap.objs.size) (upd H2 s.heap.objs.size (.dT [(ks, y)]))) I1 (q _ hn)) fun ws s2 ⟨ps, H2, I2, rel, z⟩ => ?_))))
  obtain ⟨x, y, rfl, ks, b, rfl, e1, e2, q2⟩ := one_of z
  cases rel with
  | @cons _ w1 _ ws1 r t =>
    cases t
    obtain ⟨w1a, w1b⟩ := w1
    obtain ⟨ra, rb⟩ := r
    cases (show w1a = Value.ref b from ra)
    obtain ⟨z, hd, xs, rel, dd⟩ := dt_of I2.hok e1
    cases rel
    refine ⟨[(ks, b, w1b)], ⟨rfl, rfl, key_of I2.hok e2, trivial⟩, dd, fun h' tk' dk hs => wpAny_pure ?_⟩
    obtain ⟨o, es, ep, ho, h2, h3, h4, h5, h6⟩ := dk
    refine ⟨.ref s.heap.objs.size, _, d_write (t' := tk') (ob := .dT [(ks, y)]) I2 (by rw [e1]; exact True.intro) hs ⟨o, ho⟩ ⟨(by show 1 ≤ sizeLine; decide), hd, [(ks, b, w1b)], .cons ⟨rfl, ?_, rb⟩ .nil, o, es, ep, ho, h2, h3, h4, h6⟩, rfl, q2⟩
    rw [upd_ne (ne_of e2 e1 (fun z => nomatch z))]
    exact e2

/-- {None: v}: a dict of which nothing is said -/
def anyO (p : Addr) : HO := .ext fun h => ∃ o, h.get? p = some o
theorem any_ok {P : Program} {w : World} {H : Hp} {h : Heap} {p : Addr} (e : ∃ o, h.get? p = some o) : ObjOk P w H h p (anyO p) :=
  ⟨e, e, fun h1 h2 ⟨o, q⟩ k => ⟨o, k o q⟩⟩
def leafO (P : Program) (w : World) (p : Addr) : HO := .ext fun h => h.DictOf (leafKind P w) p []
theorem leaf_ok {P : Program} {w : World} {H : Hp} {h : Heap} {p : Addr} (e : h.DictOf (leafKind P w) p []) : ObjOk P w H h p (leafO P w p) := by
  obtain ⟨o, es, ep, ho, r⟩ := id e
  exact ⟨e, ⟨o, ho⟩, fun h1 h2 ⟨o, es, ep, q, r⟩ k => ⟨o, es, ep, k o q, r⟩⟩
def tDispN (P : Program) (w : World) (tk tv : TE) : TE := fun σ H Q => ∀ p, H p = none → tk σ (upd H p (leafO P w p)) fun x H1 => tv σ H1 fun y H2 => x = .non ∧ H2 p = some (leafO P w p) ∧ Q (.ref p) (upd H2 p (anyO p))
theorem pe_dispN {k v : Expr} {tk tv : TE} {pos : Pos} (h : PPs X pos [some k] [v] [(tk, tv)]) : PE X (.Dict [some k] [v] pos) (tDispN X.prog X.w tk tv) := by
  refine ⟨fun pins s σ H Q I q => ?_⟩
  have hn := I.hok.fresh (Nat.le_refl s.heap.objs.size)
  have new : (s.heap.push { cls := .type "dict", data := .dict #[] }).DictOf (leafKind X.prog X.w) s.heap.objs.size [] := Heap.DictOf.new s.heap
  have I1 := I.laid (a := s.heap.objs.size) (o := leafO X.prog X.w s.heap.objs.size) (h' := s.heap.push { cls := .type "dict", data := .dict #[] }) (t' := s.toks) (fun _ _ e => Heap.get?_push_of_some _ e) (Nat.le_refl _) (leaf_ok new)
  refine wpAny_Dict_walk (knd := leafKind X.prog X.w) rfl rfl (List.cons_ne_nil _ _) (by show (1 : Nat) ≤ 15; decide)
    (thn (h.run pins _ σ _ (onePair fun x y H2 => x = .non ∧ H2 s.heap.objs.size = some (leafO X.prog X.w s.heap.objs.size) ∧ Q (.ref s.heap.objs.size) (upd H2 s.heap.objs.size (anyO s.heap.objs.size))) I1 (q _ hn)) fun ws s2 ⟨ps, H2, I2, rel, z⟩ => ?_)
  obtain ⟨x, y, rfl, rfl, e1, q2⟩ := one_of z
  cases rel with
  | @cons _ w1 _ ws1 r t =>
    cases t
    obtain ⟨w1a, w1b⟩ := w1
    obtain ⟨ra, rb⟩ := r
    cases (show w1a = Value.none from ra)
    obtain ⟨dd, _⟩ := (show ObjOk X.prog X.w H2 s2.heap s.heap.objs.size (leafO X.prog X.w s.heap.objs.size) from I2.hok _ _ e1)
    refine ⟨[(Leaf.none, w1b)], ⟨rfl, rfl, trivial⟩, dd, fun h' dk hs => ?_⟩
    obtain ⟨o, es, ep, ho, _⟩ := dk
    exact ⟨.ref s.heap.objs.size, _, d_write (t' := s2.toks + [(Value.none, w1b)].length) (ob := anyO s.heap.objs.size) I2 (by rw [e1]; exact True.intro) hs ⟨o, ho⟩ (any_ok ⟨o, ho⟩), rfl, q2⟩

/-! ### dict comprehensions whose keys are tuples -/
/-- a key that is a tuple, stored by a comprehension -/
theorem d_dictSetT {X : Cx} {pins : List (Addr × Obj)} {σ : L2.St} {H : Hp} {s : Shared} {E : Value → Shared → Prop} {D b : Addr} {kvs : List (List Key × V)} {ks : List Key} {v : V} {u r : Value} {Q : Unit → Shared → Prop}
    (hu : X.A.units < cLine) (I : Inv X pins σ H s) (hD : H D = some (.dT kvs)) (hb : H b = some (.tup (ks.map kV))) (hz : kvs.length < sizeLine) (ru : RelV (.ref b) u) (rv : RelV v r)
    (h : ∀ s', Inv X pins σ (upd H D (.dT (putK kvs ks v))) s' → Q () s') : wpAny (model X.prog X.w) X.A (dictSet D u r) Q E s := by
  cases (show u = Value.ref b from ru)
  obtain ⟨z, hd, xs, rel, dd⟩ := dt_of I.hok hD
  have hzx : xs.length ≤ sizeLine := by
    rw [← Paired.length rel]
    exact z
  have hl : (putK kvs ks v).length ≤ sizeLine := by
    have := length_putK kvs ks v
    omega
  refine wpAny_dictSet_heap (knd := tupleKind (mixKind X.prog X.w)) (hsz := hzx) hu (key_of I.hok hb) dd fun h' dk hs => h _ ?_
  obtain ⟨o, es, ep, ho, h2, h3, h4, _, h6⟩ := dk
  refine d_write (ob := .dT (putK kvs ks v)) I (by rw [hD]; exact True.intro) hs ⟨o, ho⟩ ⟨hl, hd, _, (rel.put ks hb rv).keeps fun c ys ec => ?_, o, es, ep, ho, h2, h3, h4, h6⟩
  rw [upd_ne (ne_of ec hD (fun z => nomatch z))]
  exact ec
def tDcT (wi : TI) (g : TG) (tt : TT) (tk tv : TE) (vs : List Nat) : TE := fun σ H Q => wi σ H fun J H1 => ∀ D, H1 D = none → ∃ W : Nat → Nat → Hp → Prop, (∃ m, W 0 m (upd H1 D (.dT []))) ∧ ∀ i m H, W i m H →
  (J.stop i H ∧ Q (.ref D) H) ∨ (J.go i H ∧ ∃ Nx : Hp → Prop, (∀ H', Nx H' → ∃ m', m' < m ∧ W (i + 1) m' H') ∧ ∀ x H', J.yld i H x H' → g x (wipe σ vs) H' fun σ2 H2 => wipe σ2 vs = wipe σ vs ∧ tt σ2 H2 fun c H3 =>
    if c = true then tk σ2 H3 fun y H4 => tv σ2 H4 fun z H5 => ∃ (kvs : List (List Key × V)) (ks : List Key) (b : Addr), y = .ref b ∧ H5 b = some (.tup (ks.map kV)) ∧ H5 D = some (.dT kvs) ∧ kvs.length < sizeLine ∧ Nx (upd H5 D (.dT (putK kvs ks z))) else Nx H3)
theorem dcT_core {pins : List (Addr × Obj)} {s : Shared} {σ : L2.St} {H : Hp} {Q : VK} {kx vx tg iter : Expr} {ifs : List Expr} {scope : Scope} {own : List (PySem.Str × Nat)} {pos pos' : Pos} {wi : TI} {g : TG} {tt : TT} {tk tv : TE} {use : Option (Value → Sem Unit)} {Qf : Value → Shared → Prop}
    (hu : X.A.units < cLine) (hc : X.calm = true) (hN : X.N.Nodup) (I : Inv X pins σ H s) (hi : PI X tg iter wi) (ok : BlkOk X.N X.env.scope scope own)
    (hg : ∀ (s : Shared) (H : Hp) (C : Addr) (cl : List (PySem.Str × Addr)) (fp : List Addr), PG (X.blk s H scope (compEnvC scope cl C X.env) fp) tg g) (ht : ∀ (s : Shared) (H : Hp) (C : Addr) (cl : List (PySem.Str × Addr)) (fp : List Addr), PTs (X.blk s H scope (compEnvC scope cl C X.env) fp) ifs tt)
    (hk : ∀ (s : Shared) (H : Hp) (C : Addr) (cl : List (PySem.Str × Addr)) (fp : List Addr), PE (X.blk s H scope (compEnvC scope cl C X.env) fp) kx tk)
    (he : ∀ (s : Shared) (H : Hp) (C : Addr) (cl : List (PySem.Str × Addr)) (fp : List Addr), PE (X.blk s H scope (compEnvC scope cl C X.env) fp) vx tv) (hs : ∀ x, foldedSetIterable iter X.env x = pure x)
    (h : tDcT wi g tt tk tv (own.map (·.2)) σ H Q)
    (hRR : ∀ D C s' m H', Inv X pins σ H' s' → Q (.ref D) H' → s'.heap.Ns C m → FpOk X pins H' C → compPost (model X.prog X.w) X.A X.xe use Qf (.ref D) C (.ok .next) s') :
    wpAny (model X.prog X.w) X.A (comprehension (.DictComp kx vx [⟨tg, iter, ifs, 0⟩] scope pos) scope X.env pos' newDict false (eval iter X.env) use) Qf X.xe s := by
  have hfree : ∀ y ∈ scope.names, y.2 = .free → ∃ c, X.env.cells.lookup y.1 = some c := fun y hy e => (ok.free y hy e).elim (fun k => I.ok.has _ (.inl k)) fun k => I.ok.has _ (.inr k)
  refine wpAny_comprehension_free (use := use) rfl hs (closure_ok hfree) ok.kind (fun y hy e => by rw [ok.uniq y hy, e])
    (thn (hi.run pins s σ H _ I h) fun xv s1 hx => thn hx fun itv s2 h2 => ?_)
  obtain ⟨it, fp, tn, J, H2, e, I2, T, st2, f2, q⟩ := h2
  subst e
  refine wpAny_newObj_type (newEnv_comp ?_)
  generalize hD : s2.heap.objs.size = D
  have hDn : H2 D = none := I2.hok.fresh (Nat.le_of_eq hD)
  obtain ⟨W, ⟨m0, w0⟩, turn⟩ := q D hDn
  generalize hH3 : upd H2 D (.dT []) = H3 at w0
  generalize hs3 : ({ s2 with heap := s2.heap.push { cls := .type "dict", data := .dict #[] } } : Shared) = s3
  have h3 : s3.heap = s2.heap.push { cls := .type "dict", data := .dict #[] } := by rw [← hs3]
  have I3 : Inv X pins σ H3 s3 := by
    rw [← hs3, ← hH3]
    refine I2.laid (t' := s2.toks) (fun b o e => Heap.get?_push_of_some _ e) (Nat.le_of_eq hD) ?_
    rw [← hD]
    exact dt_empty s2.heap I2.big
  have f3 : ∀ b ∈ fp, FpOk X pins H3 b ∧ b < s3.heap.objs.size := fun b hb => by
    obtain ⟨o, e, _⟩ := T.obj _ _ st2 b hb
    have hlt := Heap.lt_size e
    have n3 : H3 b = none := by
      rw [← hH3, upd_ne (by rw [← hD]; exact Nat.ne_of_lt hlt)]
      exact (f2 b hb).1
    exact ⟨⟨n3, (f2 b hb).2⟩, by rw [h3, Heap.size_push]; exact Nat.lt_succ_of_lt hlt⟩
  have st3 : tn 0 s3.heap := T.keep _ _ _ st2 fun b _ o e => by rw [h3]; exact Heap.get?_push_of_some _ e
  have I4 := block_start I3 ok hN f3
  have pg := hg s3 H3 s3.heap.objs.size (cellsFrom (s3.heap.objs.size + 1) scope.names (cloFrom X.env.cells scope.names [])) fp
  have pt := ht s3 H3 s3.heap.objs.size (cellsFrom (s3.heap.objs.size + 1) scope.names (cloFrom X.env.cells scope.names [])) fp
  have pk := hk s3 H3 s3.heap.objs.size (cellsFrom (s3.heap.objs.size + 1) scope.names (cloFrom X.env.cells scope.names [])) fp
  have pe := he s3 H3 s3.heap.objs.size (cellsFrom (s3.heap.objs.size + 1) scope.names (cloFrom X.env.cells scope.names [])) fp
  have nfp : ∀ b ∈ fp, H3 b = none := fun b hb => (f3 b hb).1.1
  show codeAny _ _ (.compStart (.DictComp kx vx [⟨tg, iter, ifs, 0⟩] scope pos) 0 (.ref it) (.ref D) (compEnvC scope (cellsFrom (s3.heap.objs.size + 1) scope.names (cloFrom X.env.cells scope.names [])) s3.heap.objs.size X.env)) (compPost (model X.prog X.w) X.A X.xe use Qf (.ref D) s3.heap.objs.size) { s3 with heap := pushCells (s3.heap.push { cls := .type "dict", data := .dict #[] }) scope.names }
  generalize hce : compEnvC scope (cellsFrom (s3.heap.objs.size + 1) scope.names (cloFrom X.env.cells scope.names [])) s3.heap.objs.size X.env = ce at I4 pg pt pk pe ⊢
  have cL : ce.locals = s3.heap.objs.size := by rw [← hce]; rfl
  generalize hs4 : ({ s3 with heap := pushCells (s3.heap.push { cls := .type "dict", data := .dict #[] }) scope.names } : Shared) = s4 at I4 ⊢
  have st4 : tn 0 s4.heap := T.keep _ _ _ st3 fun b _ o e => by rw [← hs4]; exact pushCells_keeps _ _ _ _ (Heap.get?_push_of_some _ e)
  have stat : ∀ {σ' : L2.St} {H' : Hp} {s' : Shared}, Inv (X.blk s3 H3 scope ce fp) [] σ' H' s' → (∀ b ∈ fp, H' b = none) → ∀ b ∈ fp, FpOk (X.blk s3 H3 scope ce fp) [] H' b := fun I' hn b hb =>
    ⟨hn b hb, (I'.ok.exf b hb).1, I'.ok.exfs b hb, .inl hb, fun x c e => (I'.ok.exf b hb).2 x c e, fun p hp => absurd (show p ∈ ([] : List (Addr × Obj)) ++ [] from hp) (by simp)⟩
  have loop : codeAny (model X.prog X.w) X.A (.compLoop (.DictComp kx vx [⟨tg, iter, ifs, 0⟩] scope pos) 0 (.ref it) (.ref D) ce) (compPost (model X.prog X.w) X.A X.xe use Qf (.ref D) s3.heap.objs.size) s4 := by
    refine compLoop_anyD (fun n s' => ∃ i H', Inv (X.blk s3 H3 scope ce fp) [] (wipe σ (own.map (·.2))) H' s' ∧ tn i s'.heap ∧ (∀ b ∈ fp, H' b = none) ∧ W i n H') ?_ m0 ⟨0, H3, I4, st4, nfp, w0⟩
    rintro n s5 ⟨i, H5, I5, st5, n5, w5⟩
    rcases turn i n H5 w5 with ⟨stop, qq⟩ | ⟨go, Nx, hNx, step⟩
    · refine thnF (T.done (X.blk s3 H3 scope ce fp) rfl rfl rfl hc i [] s5 _ H5 (fun _ _ => False) I5 (stat I5 n5) st5 stop) fun r s6 ⟨hr, I6⟩ => ?_
      subst hr
      have I7 : Inv X pins σ H5 s6 := I3.call' (ch := fp) I6.os I6.base I6.hok I6.bare fun b hb => ⟨(f3 b hb).1.2.2.2.1, (f3 b hb).1.2.1, (f3 b hb).1.2.2.2.2.1, (f3 b hb).1.2.2.2.2.2⟩
      have nC : H5 s3.heap.objs.size = none := by
        rw [← cL]
        exact I6.free
      obtain ⟨m, hn, _⟩ := I6.loc
      have hn : s6.heap.Ns ce.locals m := hn
      rw [cL] at hn
      exact hRR D s3.heap.objs.size s6 m H5 I7 qq hn (I3.fpOk (Nat.le_refl _) nC)
    · refine thnF (T.item (X.blk s3 H3 scope ce fp) rfl rfl rfl hc i [] s5 _ H5 (fun _ _ => False) I5 (stat I5 n5) st5 go) fun r s6 ⟨u, hr, h6⟩ => ?_
      subst hr
      refine thnF h6 fun _ s7 ⟨x, H7, I7, r7, y7, st7, n7⟩ => ?_
      have I7' := I7.pinned (stat I7 n7) (T.obj _ _ st7)
      refine thnF (pg.run _ s7 _ H7 x u _ I7' r7 (step x H7 y7)) fun _ s8 ⟨σ8, H8, I8, hw8, q8⟩ => ?_
      refine thnF (pt.run _ s8 σ8 H8 _ I8 q8) fun b s9 ⟨H9, I9, q9⟩ => ?_
      have fin : ∀ {s' : Shared} {H' : Hp}, Inv (X.blk s3 H3 scope ce fp) ([] ++ pinsAt fp s7.heap) σ8 H' s' → Nx H' → ∃ m, m < n ∧ ∃ i H', Inv (X.blk s3 H3 scope ce fp) [] (wipe σ (own.map (·.2))) H' s' ∧ tn i s'.heap ∧ (∀ b ∈ fp, H' b = none) ∧ W i m H' := fun {s' H'} I' nx => by
        obtain ⟨m', hm, w'⟩ := hNx H' nx
        have pin' : ∀ b ∈ fp, ∀ o, s7.heap.get? b = some o → s'.heap.get? b = some o ∧ H' b = none := fun b hb o e =>
          have z := I'.pin (b, o) (List.mem_append_right _ (List.mem_append_right _ (mem_pinsAt hb e)))
          ⟨z.1, z.2.1⟩
        refine ⟨m', hm, i + 1, H', (I'.unpinned (pins := [])).weak (by rw [← hw8, wipe_length]) (fun j v e => ?_), T.keep _ _ _ st7 fun b hb o e => (pin' b hb o e).1, fun b hb => ?_, w'⟩
        · rw [← hw8] at e
          exact (wipe_some e).1
        · obtain ⟨o, e, _⟩ := T.obj _ _ st7 b hb
          exact (pin' b hb o e).2
      cases b with
      | false =>
        simp only [Bool.false_eq_true, if_false] at q9 ⊢
        exact fin I9 q9
      | true =>
        simp only [if_true] at q9 ⊢
        refine thnF (pk.run _ s9 σ8 H9 _ I9 q9) fun z s10 ⟨yk, H10, I10, r10, q10⟩ => ?_
        refine thnF (pe.run _ s10 σ8 H10 _ I10 q10) fun z2 s11 ⟨yv, H11, I11, r11, kvs, ks, b, eb, hb11, hD11, hz11, nx⟩ => ?_
        subst eb
        exact d_dictSetT (X := X.blk s3 H3 scope ce fp) hu I11 hD11 hb11 hz11 r10 r11 fun s12 I12 => fin I12 nx
  exact codeAny_compStart_dict loop (T.self X.A 0 _ _ _ st4 loop)
/-- as a value -/
theorem pe_dcT {kx vx tg iter : Expr} {ifs : List Expr} {scope : Scope} {own : List (PySem.Str × Nat)} {pos : Pos} {wi : TI} {g : TG} {tt : TT} {tk tv : TE} (hu : X.A.units < cLine) (hc : X.calm = true) (hN : X.N.Nodup) (hi : PI X tg iter wi) (ok : BlkOk X.N X.env.scope scope own)
    (hg : ∀ (s : Shared) (H : Hp) (C : Addr) (cl : List (PySem.Str × Addr)) (fp : List Addr), PG (X.blk s H scope (compEnvC scope cl C X.env) fp) tg g) (ht : ∀ (s : Shared) (H : Hp) (C : Addr) (cl : List (PySem.Str × Addr)) (fp : List Addr), PTs (X.blk s H scope (compEnvC scope cl C X.env) fp) ifs tt)
    (hk : ∀ (s : Shared) (H : Hp) (C : Addr) (cl : List (PySem.Str × Addr)) (fp : List Addr), PE (X.blk s H scope (compEnvC scope cl C X.env) fp) kx tk)
    (he : ∀ (s : Shared) (H : Hp) (C : Addr) (cl : List (PySem.Str × Addr)) (fp : List Addr), PE (X.blk s H scope (compEnvC scope cl C X.env) fp) vx tv) (hs : ∀ x, foldedSetIterable iter X.env x = pure x := by intro _; rfl) :
    PE X (.DictComp kx vx [⟨tg, iter, ifs, 0⟩] scope pos) (tDcT wi g tt tk tv (own.map (·.2))) := by
  refine ⟨fun pins s σ H Q I h => ?_⟩
  rw [arm_eval_DictComp]
  refine dcT_core hu hc hN I hi ok hg ht hk he hs h fun D C s' m H' I' q hn f => ⟨m, hn, fun h'' sb => ?_⟩
  obtain ⟨f0, f1, f2, f3, f4, f5⟩ := f
  exact ⟨.ref D, H', I'.turned (t' := s'.toks) (fun b o hb e => (sb.2 b hb).trans e) f0 f1 f3 f4 f5, rfl, q⟩

/-! ### set comprehensions of texts (or ints) -/
theorem setK_empty (P : Program) (w : World) (h : Heap) : (h.push { cls := .type "set", dict := none, data := .set #[] 0 (.fresh 0 0 (!w.params.followText "set-order")) }).SetOf (mixKind P w) h.objs.size (fun _ => false) 0 :=
  ⟨_, #[], 0, _, Heap.get?_push_size _ rfl, ⟨rfl, rfl, rfl⟩, rfl, (fun e he => by simp at he), (fun k => by simp), (by decide), (by rfl), rfl⟩
theorem addK_ok {X : Cx} {pins : List (Addr × Obj)} {σ : L2.St} {H : Hp} {s : Shared} {E : Value → Shared → Prop} {D : Addr} {S : Key → Bool} {n : Nat} {k : Key} {u : Value} {Q : Value → Shared → Prop} (I : Inv X pins σ H s) (hD : H D = some (SetK X.prog X.w D S n)) (room : n + 1 < scanBound) (r : RelV (kV k) u)
    (h : ∀ v s', Inv X pins σ (upd H D (SetK X.prog X.w D (fun j => S j || decide (j = k)) (if S k = true then n else n + 1))) s' → Q v s') : wpAny (model X.prog X.w) X.A (call (.builtin "set.add") [.ref D, u]) Q E s := by
  refine call_set_add (kV_is r) (key_scan r) (setK_get I hD) room fun h' sb new => ?_
  have he : ∃ o, h'.get? D = some o := by
    have ⟨o, _, _, _, ho, _⟩ := new
    exact ⟨o, ho⟩
  exact h _ _ (I.write (e := D) (t' := s.toks + 1) (by rw [hD]; trivial) (.inl rfl) (fun b o hb ho => (sb.2 b hb).trans ho) he (setK_new new))
/-- {elt for target in iter if ..}, elt a text or an int: D the new set -/
def tScK (P : Program) (w : World) (wi : TI) (g : TG) (tt : TT) (te : TE) (vs : List Nat) : TE := fun σ H Q => wi σ H fun J H1 => ∀ D, H1 D = none → ∃ W : Nat → Nat → Hp → Prop, (∃ m, W 0 m (upd H1 D (SetK P w D (fun _ => false) 0))) ∧ ∀ i m H, W i m H →
  (J.stop i H ∧ Q (.ref D) H) ∨ (J.go i H ∧ ∃ Nx : Hp → Prop, (∀ H', Nx H' → ∃ m', m' < m ∧ W (i + 1) m' H') ∧ ∀ x H', J.yld i H x H' → g x (wipe σ vs) H' fun σ2 H2 => wipe σ2 vs = wipe σ vs ∧ tt σ2 H2 fun c H3 =>
    if c = true then te σ2 H3 fun y H4 => ∃ (k : Key) (S : Key → Bool) (n : Nat), y = kV k ∧ H4 D = some (SetK P w D S n) ∧ n + 1 < scanBound ∧ Nx (upd H4 D (SetK P w D (fun j => S j || decide (j = k)) (if S k = true then n else n + 1))) else Nx H3)
theorem scK_core {pins : List (Addr × Obj)} {s : Shared} {σ : L2.St} {H : Hp} {Q : VK} {elt tg iter : Expr} {ifs : List Expr} {scope : Scope} {own : List (PySem.Str × Nat)} {pos pos' : Pos} {wi : TI} {g : TG} {tt : TT} {te : TE} {use : Option (Value → Sem Unit)} {Qf : Value → Shared → Prop}
    (hc : X.calm = true) (hN : X.N.Nodup) (I : Inv X pins σ H s) (hi : PI X tg iter wi) (ok : BlkOk X.N X.env.scope scope own)
    (hg : ∀ (s : Shared) (H : Hp) (C : Addr) (cl : List (PySem.Str × Addr)) (fp : List Addr), PG (X.blk s H scope (compEnvC scope cl C X.env) fp) tg g) (ht : ∀ (s : Shared) (H : Hp) (C : Addr) (cl : List (PySem.Str × Addr)) (fp : List Addr), PTs (X.blk s H scope (compEnvC scope cl C X.env) fp) ifs tt)
    (he : ∀ (s : Shared) (H : Hp) (C : Addr) (cl : List (PySem.Str × Addr)) (fp : List Addr), PE (X.blk s H scope (compEnvC scope cl C X.env) fp) elt te) (hs : ∀ x, foldedSetIterable iter X.env x = pure x)
    (h : tScK X.prog X.w wi g tt te (own.map (·.2)) σ H Q)
    (hRR : ∀ D C s' m H', Inv X pins σ H' s' → Q (.ref D) H' → s'.heap.Ns C m → FpOk X pins H' C → compPost (model X.prog X.w) X.A X.xe use Qf (.ref D) C (.ok .next) s') :
    wpAny (model X.prog X.w) X.A (comprehension (.SetComp elt [⟨tg, iter, ifs, 0⟩] scope pos) scope X.env pos' (newSet (.type "set")) false (eval iter X.env) use) Qf X.xe s := by
  have hfree : ∀ y ∈ scope.names, y.2 = .free → ∃ c, X.env.cells.lookup y.1 = some c := fun y hy e => (ok.free y hy e).elim (fun k => I.ok.has _ (.inl k)) fun k => I.ok.has _ (.inr k)
  refine wpAny_comprehension_free (use := use) rfl hs (closure_ok hfree) ok.kind (fun y hy e => by rw [ok.uniq y hy, e])
    (thn (hi.run pins s σ H _ I h) fun xv s1 hx => thn hx fun itv s2 h2 => ?_)
  obtain ⟨it, fp, tn, J, H2, e, I2, T, st2, f2, q⟩ := h2
  subst e
  refine PpSet.newSet_ok (newEnv_comp ?_)
  generalize hD : s2.heap.objs.size = D
  have hDn : H2 D = none := I2.hok.fresh (Nat.le_of_eq hD)
  obtain ⟨W, ⟨m0, w0⟩, turn⟩ := q D hDn
  generalize hH3 : upd H2 D (SetK X.prog X.w D (fun _ => false) 0) = H3 at w0
  generalize hs3 : ({ s2 with heap := s2.heap.push { cls := .type "set", dict := none, data := .set #[] 0 (.fresh 0 0 (!X.w.params.followText "set-order")) } } : Shared) = s3
  have h3 : s3.heap = s2.heap.push { cls := .type "set", dict := none, data := .set #[] 0 (.fresh 0 0 (!X.w.params.followText "set-order")) } := by rw [← hs3]
  have I3 : Inv X pins σ H3 s3 := by
    rw [← hs3, ← hH3]
    refine I2.laid (t' := s2.toks) (fun b o e => Heap.get?_push_of_some _ e) (Nat.le_of_eq hD) ?_
    rw [← hD]
    exact setK_new (setK_empty X.prog X.w s2.heap)
  have f3 : ∀ b ∈ fp, FpOk X pins H3 b ∧ b < s3.heap.objs.size := fun b hb => by
    obtain ⟨o, e, _⟩ := T.obj _ _ st2 b hb
    have hlt := Heap.lt_size e
    have n3 : H3 b = none := by
      rw [← hH3, upd_ne (by rw [← hD]; exact Nat.ne_of_lt hlt)]
      exact (f2 b hb).1
    exact ⟨⟨n3, (f2 b hb).2⟩, by rw [h3, Heap.size_push]; exact Nat.lt_succ_of_lt hlt⟩
  have st3 : tn 0 s3.heap := T.keep _ _ _ st2 fun b _ o e => by rw [h3]; exact Heap.get?_push_of_some _ e
  have I4 := block_start I3 ok hN f3
  have pg := hg s3 H3 s3.heap.objs.size (cellsFrom (s3.heap.objs.size + 1) scope.names (cloFrom X.env.cells scope.names [])) fp
  have pt := ht s3 H3 s3.heap.objs.size (cellsFrom (s3.heap.objs.size + 1) scope.names (cloFrom X.env.cells scope.names [])) fp
  have pe := he s3 H3 s3.heap.objs.size (cellsFrom (s3.heap.objs.size + 1) scope.names (cloFrom X.env.cells scope.names [])) fp
  have nfp : ∀ b ∈ fp, H3 b = none := fun b hb => (f3 b hb).1.1
  show codeAny _ _ (.compStart (.SetComp elt [⟨tg, iter, ifs, 0⟩] scope pos) 0 (.ref it) (.ref D) (compEnvC scope (cellsFrom (s3.heap.objs.size + 1) scope.names (cloFrom X.env.cells scope.names [])) s3.heap.objs.size X.env)) (compPost (model X.prog X.w) X.A X.xe use Qf (.ref D) s3.heap.objs.size) { s3 with heap := pushCells (s3.heap.push { cls := .type "dict", data := .dict #[] }) scope.names }
  generalize hce : compEnvC scope (cellsFrom (s3.heap.objs.size + 1) scope.names (cloFrom X.env.cells scope.names [])) s3.heap.objs.size X.env = ce at I4 pg pt pe ⊢
  have cL : ce.locals = s3.heap.objs.size := by rw [← hce]; rfl
  generalize hs4 : ({ s3 with heap := pushCells (s3.heap.push { cls := .type "dict", data := .dict #[] }) scope.names } : Shared) = s4 at I4 ⊢
  have st4 : tn 0 s4.heap := T.keep _ _ _ st3 fun b _ o e => by rw [← hs4]; exact pushCells_keeps _ _ _ _ (Heap.get?_push_of_some _ e)
  have stat : ∀ {σ' : L2.St} {H' : Hp} {s' : Shared}, Inv (X.blk s3 H3 scope ce fp) [] σ' H' s' → (∀ b ∈ fp, H' b = none) → ∀ b ∈ fp, FpOk (X.blk s3 H3 scope ce fp) [] H' b := fun I' hn b hb =>
    ⟨hn b hb, (I'.ok.exf b hb).1, I'.ok.exfs b hb, .inl hb, fun x c e => (I'.ok.exf b hb).2 x c e, fun p hp => absurd (show p ∈ ([] : List (Addr × Obj)) ++ [] from hp) (by simp)⟩
  have loop : codeAny (model X.prog X.w) X.A (.compLoop (.SetComp elt [⟨tg, iter, ifs, 0⟩] scope pos) 0 (.ref it) (.ref D) ce) (compPost (model X.prog X.w) X.A X.xe use Qf (.ref D) s3.heap.objs.size) s4 := by
    refine PpSet.compLoopS_any (fun n s' => ∃ i H', Inv (X.blk s3 H3 scope ce fp) [] (wipe σ (own.map (·.2))) H' s' ∧ tn i s'.heap ∧ (∀ b ∈ fp, H' b = none) ∧ W i n H') ?_ m0 ⟨0, H3, I4, st4, nfp, w0⟩
    rintro n s5 ⟨i, H5, I5, st5, n5, w5⟩
    rcases turn i n H5 w5 with ⟨stop, qq⟩ | ⟨go, Nx, hNx, step⟩
    · refine thnF (T.done (X.blk s3 H3 scope ce fp) rfl rfl rfl hc i [] s5 _ H5 (fun _ _ => False) I5 (stat I5 n5) st5 stop) fun r s6 ⟨hr, I6⟩ => ?_
      subst hr
      have I7 : Inv X pins σ H5 s6 := I3.call' (ch := fp) I6.os I6.base I6.hok I6.bare fun b hb => ⟨(f3 b hb).1.2.2.2.1, (f3 b hb).1.2.1, (f3 b hb).1.2.2.2.2.1, (f3 b hb).1.2.2.2.2.2⟩
      have nC : H5 s3.heap.objs.size = none := by
        rw [← cL]
        exact I6.free
      obtain ⟨m, hn, _⟩ := I6.loc
      have hn : s6.heap.Ns ce.locals m := hn
      rw [cL] at hn
      exact hRR D s3.heap.objs.size s6 m H5 I7 qq hn (I3.fpOk (Nat.le_refl _) nC)
    · refine thnF (T.item (X.blk s3 H3 scope ce fp) rfl rfl rfl hc i [] s5 _ H5 (fun _ _ => False) I5 (stat I5 n5) st5 go) fun r s6 ⟨u, hr, h6⟩ => ?_
      subst hr
      refine thnF h6 fun _ s7 ⟨x, H7, I7, r7, y7, st7, n7⟩ => ?_
      have I7' := I7.pinned (stat I7 n7) (T.obj _ _ st7)
      refine thnF (pg.run _ s7 _ H7 x u _ I7' r7 (step x H7 y7)) fun _ s8 ⟨σ8, H8, I8, hw8, q8⟩ => ?_
      refine thnF (pt.run _ s8 σ8 H8 _ I8 q8) fun b s9 ⟨H9, I9, q9⟩ => ?_
      have fin : ∀ {s' : Shared} {H' : Hp}, Inv (X.blk s3 H3 scope ce fp) ([] ++ pinsAt fp s7.heap) σ8 H' s' → Nx H' → ∃ m, m < n ∧ ∃ i H', Inv (X.blk s3 H3 scope ce fp) [] (wipe σ (own.map (·.2))) H' s' ∧ tn i s'.heap ∧ (∀ b ∈ fp, H' b = none) ∧ W i m H' := fun {s' H'} I' nx => by
        obtain ⟨m', hm, w'⟩ := hNx H' nx
        have pin' : ∀ b ∈ fp, ∀ o, s7.heap.get? b = some o → s'.heap.get? b = some o ∧ H' b = none := fun b hb o e =>
          have z := I'.pin (b, o) (List.mem_append_right _ (List.mem_append_right _ (mem_pinsAt hb e)))
          ⟨z.1, z.2.1⟩
        refine ⟨m', hm, i + 1, H', (I'.unpinned (pins := [])).weak (by rw [← hw8, wipe_length]) (fun j v e => ?_), T.keep _ _ _ st7 fun b hb o e => (pin' b hb o e).1, fun b hb => ?_, w'⟩
        · rw [← hw8] at e
          exact (wipe_some e).1
        · obtain ⟨o, e, _⟩ := T.obj _ _ st7 b hb
          exact (pin' b hb o e).2
      cases b with
      | false =>
        simp only [Bool.false_eq_true, if_false] at q9 ⊢
        exact fin I9 q9
      | true =>
        simp only [if_true] at q9 ⊢
        refine thnF (pe.run _ s9 σ8 H9 _ I9 q9) fun z s10 ⟨yv, H10, I10, r10, k, S0, n0, ey, hD10, hz10, nx⟩ => ?_
        subst ey
        exact addK_ok (X := X.blk s3 H3 scope ce fp) I10 hD10 hz10 r10 fun v s11 I11 => fin I11 nx
  exact PpSet.codeAny_compStart_set loop (T.self X.A 0 _ _ _ st4 loop)
theorem pe_scK {elt tg iter : Expr} {ifs : List Expr} {scope : Scope} {own : List (PySem.Str × Nat)} {pos : Pos} {wi : TI} {g : TG} {tt : TT} {te : TE} (hc : X.calm = true) (hN : X.N.Nodup) (hi : PI X tg iter wi) (ok : BlkOk X.N X.env.scope scope own)
    (hg : ∀ (s : Shared) (H : Hp) (C : Addr) (cl : List (PySem.Str × Addr)) (fp : List Addr), PG (X.blk s H scope (compEnvC scope cl C X.env) fp) tg g) (ht : ∀ (s : Shared) (H : Hp) (C : Addr) (cl : List (PySem.Str × Addr)) (fp : List Addr), PTs (X.blk s H scope (compEnvC scope cl C X.env) fp) ifs tt)
    (he : ∀ (s : Shared) (H : Hp) (C : Addr) (cl : List (PySem.Str × Addr)) (fp : List Addr), PE (X.blk s H scope (compEnvC scope cl C X.env) fp) elt te) (hs : ∀ x, foldedSetIterable iter X.env x = pure x := by intro _; rfl) :
    PE X (.SetComp elt [⟨tg, iter, ifs, 0⟩] scope pos) (tScK X.prog X.w wi g tt te (own.map (·.2))) := by
  refine ⟨fun pins s σ H Q I h => ?_⟩
  rw [PpSet.eval_SetComp]
  refine scK_core hc hN I hi ok hg ht he hs h fun D C s' m H' I' q hn f => ⟨m, hn, fun h'' sb => ?_⟩
  obtain ⟨f0, f1, f2, f3, f4, f5⟩ := f
  exact ⟨.ref D, H', I'.turned (t' := s'.toks) (fun b o hb e => (sb.2 b hb).trans e) f0 f1 f3 f4 f5, rfl, q⟩
/-- len of such a set -/
theorem call_lenK : CallR X (.builtin "len") (fun xs H Q => ∃ a S n, xs = [V.ref a] ∧ H a = some (SetK X.prog X.w a S n) ∧ Q (.int n) H) := by
  intro pins s σ H xs us Q I r h
  obtain ⟨a, S, n, rfl, ha, q⟩ := h
  obtain ⟨u, rfl, ru⟩ := vals1 r
  cases ru
  obtain ⟨o, es, ep, t, ho, hex, hd, _, _, hz, hf, hn⟩ := setK_get I ha
  refine call_len_set ho hex hd hf ?_ ⟨.int n, H, I.tok _, ⟨_, by rw [hn]⟩, q⟩
  have : scanBound = 4096 := rfl
  omega
end
/-! ### over a tuple that stays -/
section
variable {K : PySem.W.Frag} {P : Program} {w : World}
theorem scK_tup {a : Addr} {xs : List V} {g : TG} {tt : TT} {te : TE} {vs : List Nat} {σ : L2.St} {H1 : Hp} {D : Addr} {Qd : Hp → Prop} (Pv : Nat → Hp → Prop) (h0 : Pv 0 (upd H1 D (SetK P w D (fun _ => false) 0))) (hl : ∀ i H, i ≤ xs.length → Pv i H → SqT K H a xs)
    (hs : ∀ i x H, xs[i]? = some x → Pv i H → g x (wipe σ vs) H fun σ2 H2 => wipe σ2 vs = wipe σ vs ∧ tt σ2 H2 fun c H3 =>
      if c = true then te σ2 H3 fun y H4 => ∃ (k : Key) (S : Key → Bool) (n : Nat), y = kV k ∧ H4 D = some (SetK P w D S n) ∧ n + 1 < scanBound ∧ Pv (i + 1) (upd H4 D (SetK P w D (fun j => S j || decide (j = k)) (if S k = true then n else n + 1))) else Pv (i + 1) H3) (hd : ∀ H, Pv xs.length H → Qd H) :
    ∃ W : Nat → Nat → Hp → Prop, (∃ m, W 0 m (upd H1 D (SetK P w D (fun _ => false) 0))) ∧ ∀ i m H, W i m H →
      ((Itt K a).stop i H ∧ Qd H) ∨ ((Itt K a).go i H ∧ ∃ Nx : Hp → Prop, (∀ H', Nx H' → ∃ m', m' < m ∧ W (i + 1) m' H') ∧ ∀ x H', (Itt K a).yld i H x H' → g x (wipe σ vs) H' fun σ2 H2 => wipe σ2 vs = wipe σ vs ∧ tt σ2 H2 fun c H3 =>
        if c = true then te σ2 H3 fun y H4 => ∃ (k : Key) (S : Key → Bool) (n : Nat), y = kV k ∧ H4 D = some (SetK P w D S n) ∧ n + 1 < scanBound ∧ Nx (upd H4 D (SetK P w D (fun j => S j || decide (j = k)) (if S k = true then n else n + 1))) else Nx H3) := by
  refine ⟨fun i m H => m = xs.length - i ∧ i ≤ xs.length ∧ Pv i H, ⟨xs.length, by simp, Nat.zero_le _, h0⟩, ?_⟩
  rintro i m H ⟨rfl, hi, p⟩
  have q := hl i H hi p
  by_cases hlt : i < xs.length
  · exact .inr ⟨⟨xs, xs[i], q, by simp [hlt]⟩, Pv (i + 1), fun H' p' => ⟨xs.length - (i + 1), by omega, rfl, hlt, p'⟩, fun x H' ⟨e, y⟩ => by
      subst e
      exact hs i x _ (y xs q) p⟩
  · have e : i = xs.length := by omega
    subst e
    exact .inl ⟨⟨xs, q, Nat.le_refl _⟩, hd H p⟩
theorem dcT_tup {a : Addr} {xs : List V} {g : TG} {tt : TT} {tk tv : TE} {vs : List Nat} {σ : L2.St} {H1 : Hp} {D : Addr} {Qd : Hp → Prop} (Pv : Nat → Hp → Prop) (h0 : Pv 0 (upd H1 D (.dT []))) (hl : ∀ i H, i ≤ xs.length → Pv i H → SqT K H a xs)
    (hs : ∀ i x H, xs[i]? = some x → Pv i H → g x (wipe σ vs) H fun σ2 H2 => wipe σ2 vs = wipe σ vs ∧ tt σ2 H2 fun c H3 =>
      if c = true then tk σ2 H3 fun y H4 => tv σ2 H4 fun z H5 => ∃ (kvs : List (List Key × V)) (ks : List Key) (b : Addr), y = .ref b ∧ H5 b = some (.tup (ks.map kV)) ∧ H5 D = some (.dT kvs) ∧ kvs.length < sizeLine ∧ Pv (i + 1) (upd H5 D (.dT (putK kvs ks z))) else Pv (i + 1) H3) (hd : ∀ H, Pv xs.length H → Qd H) :
    ∃ W : Nat → Nat → Hp → Prop, (∃ m, W 0 m (upd H1 D (.dT []))) ∧ ∀ i m H, W i m H →
      ((Itt K a).stop i H ∧ Qd H) ∨ ((Itt K a).go i H ∧ ∃ Nx : Hp → Prop, (∀ H', Nx H' → ∃ m', m' < m ∧ W (i + 1) m' H') ∧ ∀ x H', (Itt K a).yld i H x H' → g x (wipe σ vs) H' fun σ2 H2 => wipe σ2 vs = wipe σ vs ∧ tt σ2 H2 fun c H3 =>
        if c = true then tk σ2 H3 fun y H4 => tv σ2 H4 fun z H5 => ∃ (kvs : List (List Key × V)) (ks : List Key) (b : Addr), y = .ref b ∧ H5 b = some (.tup (ks.map kV)) ∧ H5 D = some (.dT kvs) ∧ kvs.length < sizeLine ∧ Nx (upd H5 D (.dT (putK kvs ks z))) else Nx H3) := by
  refine ⟨fun i m H => m = xs.length - i ∧ i ≤ xs.length ∧ Pv i H, ⟨xs.length, by simp, Nat.zero_le _, h0⟩, ?_⟩
  rintro i m H ⟨rfl, hi, p⟩
  have q := hl i H hi p
  by_cases hlt : i < xs.length
  · exact .inr ⟨⟨xs, xs[i], q, by simp [hlt]⟩, Pv (i + 1), fun H' p' => ⟨xs.length - (i + 1), by omega, rfl, hlt, p'⟩, fun x H' ⟨e, y⟩ => by
      subst e
      exact hs i x _ (y xs q) p⟩
  · have e : i = xs.length := by omega
    subst e
    exact .inl ⟨⟨xs, q, Nat.le_refl _⟩, hd H p⟩
end
end K79R
set_option Elab.async false
set_option linter.all false
set_option maxRecDepth 100000
set_option maxHeartbeats 2000000
/-! # Rules of our own: y = {..: .. for ..}; slices, beginnings and ends of texts -/
namespace K79R
open PySem PySem.Spec PyProof.Rows L2
section
variable {X : Cx}
theorem ps_setDc {i : Nat} {y : Str} {py : Pos} {kx vx tg iter : Expr} {ifs : List Expr} {scope : Scope} {own : List (Str × Nat)} {pos spos : Pos} {wi : TI} {g : TG} {tt : TT} {tk tv : TE} (hc : X.calm = true) (hN : X.N.Nodup) (hy : X.N[i]? = some y) (hyl : X.env.scope.names.lookup y = some .local)
    (hsw : swapsWith (.DictComp kx vx [⟨tg, iter, ifs, 0⟩] scope pos) (some (.Name y py)) spos.line X.env = pure true) (hi : PI X tg iter wi) (ok : BlkOk X.N X.env.scope scope own)
    (hg : ∀ (s : Shared) (H : Hp) (C : Addr) (cl : List (Str × Addr)) (fp : List Addr), PG (X.blk s H scope (compEnvC scope cl C X.env) fp) tg g) (ht : ∀ (s : Shared) (H : Hp) (C : Addr) (cl : List (Str × Addr)) (fp : List Addr), PTs (X.blk s H scope (compEnvC scope cl C X.env) fp) ifs tt)
    (hk : ∀ (s : Shared) (H : Hp) (C : Addr) (cl : List (Str × Addr)) (fp : List Addr), PE (X.blk s H scope (compEnvC scope cl C X.env) fp) kx tk)
    (he : ∀ (s : Shared) (H : Hp) (C : Addr) (cl : List (Str × Addr)) (fp : List Addr), PE (X.blk s H scope (compEnvC scope cl C X.env) fp) vx tv) (hs : ∀ x, foldedSetIterable iter X.env x = pure x := by intro _; rfl) :
    PS X (.Assign [.Name y py] (.DictComp kx vx [⟨tg, iter, ifs, 0⟩] scope pos) spos) (tAsg (tDc wi g tt tk tv (own.map (·.2))) (gName i)) := by
  refine ⟨fun pins s σ H D I h => ?_⟩
  rw [exec_Assign_Name_used _ _ _ _ hsw]
  refine wpAny_bind (wpAny_standAt (wpAny_bind ?_))
  show wpAny _ X.A (do let _ ← comprehension (.DictComp kx vx [⟨tg, iter, ifs, 0⟩] scope pos) scope X.env (firstIterPos [⟨tg, iter, ifs, 0⟩] pos) newDict false (eval iter X.env) (some (assign (.Name y py) X.env))) _ _ s
  have h : tDc wi g tt tk tv (own.map (·.2)) σ H (fun x H1 => gName i x σ H1 D.nx) := h
  refine wpAny_bind (thn (dc_core (Qf := fun _ s' => SP X pins D .next s') hc hN I hi ok hg ht hk he hs h fun L C s' m H' I' q hn f => ?_) fun _ s' hq => wpAny_pure (wpAny_pure hq))
  show wpAny _ _ (assign (.Name y py) X.env (.ref L)) _ _ _
  refine wpAny_assign_Name (store_ok2 (v := V.ref L) I' hN hy (.inl hyl) rfl (fun s2 I2 ⟨a, sb, ha⟩ => ?_) (.inr hyl))
  obtain ⟨f0, f1, f2, f3, f4, f5⟩ := f
  have haC : C ≠ a := by
    rcases ha with z | z
    · rw [z]; exact f1
    · exact fun e => f4 y a z e.symm
  refine ⟨m, hn.sameBut sb haC, fun h3 sb3 => ?_⟩
  exact ⟨_, H', I2.turned (t' := s2.toks) (fun b o hb e => (sb3.2 b hb).trans e) f0 f1 f3 f4 f5, q⟩
theorem sw_trueD {kx vx : Expr} {gs : List Comprehension} {scope : Scope} {pos py : Pos} {y : Str} {l : Nat} {env : Env} (hk : env.scope.kind = .function) (hy : env.scope.names.lookup y = some .local) (hl : (py.line == pos.line) = true)
    (ha : (scope.names.any fun (n, k) => n == y && (k == .local || k == .cell)) = false) : swapsWith (.DictComp kx vx gs scope pos) (some (.Name y py)) l env = pure true := by
  have ky : env.kindOf y = some .local := hy
  have hb : env.blockKind = .function := by unfold Env.blockKind; rw [hk]; rfl
  unfold swapsWith
  simp only [hb, ky, ha, Expr.pos, hl]
  rfl
end
open SX PySem.Builtin.Str
theorem starts_S (a b : List Nat) : Txt.startswith (S a) (S b) = b.isPrefixOf a := by
  unfold Txt.startswith
  rw [StrLaws.subAt_eq]
  show (decide (0 + (S b).length ≤ (S a).length) && ((a.drop 0).take (S b).length == b)) = _
  rw [S_len, S_len, Nat.zero_add, List.drop_zero, Bool.eq_iff_iff, Bool.and_eq_true, decide_eq_true_iff, beq_iff_eq, List.isPrefixOf_iff_prefix, List.prefix_iff_eq_take]
  exact ⟨fun h => h.2.symm, fun h => ⟨by rw [h, List.length_take]; exact Nat.min_le_right _ _, h.symm⟩⟩
theorem ends_S (a b : List Nat) : Txt.endswith (S a) (S b) = (decide (b.length ≤ a.length) && (a.drop (a.length - b.length) == b)) := by
  unfold Txt.endswith
  rw [StrLaws.subAt_eq]
  show (decide (0 + (S b).length ≤ (S a).length) && ((a.drop ((S a).length - (S b).length)).take (S b).length == b)) = _
  rw [S_len, S_len, Nat.zero_add]
  by_cases h : b.length ≤ a.length
  · have e : (a.drop (a.length - b.length)).length = b.length := by rw [List.length_drop]; omega
    rw [List.take_of_length_le (by omega)]
  · rw [decide_eq_false h]
    rfl
theorem slice_mid {a : List Nat} {i j : Nat} (h1 : i ≤ j) (h2 : j ≤ a.length) : Txt.slice (S a) (some (i : Int)) (some (j : Int)) = S ((a.drop i).take (j - i)) := by
  have e := beq_iff_eq.mp (PyProof.Rows.slice_closesL (x := S a) (i := (i : Int)) (j := (j : Int)) (by omega) (by omega) (by rw [S_len]; omega))
  refine e.trans (TL.ext_tl ?_)
  show (a.drop (i : Int).toNat).take ((j : Int) - i).toNat = (a.drop i).take (j - i)
  rw [Int.toNat_natCast, show ((j : Int) - i).toNat = j - i by omega]
theorem joinL_nil : ∀ l : List (List Nat), TL.joinL [] l = l.flatten
  | [] => rfl
  | [p] => by simp [TL.joinL]
  | p :: q :: r => by
    show p ++ ([] ++ TL.joinL [] (q :: r)) = _
    rw [joinL_nil (q :: r)]
    rfl
theorem join_nil (l : List (List Nat)) : Txt.join (S []) (l.map S) = S l.flatten := by rw [join_S, joinL_nil]
/-- the number of turns of a range with a step -/
theorem rangeC_ok {i m c n : Nat} (hc : 1 ≤ c) (hc2 : c < 1000) (hi : i < 100000) (hm : m = c * n) (hm2 : m < 100000) : RgC (i : Int) ((i : Int) + m) (c : Int) n := by
  subst hm
  have hs : Builtin.Range.rangeSize (i : Int) ((i : Int) + ((c * n : Nat) : Int)) (c : Int) = n := by
    unfold Builtin.Range.rangeSize
    have h0 : (c : Int) > 0 := by omega
    simp only [h0, if_true]
    cases n with
    | zero => rw [if_neg (by simp)]; rfl
    | succ n =>
      have hp : (0 : Int) < ((c * (n + 1) : Nat) : Int) := by
        have : 0 < c * (n + 1) := Nat.mul_pos (by omega) (by omega)
        omega
      rw [if_pos (by omega)]
      have e : (i : Int) + ((c * (n + 1) : Nat) : Int) - i - 1 = ((c : Int) - 1) + c * n := by
        have : ((c * (n + 1) : Nat) : Int) = c * n + c := by rw [Int.natCast_mul, Int.natCast_add, Int.mul_add]; simp
        omega
      rw [e, Int.add_mul_ediv_left _ _ (by omega), Int.ediv_eq_zero_of_lt (by omega) (by omega)]
      simp
  refine ⟨by omega, by omega, ?_, hs⟩
  unfold Builtin.Range.small
  rw [hs]
  have h0 : (c : Int) > 0 := by omega
  simp only [Builtin.Range.rangeFitsLong, eq_true h0, if_true, Bool.and_eq_true, Bool.or_eq_true, decide_eq_true_eq, beq_iff_eq]
  have hn : n ≤ c * n := Nat.le_mul_of_pos_left n (by omega)
  omega
end K79R
set_option Elab.async false
set_option linter.all false
set_option maxRecDepth 100000
set_option maxHeartbeats 2000000
/-! # The program's text, by places -/
namespace K79W
open PySem PySem.Spec PyProof.Rows L2
def topS (i : Nat) : Stmt := PySem.Challenge.pw_labelhouse_k79_whole_bars_read_from_both.main.body.getD i (.Pass ⟨0, 0, 0, 0⟩)
abbrev sBadPaper : Stmt := topS 2
abbrev sInit : Stmt := inClass (topS 2) 0
abbrev sWhole : Stmt := topS 5
abbrev sRow : Stmt := topS 13
abbrev sSign : Stmt := topS 14
abbrev sPair : Stmt := topS 15
abbrev sWords : Stmt := topS 16
abbrev sNeed : Stmt := topS 17
abbrev sWordsOf : Stmt := topS 18
abbrev sNeedText : Stmt := topS 19
abbrev sBarsOf : Stmt := topS 20
abbrev sBars : Stmt := topS 21
abbrev sTextOf : Stmt := topS 22
abbrev sReading : Stmt := topS 23
abbrev sTurned : Stmt := topS 24
abbrev sPend : Stmt := topS 25
abbrev sGrown : Stmt := topS 26
abbrev sNexts : Stmt := topS 27
abbrev sIsEnd : Stmt := topS 28
abbrev sSearched : Stmt := topS 29
abbrev sPaper : Stmt := topS 30
abbrev sIsPend : Stmt := topS 31
abbrev sDoes : Stmt := topS 32
abbrev sSafe : Stmt := topS 33
abbrev sCheck : Stmt := topS 34
abbrev sMix : Stmt := topS 36
abbrev sBegun : Stmt := topS 37
abbrev sDraw : Stmt := topS 38
abbrev sBook : Stmt := topS 39
abbrev sModules : Stmt := topS 40
abbrev sTexts : Stmt := topS 41
abbrev sLReading : Stmt := topS 42
abbrev sRest : Stmt := topS 43
abbrev sFewest : Stmt := topS 44
abbrev sRefused : Stmt := topS 45
abbrev sRight : Stmt := topS 46
abbrev sLaw : Stmt := topS 47
theorem scWhole : FnScope ["thing", "least", "most"] ["thing", "least", "most"] (defScope sWhole) := ⟨rfl, rfl, rfl, by decide +kernel, rfl, by decide +kernel, by decide +kernel⟩
theorem scRow : FnScope ["thing", "least", "most", "module"] ["thing", "least", "most"] (defScope sRow) := ⟨rfl, rfl, rfl, by decide +kernel, rfl, by decide +kernel, by decide +kernel⟩
theorem scSign : FnScope ["thing"] ["thing"] (defScope sSign) := ⟨rfl, rfl, rfl, by decide +kernel, rfl, by decide +kernel, by decide +kernel⟩
theorem scPair : FnScope ["thing"] ["thing"] (defScope sPair) := ⟨rfl, rfl, rfl, by decide +kernel, rfl, by decide +kernel, by decide +kernel⟩
theorem scWords : FnScope ["thing", "one", "sign", "word"] ["thing"] (defScope sWords) := ⟨rfl, rfl, rfl, by decide +kernel, rfl, by decide +kernel, by decide +kernel⟩
theorem scNeed : FnScope ["thing"] ["thing"] (defScope sNeed) := ⟨rfl, rfl, rfl, by decide +kernel, rfl, by decide +kernel, by decide +kernel⟩
theorem scWordsOf : FnScope ["book", "sign", "word"] ["book"] (defScope sWordsOf) := ⟨rfl, rfl, rfl, by decide +kernel, rfl, by decide +kernel, by decide +kernel⟩
theorem scNeedText : FnScope ["book", "text", "sign"] ["book", "text"] (defScope sNeedText) := ⟨rfl, rfl, rfl, by decide +kernel, rfl, by decide +kernel, by decide +kernel⟩
theorem scBarsOf : FnScope ["book", "text", "words", "sign"] ["book", "text"] (defScope sBarsOf) := ⟨rfl, rfl, rfl, by decide +kernel, rfl, by decide +kernel, by decide +kernel⟩
theorem scBars : FnScope ["book", "text"] ["book", "text"] (defScope sBars) := ⟨rfl, rfl, rfl, by decide +kernel, rfl, by decide +kernel, by decide +kernel⟩
theorem scTextOf : FnScope ["book", "string", "long", "middle", "word", "known", "found", "begin", "sign"] ["book", "string"] (defScope sTextOf) := ⟨rfl, rfl, rfl, by decide +kernel, rfl, by decide +kernel, by decide +kernel⟩
theorem scReading : FnScope ["book", "string"] ["book", "string"] (defScope sReading) := ⟨rfl, rfl, rfl, by decide +kernel, rfl, by decide +kernel, by decide +kernel⟩
theorem scTurned : FnScope ["book", "text"] ["book", "text"] (defScope sTurned) := ⟨rfl, rfl, rfl, by decide +kernel, rfl, by decide +kernel, by decide +kernel⟩
theorem scPend : FnScope ["one", "other", "rest"] ["one", "other"] (defScope sPend) := ⟨rfl, rfl, rfl, by decide +kernel, rfl, by decide +kernel, by decide +kernel⟩
theorem scGrown : FnScope ["pending", "one", "other"] ["pending", "one", "other"] (defScope sGrown) := ⟨rfl, rfl, rfl, by decide +kernel, rfl, by decide +kernel, by decide +kernel⟩
theorem scNexts : FnScope ["book", "pending", "found", "sign", "word", "far", "other", "fresh"] ["book", "pending"] (defScope sNexts) := ⟨rfl, rfl, rfl, by decide +kernel, rfl, by decide +kernel, by decide +kernel⟩
theorem scIsEnd : FnScope ["book", "pending"] ["book", "pending"] (defScope sIsEnd) := ⟨rfl, rfl, rfl, by decide +kernel, rfl, by decide +kernel, by decide +kernel⟩
theorem scSearched : FnScope ["book", "first", "known", "layer", "further", "pending", "text", "fresh", "sign", "far"] ["book"] (defScope sSearched) := ⟨rfl, rfl, rfl, by decide +kernel, rfl, by decide +kernel, by decide +kernel⟩
theorem scPaper : FnScope ["book", "text", "known"] ["book"] (defScope sPaper) := ⟨rfl, rfl, rfl, by decide +kernel, rfl, by decide +kernel, by decide +kernel⟩
theorem scIsPend : FnScope ["thing", "module"] ["thing"] (defScope sIsPend) := ⟨rfl, rfl, rfl, by decide +kernel, rfl, by decide +kernel, by decide +kernel⟩
theorem scDoes : FnScope ["book", "text", "sign"] ["book", "text"] (defScope sDoes) := ⟨rfl, rfl, rfl, by decide +kernel, rfl, by decide +kernel, by decide +kernel⟩
theorem scSafe : FnScope ["book", "table", "pending", "first", "known", "fresh", "sign", "far", "one", "other"] ["book", "table"] (defScope sSafe) := ⟨rfl, rfl, rfl, by decide +kernel, rfl, by decide +kernel, by decide +kernel⟩
theorem scCheck : FnScope ["book", "paper", "is_good"] ["book", "paper"] (defScope sCheck) := ⟨rfl, rfl, rfl, by decide +kernel, rfl, by decide +kernel, by decide +kernel⟩
theorem scMix : FnScope ["_law_cell", "_law_spot", "_law_first", "_law_second"] ["_law_cell", "_law_spot"] (defScope sMix) := ⟨rfl, rfl, rfl, by decide +kernel, rfl, by decide +kernel, by decide +kernel⟩
theorem scBegun : FnScope ["_law_script", "_law_some", "_law_cell"] ["_law_script"] (defScope sBegun) := ⟨rfl, rfl, rfl, by decide +kernel, rfl, by decide +kernel, by decide +kernel⟩
theorem scDraw : FnScope ["_law_m", "_law_limit", "_law_spot", "_law_here", "_law_left"] ["_law_m", "_law_limit"] (defScope sDraw) := ⟨rfl, rfl, rfl, by decide +kernel, rfl, by decide +kernel, by decide +kernel⟩
theorem scBook : FnScope ["_law_m", "_law_most", "_law_wide_so", "_law_rows", "_law_some", "_law_k", "_law_ends", "_law_row", "_law_again"] ["_law_m", "_law_most"] (defScope sBook) := ⟨rfl, rfl, rfl, by decide +kernel, rfl, by decide +kernel, by decide +kernel⟩
theorem scModules : FnScope ["_law_book_so", "_law_text", "_law_sign"] ["_law_book_so", "_law_text"] (defScope sModules) := ⟨rfl, rfl, rfl, by decide +kernel, rfl, by decide +kernel, by decide +kernel⟩
theorem scTexts : FnScope ["_law_book_so", "_law_many", "_law_found", "_law_k", "_law_longer", "_law_text", "_law_pair"] ["_law_book_so", "_law_many"] (defScope sTexts) := ⟨rfl, rfl, rfl, by decide +kernel, rfl, by decide +kernel, by decide +kernel⟩
theorem scLReading : FnScope ["_law_book_so", "_law_row", "_law_first", "_law_last", "_law_wide_so", "_law_inner", "_law_found", "_law_k", "_law_some", "_law_pair"] ["_law_book_so", "_law_row"] (defScope sLReading) := ⟨rfl, rfl, rfl, by decide +kernel, rfl, by decide +kernel, by decide +kernel⟩
theorem scRest : FnScope ["_law_one", "_law_other"] ["_law_one", "_law_other"] (defScope sRest) := ⟨rfl, rfl, rfl, by decide +kernel, rfl, by decide +kernel, by decide +kernel⟩
theorem scFewest : FnScope ["_law_book_so", "_law_begin", "_law_layer", "_law_known", "_law_many", "_law_further", "_law_one", "_law_other", "_law_pair", "_law_far", "_law_rest_here"] ["_law_book_so"] (defScope sFewest) := ⟨rfl, rfl, rfl, by decide +kernel, rfl, by decide +kernel, by decide +kernel⟩
theorem scRefused : FnScope ["_law_book_so", "_law_paper", "_law_part", "_law_found", "e"] ["_law_book_so", "_law_paper"] (defScope sRefused) := ⟨rfl, rfl, rfl, by decide +kernel, rfl, by decide +kernel, by decide +kernel⟩
theorem scRight : FnScope ["_law_book_so", "_law_due", "_law_said", "_law_many", "_law_text", "_law_row", "_law_far"] ["_law_book_so"] (defScope sRight) := ⟨rfl, rfl, rfl, by decide +kernel, rfl, by decide +kernel, by decide +kernel⟩
theorem scLaw : FnScope ["_law_script", "_law_m", "_law_turn", "_law_safe_so"] ["_law_script"] (defScope sLaw) := ⟨rfl, rfl, rfl, by decide +kernel, rfl, by decide +kernel, by decide +kernel⟩
end K79W
set_option Elab.async false
set_option linter.all false
set_option maxRecDepth 100000
set_option maxHeartbeats 4000000
/-! # BadPaper: an own error whose __init__ calls super().__init__ and stores a field -/
namespace PySem
namespace BpX
open PySem.W PySem.Calls PyProof.Rows PySem.HandSPX
/-- what the written part says of BadPaper, at C, and of its __init__, at fI -/
structure BpTxt (P : Program) (K : Frag) (mg : Str → Option Value) (C fI : Addr) : Prop where
  gC : mg "BadPaper" = some (.ref C)
  cls : ∃ nm q N bs bm sn sub ab col dd k0 k1 k2 k3 k5, K.lookup C = some (excClassObj nm q C N bs bm true sn sub ab col dd k0 k1 k2 k3 k5 "ValueError.__new__") ∧ refsVE bm = true
  sa : findIn K (.ref C) "__setattr__" = some (some (.builtin "object.__setattr__"))
  ga : findIn K (.ref C) "__getattribute__" = some (some (.builtin "BaseException.__getattribute__"))
  gg : findIn K (.ref C) "__getattr__" = some none
  noN : findIn K (.ref C) "part" = some none
  iC : findIn K (.ref C) "__init__" = some (some (.ref fI))
  tC : typeIn K (.ref fI) = some (.type "function")
  kC : keepIn K (.ref C) = true
  exC : subIn K (.ref C) (.type "BaseException") = some true
  veC : subIn K (.ref C) (.type "ValueError") = some true
  tyC : typeIn K (.ref C) = some (.type "type")
  hdC : hasDictIn K C = true
  te : exmOne K (.ref C) (.ref C) = some true
  su : nsIn K mainGlobals "super" = some none
  th : nsIn K cStatics "thirdparty.any" = some none
  al : ks_superIn K C C "__init__" = some (some (.builtin "ValueError.__init__"))
  ss : mroIn K C (.ref C) = some true
  fn : ∃ (oc : Value) (od : Option Addr) (kV doc pm : Value) (an : Option Addr) (cda cc : Addr) (ct : Value) (osl : Array (Option Value)),
    K.lookup fI = some ⟨oc, od, .func (ksFn "__init__" "BadPaper.__init__" (L2.defArgs K79W.sInit) (L2.defBody K79W.sInit) (L2.defScope K79W.sInit) .none kV doc pm an (.ref cda) ct cc), osl⟩ ∧ codeIn K (.ref cda) "BadPaper.__init__" = true ∧
    (∃ ccl cdd vs ccs file tf, K.lookup cda = some ⟨ccl, cdd, .fields vs, ccs⟩ ∧ vs[2]? = some (.str file tf) ∧ ((P.main.file : Str) == file) = true) ∧ ∃ cl cld csl, K.lookup cc = some ⟨cl, cld, .cell (some (.ref C)), csl⟩
  top : (P.main.scope.names.lookup ("super" : Str)).isSome = false
theorem init_nocell : ∀ y ∈ (L2.defScope K79W.sInit).names, y.2 ≠ NameKind.cell := by decide +kernel
theorem init_self : (L2.defScope K79W.sInit).names.lookup ("self" : Str) = some .local := by decide +kernel
theorem init_part : (L2.defScope K79W.sInit).names.lookup ("part" : Str) = some .local := by decide +kernel
/-- what __init__ leaves of a fresh exception at x -/
structure InitEnd (h h' : Heap) (x C dx t1 : Addr) (v : Value) : Prop where
  keep : ∀ b o, b ≠ x → h.get? b = some o → h'.get? b = some o
  obj : h'.get? x = some { cls := .ref C, dict := some dx, data := .fields #[.ref t1, .none, .none, .none, .bool false, .none] }
  dbig : h.objs.size ≤ dx
  dne : dx ≠ x
  ns : h'.Ns1 dx (fun y => if y = "part" then some v else none)
section
variable {P : Program} {w : World} {A : Around} {E : Value → Shared → Prop} {R : Result → Shared → Prop} {s : Shared} {K : Frag} {mg : Str → Option Value} {C fI : Addr}
/-- super().__init__(..) called, over the heap alone -/
theorem sup_call {h : Heap} {g : Array GenState} {d : Drawn} {t : Nat} {os : OsState} {u x t0 : Addr} {rest : List Value} {Q : Value → Shared → Prop} {nm q : Str} {N : Addr} {bs bm : List Value} {sn : List Str} {sub : List Value} {ab : Bool} {col : Option Bool} {dd : Option Addr} {k0 k1 k2 k3 k5 : Option Value}
    (hC : h.get? C = some (excClassObj nm q C N bs bm true sn sub ab col dd k0 k1 k2 k3 k5 "ValueError.__new__")) (hx : h.get? x = some (excO C t0)) (hu : h.get? u = some (kxs_mw "ValueError.__init__" x)) (hz : rest.length ≤ sizeLine)
    (hq : ∀ h' t1, (∀ b o, b ≠ x → h.get? b = some o → h'.get? b = some o) → h'.get? x = some (excO C t1) → Q .none ⟨h', g, d, t, os⟩) :
    wpAny (model P w) A (call (.ref u) rest) Q E ⟨h, g, d, t, os⟩ := by
  have FB := F.excBase_ValueError
  refine wpAny_call (codeAny_of_tree ?_)
  show wpAny _ A.in1 (callAny (.ref u) ⟨rest, []⟩) _ _ _
  simp only [callAny]
  refine wpAny_bind (wpAny_load hu ?_)
  simp only [kxs_mw, show (Value.type "method-wrapper" == Value.type "method" || Value.type "method-wrapper" == Value.type "builtin_function_or_method" || Value.type "method-wrapper" == Value.type "method-wrapper") = true by decide, if_true]
  refine KFB.if_so (by decide) ?_
  refine wpAny_bind (check_bound_init FB.toExcCallFacts hC hx rfl ?_)
  refine wpAny_bind (wpAny_pure (wpAny_pure ?_))
  refine ⟨plainId_quiet FB.init.plain _, codeAny_builtin FB.initEntry ?_⟩
  exact exc_init_tree (cls := .ref C) (t0 := t0) (dv := none) (c2 := .none) (c3 := .none) (b4 := .bool false) hx hz fun h' k e _ => hq h' _ k e
theorem bp_init (T : BpTxt P K mg C fI) {x t0 : Addr} {v : Value} (X : K.In s.heap) (hg : s.heap.Ns mainGlobals mg) (hb : ∃ mb, s.heap.Ns builtinsNs mb ∧ ∀ y : Str, y ≠ "__name__" → mb y = bootBuiltins y) (hm0 : mg "super" = none)
    (hlim : s.heap.NoLimit) (hx : s.heap.get? x = some (excO C t0)) (hnx : K.lookup x = none) (hgx : x ≠ mainGlobals) (hroom : A.depth < recursionLimit)
    (hq : ∀ h' tk dx t1, InitEnd s.heap h' x C dx t1 v → R (.ok (.ret .none)) { s with heap := h', toks := tk }) :
    codeAny (model P w) A (.call (.ref fI) ⟨[.ref x, v], []⟩) R s := by
  obtain ⟨oc, od, kV, doc, pm, an, cda, cc, ct, osl, ho, hcd, ⟨ccl, cdd, vs, ccs, file, tf, hcode, hvs, hfile⟩, cl, cld, csl, hcell⟩ := T.fn
  obtain ⟨nm, q, N, bs, bm, sn, sub, ab, col, dd, k0, k1, k2, k3, k5, hC, hbm⟩ := T.cls
  have hcl : clsIn K C = some { name := nm, bases := bs, mro := .ref C :: bm, ns := N, qualname := q, hasDict := true, slotNames := sn, subclasses := sub, abstract := ab, collection := col, hasDel := false } := by unfold clsIn; rw [hC] <;> rfl
  refine ks_codeAny_call_defAt (fd := ksFn "__init__" "BadPaper.__init__" (L2.defArgs K79W.sInit) (L2.defBody K79W.sInit) (L2.defScope K79W.sInit) .none kV doc pm an (.ref cda) ct cc) (body := L2.defBody K79W.sInit) (binds := [("self", .ref x), ("part", v)]) hroom (X _ _ ho) rfl hlim (codeRec_of X hcd) rfl
    (BindsTo.of_eq (by first | rfl | with_unfolding_all rfl)) init_nocell (fun y hy => ?_) (fun h₁ hns k => ?_) rfl rfl rfl
  · rcases List.mem_cons.mp hy with rfl | hy
    · exact init_self
    · rw [List.mem_singleton.mp hy]
      exact init_part
  have hxL : s.heap.objs.size ≠ x := Nat.ne_of_gt (Heap.lt_size hx)
  have X₁ : K.In h₁ := X.keeps k
  have hx₁ := k _ _ hx
  obtain ⟨mb, hmb, hbb⟩ := hb
  -- super().__init__('..')
  show _root_.PySem.wpAt _ _ _ (execs (_ :: _ :: []) _) _ _ _
  refine ks_wpAt_execs_cons (ks_wpAt_Expr_any (ks_wpAt_MethodCall ?_))
  refine ks_wpAt_super_base (by rfl) (by rfl) (by rfl) rfl (X₁ _ _ ho) rfl rfl rfl (X₁ _ _ hcode) rfl hvs hfile T.top ?_
  refine ks_loadName_global (by rfl) (by rfl) (loadGlobal_builtin (mg := mg) (mb := mb) (hg.keeps k) hm0 (hmb.keeps k) ((hbb _ (by decide)).trans (by first | boot_by_name | rfl | decide +kernel)) ⟨rfl, ?_⟩)
  refine wpAny_loadName_free (by rfl) (by rfl) rfl ⟨_, X₁ _ _ hcell, rfl⟩ ?_
  refine wpAny_loadName_local (by rfl) (by rfl) hns (by first | rfl | with_unfolding_all rfl | kernel_rfl) ?_
  refine ks_wpAny_isType_cls (X₁ _ _ hC) rfl ⟨rfl, ?_⟩
  refine ks_wpAny_call_super (X₁ _ _ hC) rfl hx₁ rfl (fun c e => nomatch e) (looks_mroIn X₁ T.ss) (fun h₂ hso k₂ => ?_)
  have X₂ : K.In h₂ := X₁.keeps k₂
  have hx₂ := k₂ _ _ hx₁
  have hxC : x ≠ C := fun z => by
    have e := X _ _ hC
    rw [← z, hx] at e
    exact nomatch (Option.some.inj e)
  -- .__init__
  have hal := T.al
  unfold ks_superIn at hal
  rw [hcl] at hal
  have hI : Looks (model P w) h₂ (isInstance (.ref x) (.type "ValueError")) true := (show InstAt h₂ x (excO C t0) C none from ⟨hx₂, rfl, rfl, trivial⟩).type.andThen (looks_subIn X₂ T.veC)
  refine kxs_getMethod kxs_ValueError hso (looks_opaque X₂ T.th) (l₀ := .ref C :: bm) (fun A Q E s k q => wpAny_bind ((looks_clsIn X₂ hcl) A _ E s k (wpAny_pure q))) rfl X₂ hal hI hxC (by decide) ?_
  have hu₃ : (h₂.push (kxs_mw "ValueError.__init__" x)).get? h₂.objs.size = some (kxs_mw "ValueError.__init__" x) := Heap.get?_push_at rfl rfl
  have k₃ : ∀ b o, h₂.get? b = some o → (h₂.push (kxs_mw "ValueError.__init__" x)).get? b = some o := fun b o e => Heap.get?_push_of_some _ e
  refine kxs_callWith (i := "ValueError.__init__") (x := x) (by rfl) (evalArgs_plain (spliced_cons (Constant_str (k := 0) (pos := ⟨10, 25, 10, 46⟩) (spliced_nil ⟨hu₃, ?_⟩))))
  refine sup_call (X₂.keeps k₃ _ _ hC) (k₃ _ _ hx₂) hu₃ (by show 1 ≤ sizeLine; decide) fun h₄ t1 k₄ hx₄ => ?_
  -- self.part = part
  have hL : ∀ b o, b ≠ x → s.heap.get? b = some o → h₄.get? b = some o := fun b o hb e => k₄ b o hb (k₃ _ _ (k₂ _ _ (k _ _ e)))
  have X₄ : K.In h₄ := fun a o e => hL a o (fun z => by rw [z, hnx] at e; cases e) (X a o e)
  have ns₄ : h₄.Ns s.heap.objs.size (fun y => ([("self", Value.ref x), ("part", v)] : List (Str × Value)).reverse.lookup y) := by
    obtain ⟨o, es, ep, hoL, r⟩ := hns
    exact ⟨o, es, ep, k₄ _ _ hxL (k₃ _ _ (k₂ _ _ hoL)), r⟩
  have szL : s.heap.objs.size < h₄.objs.size := ns₄.lt
  show _root_.PySem.wpAt _ _ _ (execs (_ :: []) _) _ _ _
  refine wpAt_of_wpAny (wpAny_execs_cons (plainObj_wpAny_Assign_Attribute ?_))
  refine ESX.ldL ns₄ (v := v) (by first | rfl | with_unfolding_all rfl | kernel_rfl) (ESX.ldL ns₄ (v := .ref x) (by first | rfl | with_unfolding_all rfl | kernel_rfl) ?_)
  refine set_plain X₄ (ox := excO C t1) (od := none) ⟨hx₄, rfl, rfl, trivial⟩ T.sa ?_
  refine exc_osa X₄ hx₄ hcl (show refsVE (.ref C :: bm) = true from hbm) rfl T.noN (fun h₅ tk₅ dx k₅ dn dne hx₅ hn₅ => ?_)
  show wpAny _ _ (execs _ _) _ _ _
  exact wpAny_execs_nil (hq h₅ tk₅ dx t1 ⟨fun b o hb e => k₅ b o hb (hL b o hb e), hx₅, Nat.le_of_lt (Nat.lt_of_lt_of_le szL dn), dne, hn₅⟩)
/-- a made BadPaper -/
structure Made (h h' : Heap) (e C d : Addr) (v : Value) : Prop where
  keep : ∀ b o, h.get? b = some o → h'.get? b = some o
  new : h.objs.size ≤ e
  obj : ∃ oe vs, h'.get? e = some oe ∧ oe.cls = .ref C ∧ oe.dict = some d ∧ oe.data = .fields vs ∧ vs[1]? = some .none
  dbig : h.objs.size ≤ d
  dne : d ≠ e
  ns : h'.Ns1 d (fun y => if y = "part" then some v else none)
theorem bp_made (T : BpTxt P K mg C fI) {v : Value} (X : K.In s.heap) (hg : s.heap.Ns mainGlobals mg) (hb : ∃ mb, s.heap.Ns builtinsNs mb ∧ ∀ y : Str, y ≠ "__name__" → mb y = bootBuiltins y) (hm0 : mg "super" = none)
    (hlim : s.heap.NoLimit) (hroom : A.depth + 1 < recursionLimit)
    (hq : ∀ h' tk e d, Made s.heap h' e C d v → R (.ok (.ret (.ref e))) { s with heap := h', toks := tk }) :
    codeAny (model P w) A (.call (.ref C) ⟨[v], []⟩) R s := by
  obtain ⟨nm, q, N, bs, bm, sn, sub, ab, col, dd, k0, k1, k2, k3, k5, hC, hbm⟩ := T.cls
  obtain ⟨hp, g, dr, tk, os⟩ := s
  have k : ∀ b o, hp.get? b = some o → ((hp.push (kdv_tup [v])).push (excO C hp.objs.size)).get? b = some o := fun b o e => Heap.get?_push_of_some _ (Heap.get?_push_of_some _ e)
  have hget : ((hp.push (kdv_tup [v])).push (excO C hp.objs.size)).get? (hp.objs.size + 1) = some (excO C hp.objs.size) := by heap_get
  have fresh : ∀ o, hp.get? (hp.objs.size + 1) ≠ some o := fun o e => absurd (Nat.lt_of_succ_lt (Heap.lt_size e)) (Nat.lt_irrefl _)
  have hnx : K.lookup (hp.objs.size + 1) = none := by
    cases e : K.lookup (hp.objs.size + 1) with
    | none => rfl
    | some o => exact absurd (X _ _ e) (fresh o)
  have hgx : hp.objs.size + 1 ≠ mainGlobals := fun z => by
    have := hg.lt
    show False
    have h1 : mainGlobals < hp.objs.size := this
    rw [← z] at h1
    exact absurd (Nat.lt_of_succ_lt h1) (Nat.lt_irrefl _)
  obtain ⟨mb, hmb, hbb⟩ := hb
  refine call_own F.excBase_ValueError (fun X => refsVE_contains X bm hbm) (X _ _ hC) (looks_findIn X T.iC) (fun self => bind_fn X self T.tC) (by show 1 ≤ sizeLine; decide) ?_
  refine bp_init (s := ⟨(hp.push (kdv_tup [v])).push (excO C hp.objs.size), g, dr, tk, os⟩) T (X.keeps k) (hg.keeps k) ⟨mb, hmb.keeps k, hbb⟩ hm0 (hlim.keeps k) hget hnx hgx ?_ fun h' tk' dx t1 ⟨k', hx, dn, dne, hns⟩ => ?_
  · show A.depth + 1 < recursionLimit
    exact hroom
  · have old : ∀ b o, hp.get? b = some o → h'.get? b = some o := fun b o e => k' b o (Nat.ne_of_lt (Nat.lt_succ_of_lt (Heap.lt_size e))) (k b o e)
    have z : hp.objs.size + 1 + 1 ≤ dx := by
      first
        | (simpa only [Heap.size_push] using dn)
        | exact dn
    exact ⟨rfl, hq h' tk' (hp.objs.size + 1) dx ⟨old, Nat.le_succ _, ⟨_, _, hx, rfl, rfl, rfl, rfl⟩, Nat.le_trans (Nat.le_trans (Nat.le_succ _) (Nat.le_succ _)) z, dne, hns⟩⟩
end
end BpX
end PySem
namespace K79R
open PySem PySem.Spec PyProof.Rows L2
theorem relO_part {v : V} {v' : Value} (r : RelV v v') (f : PySem.Str) : RelO (List.lookup f [(("part" : PySem.Str), v)]) (if f = "part" then some v' else none) := by
  by_cases hw : f = "part"
  · subst hw
    rw [if_pos rfl]
    have q : List.lookup ("part" : PySem.Str) [(("part" : PySem.Str), v)] = some v := by simp [List.lookup]
    rw [q]
    exact r
  · rw [if_neg hw]
    have qw : (f == ("part" : PySem.Str)) = false := by simpa using hw
    have q2 : List.lookup f [(("part" : PySem.Str), v)] = none := by simp [List.lookup, qw]
    rw [q2]
    trivial
section
variable {X : Cx} {C fI : Addr}
/-- BadPaper(e) -/
def tMkBp (C : Addr) (ta : TA) : L2.St → Hp → XK → Prop := fun σ H Q => ta σ H fun vs H1 => ∃ v, vs = [v] ∧ ∀ d, H1 d = none → Q (.ref C) (some d) (upd H1 d (.xd [(("part" : PySem.Str), v)]))
theorem pmk_bp {a : Expr} {ta : TA} {p pos : Pos} {k : Nat} (T : PySem.BpX.BpTxt X.prog X.K X.mg C fI) (hm0 : X.mg "super" = none) (hr : Room k X.A) (ha : PA X [a] ta) (hg : Gl X "BadPaper" := by rfl)
    (he : starEach (a :: []) X.env = (false, eval a X.env) :: starEach [] X.env := by rfl) (hpl : (backTo pos (starEach [] X.env)).any (·.1) = false := by rfl) :
    PMk X (.Call (.Name "BadPaper" p) [a] [] pos) (tMkBp C ta) := by
  intro pins s σ H Q I h
  refine wpAny_Call_Name_kw (ld_glob I hg T.gC ?_)
  refine PySem.W.callWith_K (h₀ := X.base) I.ok.mod.kin T.kC (thn (ha.run pos pins s σ H _ I h) fun us s1 hh => ?_) he hpl
  obtain ⟨vs, H1, I1, r1, v, ev, q1⟩ := hh
  subst ev
  refine ⟨I1.kIn, ?_⟩
  cases r1 with
  | cons rv rn =>
    rename_i v' us'
    cases rn
    show wpAny _ _ (call (.ref C) [v']) _ _ _
    have hlim := I1.nolimit
    have hgl : s1.heap.Ns mainGlobals X.mg := I1.mod.glob.keeps I1.bk
    have hbl : ∃ mb, s1.heap.Ns builtinsNs mb ∧ ∀ y : PySem.Str, y ≠ "__name__" → mb y = bootBuiltins y := by
      obtain ⟨mb, h1, h2⟩ := I1.mod.blt
      exact ⟨mb, h1.keeps I1.bk, h2⟩
    obtain ⟨hp, g, dr, tk, os⟩ := s1
    refine wpAny_call (PySem.BpX.bp_made T I1.kIn hgl hbl hm0 hlim (by have := hr.dp; omega) fun h' tk' e d M => ?_)
    show MkP X pins σ Q (.ref e) ⟨h', g, dr, tk', os⟩
    obtain ⟨oe, fv, hoe, hc, hd, hdat, h1⟩ := M.obj
    have hns := M.ns
    obtain ⟨G', g1, g2⟩ := restrict h' fun b => decide (b ≠ e)
    have gk : ∀ b, b ≠ e → G'.get? b = h'.get? b := fun b hb => g1 b (decide_eq_true hb)
    have ge : G'.get? e = none := g2 e (by simp)
    have old : ∀ b o, hp.get? b = some o → G'.get? b = some o := fun b o q => (gk b (Nat.ne_of_lt (Nat.lt_of_lt_of_le (Heap.lt_size q) M.new))).trans (M.keep b o q)
    have ob : ObjOk X.prog X.w (upd H1 d (.xd [(("part" : PySem.Str), v)])) G' d (.xd [(("part" : PySem.Str), v)]) :=
      ⟨_, hns.at (fun o q => (gk d M.dne).trans q), fun f => relO_part rv f⟩
    have J : Inv X pins σ (upd H1 d (.xd [(("part" : PySem.Str), v)])) ⟨G', g, dr, tk', os⟩ := I1.laid (t' := tk') old M.dbig ob
    refine ⟨e, oe, fv, ⟨G', g, dr, tk', os⟩, _, .ref C, some d, rfl, J, fun b o q => ?_, ge, hoe, ⟨hc, hd⟩, hdat, h1, ?_, rfl, I1.bare, raises_own T.exC T.tyC, q1 d (I1.hok.fresh M.dbig)⟩
    · by_cases hb : b = e
      · have q' : G'.get? b = some o := q
        rw [hb, ge] at q'
        cases q'
      · exact (gk b hb).symm.trans q
    · rw [upd_ne (Ne.symm M.dne)]
      exact I1.hok.fresh M.new
/-- raise BadPaper(e) -/
def tRaiseBp (C : Addr) (W : WX) (ta : TA) : TS := fun _ σ H => tMkBp C ta σ H fun cls d H' => W cls d σ H'
theorem ps_raiseBp {a : Expr} {ta : TA} {W : WX} {p pos pos2 : Pos} {k : Nat} (hc : X.calm = true) (T : PySem.BpX.BpTxt X.prog X.K X.mg C fI) (hm0 : X.mg "super" = none) (hr : Room k X.A) (tk : Takes X W) (ha : PA X [a] ta) (hg : Gl X "BadPaper" := by rfl)
    (he : starEach (a :: []) X.env = (false, eval a X.env) :: starEach [] X.env := by rfl) (hpl : (backTo pos (starEach [] X.env)).any (·.1) = false := by rfl) :
    PS X (.Raise (some (.Call (.Name "BadPaper" p) [a] [] pos)) none pos2) (tRaiseBp C W ta) := ps_raise hc tk (pmk_bp T hm0 hr ha hg he hpl)
/-- e.part, e the exception that the suite holds -/
def tPart1 (C : Addr) (a : Addr) (cls : Value) (d : Option Addr) (te : TE) : TE := fun σ H Q => te σ H fun x H1 => x = .ref a ∧ cls = .ref C ∧ ∃ (dd : Addr) (v : V), d = some dd ∧ H1 dd = some (.xd [(("part" : PySem.Str), v)]) ∧ Q v H1
theorem pe_part {a : Addr} {oe : Obj} {cls : Value} {d : Option Addr} {pn : List (Addr × Obj)} {e : Expr} {te : TE} {pos : Pos} (T : PySem.BpX.BpTxt X.prog X.K X.mg C fI) (hz : Zc cls d oe) (hf : ∃ vs, oe.data = .fields vs) (he : PE (X.suite a ((a, oe) :: pn)) e te)
    (hb : attributeBase e "part" X.env (eval e X.env) = eval e X.env := by rfl) :
    PE (X.suite a ((a, oe) :: pn)) (.Attribute e "part" pos) (tPart1 C a cls d te) := by
  refine ⟨fun pins s σ H Q I h => ?_⟩
  refine attr_of hb (thn (he.run pins s σ H _ I h) fun u s1 hh => ?_)
  obtain ⟨x, H1, I1, rx, ex, ec, dd, v, ed, ea, q⟩ := hh
  subst ex
  obtain rfl : u = Value.ref a := rx
  subst ec
  subst ed
  obtain ⟨ha, _⟩ := I1.pin (a, oe) (List.mem_append_left _ List.mem_cons_self)
  obtain ⟨vs, hd⟩ := hf
  have hx : ObjOk X.prog X.w H1 s1.heap dd (.xd [(("part" : PySem.Str), v)]) := I1.hok dd _ ea
  obtain ⟨mA, hns, hr⟩ := hx
  obtain ⟨od, ho, hl⟩ := lookIn_ns hns
  have l : List.lookup ("part" : PySem.Str) [(("part" : PySem.Str), v)] = some v := by simp [List.lookup]
  obtain ⟨u, hu, ru⟩ := RelO.some_of (v := v) (o := mA "part") (by rw [← l]; exact hr "part")
  have J : PySem.W.InstAt s1.heap a oe C (some od) := ⟨ha, hz.1, by unfold PySem.W.notCls; rw [hd] <;> rfl, by rw [hz.2]; exact ho⟩
  exact HandSPX.exc_get I1.kIn J T.ga T.gg T.exC (PySem.W.findObj_own T.hdC T.noN rfl (by rw [hl, hu])) (handed_of ru) ⟨v, H1, I1.tok _, ru, q⟩
end
end K79R
set_option Elab.async false
set_option linter.all false
set_option maxRecDepth 100000
set_option maxHeartbeats 2000000
/-! # Helpers: heaps, books in the heap, comprehensions -/
namespace K79W
open PySem PySem.Spec PyProof.Rows L2 SX
theorem same_upd {H : Hp} {p : Addr} {o : HO} (h : H p = none) : Same H (upd H p o) := fun b x e => by
  rw [upd_ne (ne_of_none e h)]
  exact e
theorem same_upd' {H H1 : Hp} {p : Addr} {o : HO} (h : H p = none) (s : Same H H1) : Same H (upd H1 p o) := fun b x e => by
  rw [upd_ne (ne_of_none e h)]
  exact s b x e
theorem small_of {n : Nat} (h : n ≤ 1000) : n ≤ sizeLine := Nat.le_of_lt (small1000 h)
/-- a book in the heap -/
def WdAt (H : Hp) (r : Addr) (p : K79.Wd) : Prop := H r = some (.tup [.str (S [p.1]), .str (S p.2)])
structure WsR (H : Hp) (w : Addr) (rs : List Addr) (ws : List K79.Wd) : Prop where
  tup : H w = some (.tup (rs.map V.ref))
  len : rs.length = ws.length
  wd : ∀ (i : Nat) (p : K79.Wd), ws[i]? = some p → ∃ r : Addr, rs[i]? = some r ∧ WdAt H r p
theorem WsR.same {H H' : Hp} {w : Addr} {rs : List Addr} {ws : List K79.Wd} (h : WsR H w rs ws) (s : Same H H') : WsR H' w rs ws :=
  ⟨s _ _ h.tup, h.len, fun i p e => by obtain ⟨r, a1, a2⟩ := h.wd i p e; exact ⟨r, a1, s _ _ a2⟩⟩
theorem WsR.lenV {H : Hp} {w : Addr} {rs : List Addr} {ws : List K79.Wd} (h : WsR H w rs ws) : (rs.map V.ref).length = ws.length := by rw [List.length_map, h.len]
theorem WsR.at {H : Hp} {w : Addr} {rs : List Addr} {ws : List K79.Wd} (h : WsR H w rs ws) {i : Nat} {x : V} (e : (rs.map V.ref)[i]? = some x) : ∃ r p, x = .ref r ∧ ws[i]? = some p ∧ p ∈ ws ∧ WdAt H r p := by
  have hi : i < ws.length := by rw [← h.lenV]; exact (List.getElem?_eq_some_iff.mp e).1
  obtain ⟨r, e1, e2⟩ := h.wd i _ (List.getElem?_eq_getElem hi)
  refine ⟨r, _, ?_, List.getElem?_eq_getElem hi, List.getElem_mem hi, e2⟩
  rw [List.getElem?_map, e1] at e
  exact (Option.some.inj e).symm
def BkAt (H : Hp) (a : Addr) (b : K79.Bk) : Prop := ∃ (w : Addr) (rs : List Addr), H a = some (.tup [.str (S b.start), .str (S b.stop), .ref w]) ∧ WsR H w rs b.ws
theorem BkAt.same {H H' : Hp} {a : Addr} {b : K79.Bk} (h : BkAt H a b) (s : Same H H') : BkAt H' a b := by
  obtain ⟨w, rs, h1, h2⟩ := h
  exact ⟨w, rs, s _ _ h1, h2.same s⟩
/-- the dicts of a book -/
def dict (kf : K79.Wd → Str) (vf : K79.Wd → V) (ws : List K79.Wd) : List (Key × V) := ws.map fun p => (.inr (kf p), vf p)
abbrev wdict : List K79.Wd → List (Key × V) := dict (fun p => S [p.1]) (fun p => .str (S p.2))
abbrev kdict : List K79.Wd → List (Key × V) := dict (fun p => S p.2) (fun p => .str (S [p.1]))
theorem val_dict (kf : K79.Wd → Str) (vf : K79.Wd → V) (ws : List K79.Wd) (x : Str) : valV (dict kf vf ws) (.inr x) = (ws.find? fun p => decide (kf p = x)).map vf := by
  unfold valV dict
  rw [List.find?_map, Option.map_map]
  congr 1
  congr 1
  funext p
  simp
theorem val_word (ws : List K79.Wd) (s : Nat) : valV (wdict ws) (.inr (S [s])) = (ws.find? fun p => p.1 == s).map fun p => .str (S p.2) := by
  rw [val_dict]
  congr 2
  funext p
  rw [Bool.eq_iff_iff, decide_eq_true_iff, beq_iff_eq]
  exact ⟨fun h => (List.cons.inj (S_inj h)).1, fun h => by rw [h]⟩
theorem val_look {ws : List K79.Wd} {s : Nat} (h : s ∈ ws.map (·.1)) : valV (wdict ws) (.inr (S [s])) = some (.str (S (K79.look ws s))) := by
  rw [val_word]
  unfold K79.look
  cases e : ws.find? (fun p => p.1 == s) with
  | some p => rfl
  | none =>
    rw [List.find?_eq_none] at e
    obtain ⟨p, hp, z⟩ := List.mem_map.mp h
    exact absurd (by simpa using z) (e p hp)
theorem val_known (ws : List K79.Wd) (w : List Nat) : valV (kdict ws) (.inr (S w)) = (K79.rlook ws w).map fun s => .str (S [s]) := by
  rw [val_dict]
  unfold K79.rlook
  rw [Option.map_map]
  congr 2
  funext p
  rw [Bool.eq_iff_iff, decide_eq_true_iff, beq_iff_eq]
  exact ⟨fun h => S_inj h, fun h => by rw [h]⟩
theorem dict_new {kf : K79.Wd → Str} {vf : K79.Wd → V} {ws : List K79.Wd} (nd : (ws.map kf).Nodup) {i : Nat} {p : K79.Wd} (e : ws[i]? = some p) : putK (dict kf vf (ws.take i)) (.inr (kf p)) (vf p) = dict kf vf (ws.take (i + 1)) := by
  rw [putK_new, List.take_add_one, e]
  · unfold dict
    rw [List.map_append]
    rfl
  · rw [val_dict, Option.map_eq_none_iff, List.find?_eq_none]
    intro q hq
    rw [decide_eq_true_iff]
    intro z
    obtain ⟨j, hj⟩ := List.mem_iff_getElem?.mp hq
    rw [List.getElem?_take] at hj
    by_cases hji : j < i
    · rw [if_pos hji] at hj
      have h1 : (ws.map kf)[j]? = some (kf q) := by rw [List.getElem?_map, hj]; rfl
      have h2 : (ws.map kf)[i]? = some (kf p) := by rw [List.getElem?_map, e]; rfl
      have hl : j < (ws.map kf).length := (List.getElem?_eq_some_iff.mp h1).1
      have z2 : (ws.map kf)[j]? = (ws.map kf)[i]? := by rw [h1, h2, z]
      have := (List.getElem?_inj hl nd).mp z2
      omega
    · rw [if_neg hji] at hj
      cases hj
theorem nd_S1 {ws : List K79.Wd} (h : (ws.map (·.1)).Nodup) : (ws.map fun p => S [p.1]).Nodup := by
  unfold List.Nodup at h ⊢
  rw [List.pairwise_map] at h ⊢
  exact h.imp fun n e => n (List.cons.inj (S_inj e)).1
theorem nd_S2 {ws : List K79.Wd} (h : (ws.map (·.2)).Nodup) : (ws.map fun p => S p.2).Nodup := by
  unfold List.Nodup at h ⊢
  rw [List.pairwise_map] at h ⊢
  exact h.imp fun n e => n (S_inj e)
/-- what the module holds -/
structure Tx (mg : Str → Option Value) : Prop where
  modules : ∃ u, mg "MODULES" = some u ∧ RelV (.str (S [48, 49])) u
  signs : ∃ u, mg "SIGNS" = some u ∧ RelV (.str "0123456789ABCDEFGHIJKLMNOPQRSTUVWXYZ") u
  mostM : ∃ u, mg "MOST_MODULES" = some u ∧ RelV (.int 12) u
  mostW : ∃ u, mg "MOST_WORDS" = some u ∧ RelV (.int 36) u
  turns : ∃ u, mg "TURNS" = some u ∧ RelV (.str "turns") u
  safe : ∃ u, mg "SAFE" = some u ∧ RelV (.str "safe") u
  isi : mg "isinstance" = none
  str : mg "str" = none
  int : mg "int" = none
  bool : mg "bool" = none
  tuple : mg "tuple" = none
  len : mg "len" = none
  all : mg "all" = none
  range : mg "range" = none
  sorted : mg "sorted" = none
  list : mg "list" = none
  zip : mg "zip" = none
  min : mg "min" = none
  dict : mg "dict" = none
  repr : mg "repr" = none
section
variable {K : PySem.W.Frag} {H : Hp} {Q : VK}
theorem isi_str {x : Str} (q : Q (.bl true) H) : rIsi K [.str x, .ty "str"] H Q := ⟨_, _, _, _, true, rfl, .ty "str", .base (.str _), kit_ty (by decide +kernel), q⟩
theorem isi_tup {a : Addr} {xs : List V} (h : H a = some (.tup xs)) (q : Q (.bl true) H) : rIsi K [.ref a, .ty "tuple"] H Q := ⟨_, _, _, _, true, rfl, .ty "tuple", .base (.tup h), kit_ty (by decide +kernel), q⟩
theorem isi_int {i : Int} (q : Q (.bl true) H) : rIsi K [.int i, .ty "int"] H Q := ⟨_, _, _, _, true, rfl, .ty "int", .base (.int _), kit_ty (by decide +kernel), q⟩
theorem isi_int_bool {i : Int} (q : Q (.bl false) H) : rIsi K [.int i, .ty "bool"] H Q := ⟨_, _, _, _, false, rfl, .ty "bool", .base (.int _), kit_ty (by decide +kernel), q⟩
end
/-- a comprehension whose i-th item is f i -/
theorem lc_fn {J : It} {n : Nat} {G : Hp → Prop} {Y : Nat → Hp → V → Hp → Prop} (w : Walk J n G Y) {g : TG} {te : TE} {vs : List Nat} {σ : L2.St} {H1 : Hp} {D : Addr} {Qd : Hp → Prop} (f : Nat → V) (hD : H1 D = none) (hG : ∀ H, Same H1 H → G H) (hn : n ≤ sizeLine)
    (hs : ∀ i x H H' (Nx : V → Hp → Prop), i < n → Same H1 H → Y i H x H' → (∀ H4, Same H H4 → Nx (f i) H4) → g x (wipe σ vs) H' fun σ2 H2 => wipe σ2 vs = wipe σ vs ∧ te σ2 H2 Nx)
    (hd : ∀ H, Same H1 H → H D = some (.lst ((List.range n).map f)) → Qd H) :
    ∃ W : Nat → Nat → Hp → Prop, (∃ m, W 0 m (upd H1 D (.lst []))) ∧ ∀ i m H, W i m H →
      (J.stop i H ∧ Qd H) ∨ (J.go i H ∧ ∃ Nx : Hp → Prop, (∀ H', Nx H' → ∃ m', m' < m ∧ W (i + 1) m' H') ∧ ∀ x H', J.yld i H x H' → g x (wipe σ vs) H' fun σ2 H2 => wipe σ2 vs = wipe σ vs ∧ tYes σ2 H2 fun b H3 =>
        if b = true then te σ2 H3 fun y H4 => ∃ acc, H4 D = some (.lst acc) ∧ acc.length < sizeLine ∧ Nx (upd H4 D (.lst (acc ++ [y]))) else Nx H3) := by
  refine lc_it w (fun i H => Same H1 H ∧ H D = some (.lst ((List.range i).map f))) ⟨same_upd hD, upd_same⟩ (fun i H _ p => hG H p.1) (fun i x H H' hi p y => ?_) fun H p => hd H p.1 p.2
  refine hs i x H H' _ hi p.1 y fun H4 s4 => ⟨_, s4 _ _ p.2, ?_, ?_, ?_⟩
  · rw [List.length_map, List.length_range]
    exact Nat.lt_of_lt_of_le hi hn
  · exact same_upd' hD (p.1.trans s4)
  · rw [upd_same, List.range_succ, List.map_append]
    rfl
/-- a dict comprehension over the words -/
theorem dc_words {K : PySem.W.Frag} {w : Addr} {rs : List Addr} {ws : List K79.Wd} {g : TG} {tk tv : TE} {vs : List Nat} {σ : L2.St} {H1 : Hp} {D : Addr} {Qd : Hp → Prop} (h : WsR H1 w rs ws) (hD : H1 D = none) (kf : K79.Wd → Str) (vf : K79.Wd → V) (nd : (ws.map kf).Nodup) (hn : ws.length ≤ 100)
    (hs : ∀ (r : Addr) (p : K79.Wd) (H : Hp) (Nx : V → V → Hp → Prop), p ∈ ws → WdAt H r p → Nx (.str (kf p)) (vf p) H → g (.ref r) (wipe σ vs) H fun σ2 H2 => wipe σ2 vs = wipe σ vs ∧ tk σ2 H2 fun y H4 => tv σ2 H4 fun z H5 => Nx y z H5)
    (hd : ∀ H, Same H1 H → H D = some (.dK (dict kf vf ws)) → Qd H) :
    ∃ W : Nat → Nat → Hp → Prop, (∃ m, W 0 m (upd H1 D (.dK []))) ∧ ∀ i m H, W i m H →
      ((Itt K w).stop i H ∧ Qd H) ∨ ((Itt K w).go i H ∧ ∃ Nx : Hp → Prop, (∀ H', Nx H' → ∃ m', m' < m ∧ W (i + 1) m' H') ∧ ∀ x H', (Itt K w).yld i H x H' → g x (wipe σ vs) H' fun σ2 H2 => wipe σ2 vs = wipe σ vs ∧ tYes σ2 H2 fun b H3 =>
        if b = true then tk σ2 H3 fun y H4 => tv σ2 H4 fun z H5 => ∃ kvs k, y = kV k ∧ H5 D = some (.dK kvs) ∧ kvs.length < sizeLine ∧ Nx (upd H5 D (.dK (putK kvs k z))) else Nx H3) := by
  refine dc_tup (xs := rs.map V.ref) (fun i H => Same H1 H ∧ H D = some (.dK (dict kf vf (ws.take i)))) ⟨same_upd hD, upd_same⟩ (fun i H _ q => .of (q.1 _ _ h.tup)) (fun i x H e q => ?_) fun H q => ?_
  · obtain ⟨r, p, rfl, ep, hp, hw⟩ := (h.same q.1).at e
    refine hs r p H (fun y z H5 => ∃ kvs k, y = kV k ∧ H5 D = some (.dK kvs) ∧ kvs.length < sizeLine ∧ Same H1 (upd H5 D (.dK (putK kvs k z))) ∧ (upd H5 D (.dK (putK kvs k z))) D = some (.dK (dict kf vf (ws.take (i + 1))))) hp hw ⟨_, .inr (kf p), rfl, q.2, ?_, same_upd' hD q.1, ?_⟩
    · unfold dict
      rw [List.length_map, List.length_take]
      exact small1000 (by omega)
    · rw [upd_same, dict_new nd ep]
  · rw [h.lenV] at q
    have e := q.2
    rw [List.take_length] at e
    exact hd H q.1 e
/-- the signs, or words, of a book as a set -/
theorem sc_words {P : Program} {ww : World} {K : PySem.W.Frag} {w : Addr} {rs : List Addr} {ws : List K79.Wd} {g : TG} {te : TE} {vs : List Nat} {σ : L2.St} {H1 : Hp} {D : Addr} {Qd : Hp → Prop} (h : WsR H1 w rs ws) (hD : H1 D = none) (kf : K79.Wd → Str) (nd : (ws.map kf).Nodup) (hn : ws.length ≤ 100)
    (hs : ∀ (r : Addr) (p : K79.Wd) (H : Hp) (Nx : V → Hp → Prop), p ∈ ws → WdAt H r p → Nx (.str (kf p)) H → g (.ref r) (wipe σ vs) H fun σ2 H2 => wipe σ2 vs = wipe σ vs ∧ te σ2 H2 fun y H4 => Nx y H4)
    (hd : ∀ H S, Same H1 H → H D = some (SetK P ww D S ws.length) → Qd H) :
    ∃ W : Nat → Nat → Hp → Prop, (∃ m, W 0 m (upd H1 D (SetK P ww D (fun _ => false) 0))) ∧ ∀ i m H, W i m H →
      ((Itt K w).stop i H ∧ Qd H) ∨ ((Itt K w).go i H ∧ ∃ Nx : Hp → Prop, (∀ H', Nx H' → ∃ m', m' < m ∧ W (i + 1) m' H') ∧ ∀ x H', (Itt K w).yld i H x H' → g x (wipe σ vs) H' fun σ2 H2 => wipe σ2 vs = wipe σ vs ∧ tYes σ2 H2 fun c H3 =>
        if c = true then te σ2 H3 fun y H4 => ∃ (k : Key) (S : Key → Bool) (n : Nat), y = kV k ∧ H4 D = some (SetK P ww D S n) ∧ n + 1 < scanBound ∧ Nx (upd H4 D (SetK P ww D (fun j => S j || decide (j = k)) (if S k = true then n else n + 1))) else Nx H3) := by
  refine K79R.scK_tup (xs := rs.map V.ref) (fun i H => Same H1 H ∧ ∃ S : Key → Bool, H D = some (SetK P ww D S i) ∧ ∀ j q, j < ws.length → ws[j]? = some q → S (.inr (kf q)) = true → j < i) ⟨same_upd hD, _, upd_same, fun j q _ _ e => nomatch e⟩ (fun i H _ q => .of (q.1 _ _ h.tup)) (fun i x H e q => ?_) fun H q => ?_
  · obtain ⟨r, p, rfl, ep, hp, hw⟩ := (h.same q.1).at e
    obtain ⟨q1, S, q2, q3⟩ := q
    have hi : i < ws.length := (List.getElem?_eq_some_iff.mp ep).1
    have hS : ¬ S (.inr (kf p)) = true := fun z => Nat.lt_irrefl _ (q3 i p hi ep z)
    refine hs r p H (fun y H4 => ∃ (k : Key) (S : Key → Bool) (n : Nat), y = kV k ∧ H4 D = some (SetK P ww D S n) ∧ n + 1 < scanBound ∧ Same H1 (upd H4 D (SetK P ww D (fun j => S j || decide (j = k)) (if S k = true then n else n + 1))) ∧ ∃ S' : Key → Bool, (upd H4 D (SetK P ww D (fun j => S j || decide (j = k)) (if S k = true then n else n + 1))) D = some (SetK P ww D S' (i + 1)) ∧ ∀ j q, j < ws.length → ws[j]? = some q → S' (.inr (kf q)) = true → j < i + 1) hp hw
      ⟨.inr (kf p), S, i, rfl, q2, (by have : scanBound = 4096 := rfl; omega), same_upd' hD q1, (fun j => S j || decide (j = Sum.inr (kf p))), ?_, fun j q hj eq z => ?_⟩
    · rw [upd_same, if_neg hS]
    · rw [Bool.or_eq_true, decide_eq_true_iff] at z
      rcases z with z | z
      · exact Nat.lt_succ_of_lt (q3 j q hj eq z)
      · have h1 : (ws.map kf)[j]? = some (kf q) := by rw [List.getElem?_map, eq]; rfl
        have h2 : (ws.map kf)[i]? = some (kf p) := by rw [List.getElem?_map, ep]; rfl
        have hl : j < (ws.map kf).length := (List.getElem?_eq_some_iff.mp h1).1
        have z2 : (ws.map kf)[j]? = (ws.map kf)[i]? := by rw [h1, h2, Sum.inr.inj z]
        have := (List.getElem?_inj hl nd).mp z2
        omega
  · rw [h.lenV] at q
    obtain ⟨q1, S, q2, q3⟩ := q
    exact hd H S q1 q2
theorem rng_bl (n : Nat) : ((List.range n).map fun _ => V.bl true) = (List.replicate n true).map V.bl := by
  rw [List.map_const', List.map_replicate, List.length_range]
theorem all_rep (n : Nat) : (List.replicate n true).all id = true := by
  rw [List.all_replicate]
  split <;> rfl
theorem rng_map {α : Type} (l : List α) (f : α → V) (d : α) : ((List.range l.length).map fun i => f (l.getD i d)) = l.map f := by
  apply List.ext_getElem
  · simp
  · intro i h1 h2
    simp at h1
    simp [h1]
theorem in_mods {l : List Nat} (h : K79.Mods l) {i c : Nat} (e : (S l).cps[i]? = some c) : decide (c ∈ (S [48, 49]).cps.toList) = true := by
  have e : l[i]? = some c := by simpa [S] using e
  have hc := h c (List.mem_of_getElem? e)
  apply decide_eq_true
  rcases hc with rfl | rfl
  · exact List.mem_cons_self ..
  · exact List.mem_cons_of_mem _ (List.mem_cons_self ..)
theorem S_size (l : List Nat) : (S l).cps.size = l.length := S_len l
section
variable {P : Program} {w : World} {K : PySem.W.Frag} {mg : Str → Option Value} {base : Heap}
/-- a def of the text, under its name -/
structure Df (K : PySem.W.Frag) (mg : Str → Option Value) (x : Str) (st : Stmt) (ps : List Str) : Prop where
  ex : ∃ (f : Addr) (fd : FuncData), Fun K x x st f fd ∧ mg x = some (.ref f) ∧ Binds K fd ps []
/-- a def that may be called by its name; nothing leaves it -/
structure Cl (P : Program) (w : World) (K : PySem.W.Frag) (mg : Str → Option Value) (base : Heap) (k : Nat) (x : Str) (ps : List Str) (sp : Sp) : Prop where
  ex : ∃ (f : Addr) (fd : FuncData), FnOk P w K mg base CX0 k f fd ps sp ∧ mg x = some (.ref f) ∧ PySem.W.keepIn K (.ref f) = true ∧ Binds K fd ps []
theorem cl_of {x : Str} {st : Stmt} {N ps : List Str} {k : Nat} {sp : Sp} (D : Df K mg x st ps) (S : FnScope N ps (defScope st)) (len : ∀ vs H Q E, sp vs H Q E → vs.length = ps.length)
    (hbody : ∀ (f : Addr) (cdv : Value) (A : Around) (outer : List Env) (s : Shared) (H : Hp) (vs : List V) (Q : VK) (E : XK), Room k (A.deeper (envOfC x (defScope st) s.heap.objs.size f cdv)) → sp vs H Q E →
      ∃ t, PSs (cxOf CX0 P w K mg base N x (defScope st) f cdv A outer s H E).nox (defBody st) t ∧ t { nx := fun _ H' => Q .non H', rt := Q } (start N vs) H) : Cl P w K mg base (k + 1) x ps sp := by
  obtain ⟨f, fd, F, hm, b⟩ := D.ex
  exact ⟨f, fd, F.ok S len (hbody f), hm, F.kp, b⟩
end
section
variable {X : Cx} {k j : Nat} {x : Str} {ps : List Str} {sp : Sp} {p pos : Pos} {e : Expr} {es : List Expr} {t : TA}
theorem pe_cl (c : Cl X.prog X.w X.K X.mg X.base k x ps sp) (hr : Room j X.A) (hk : k ≤ j) (hg : Gl X x) (ha : PA X (e :: es) t)
    (hdb : (x == ("__debug__" : Str)) = false := by decide) (he : starEach (e :: es) X.env = (false, eval e X.env) :: starEach es X.env := by rfl) (hpl : (backTo pos (starEach es X.env)).any (·.1) = false := by rfl) :
    PE X (.Call (.Name x p) (e :: es) [] pos) (tCall sp [] E0 t) := by
  obtain ⟨f, fd, F, hm, kp, b⟩ := c.ex
  exact pe_call F (hr.mono hk) hg hm kp b .nil pass0 ha hdb he hpl
end
end K79W
set_option Elab.async false
set_option linter.all false
set_option maxRecDepth 100000
set_option maxHeartbeats 2000000
/-! # The walks: what is a book -/
namespace K79W
open PySem PySem.Spec PyProof.Rows L2 SX
section
variable {P : Program} {w : World} {K : PySem.W.Frag} {mg : Str → Option Value} {base : Heap}
def spRow : Sp := fun vs H Q _ => ∃ (l : List Nat) (lo hi : Nat), vs = [.str (S l), .int lo, .int hi] ∧ K79.Mods l ∧ lo ≤ l.length ∧ l.length ≤ hi ∧ hi ≤ 12 ∧ ∀ H', Same H H' → Q (.bl true) H'
theorem ok_row {k : Nat} (D : Df K mg "is_row" sRow ["thing", "least", "most"]) (T : Tx mg) : Cl P w K mg base (k + 1) "is_row" ["thing", "least", "most"] spRow := by
  refine cl_of D scRow (fun vs H Q E h => ?_) (fun f cdv A outer s H vs Q E hr h => ?_)
  · obtain ⟨l, lo, hi, rfl, _⟩ := h
    rfl
  obtain ⟨l, lo, hi, rfl, hm, h1, h2, h3, q⟩ := h
  refine ⟨_, pss_cons (ps_if (PW.pt (pw_or (pt_not (pt_val (pe_callB call_isi (by rfl) T.isi (by decide +kernel) (pa_cons (pv 0) (pa_cons (pe_bltn (v := .ty "str") (by rfl) T.str (by decide +kernel) rfl) pa_nil)))))
      (pw_or1 (pt_not (pt_chain op_le op_le (pv 1) (pe_callB call_len_str (by rfl) T.len PySem.boot_len (pa_cons (pv 0) pa_nil)) (pv 2)))))) (pss_one (ps_ret pe_bl)) pss_nil)
    (pss_one (ps_ret (pe_callB (cr_all rfl) (by rfl) T.all (by decide +kernel) (pa_cons (pe_lc (own := [("module", 3)]) (g := gName 3) (tt := tYes) rfl scRow.nd (pi_str (pv 0)) (blkOk_by (own := [("module", 3)]) (N := ["thing", "least", "most", "module"]) (sc := defScope sRow) (by decide +kernel))
      (fun _ _ _ _ _ => pg_name (i := 3) scRow.nd rfl (Or.inl rfl)) (fun _ _ _ _ _ => pts_nil) (fun _ _ _ _ _ => pe_cmpR op_in_sign (pv 3) (C8.pe_gc (by rfl) T.modules) (by rfl))) pa_nil)))), ?_⟩
  refine ⟨.str (S l), rfl, _, _, _, _, true, rfl, .ty "str", .base (.str _), kit_ty (by decide +kernel), true, rfl, iteF ?_⟩
  have hz : (S l).length ≤ sizeLine := by rw [S_len]; exact small_of (by omega)
  refine ⟨.int lo, rfl, .str (S l), rfl, S l, rfl, hz, _, _, rfl, rfl, true, ?_, iteT ⟨.int hi, rfl, _, _, rfl, rfl, true, ?_, iteF ?_⟩⟩
  · rw [S_len]; exact congrArg V.bl (decide_eq_true (by omega))
  · rw [S_len]; exact congrArg V.bl (decide_eq_true (by omega))
  refine ⟨.str (S l), rfl, S l, rfl, fun C hC => lc_fn walk_str (fun _ => .bl true) hC (fun _ _ => trivial) hz (fun i x H1 H' Nx hi sm y hN => ?_) fun H1 sm hD => ?_⟩
  · obtain ⟨rfl, c, hc, rfl⟩ := y
    refine ⟨rfl, _, rfl, c, _, rfl, rfl, ?_⟩
    rw [in_mods hm hc]
    exact hN _ (Same.refl _)
  · rw [rng_bl] at hD
    refine ⟨C, _, rfl, .of hD, ?_⟩
    rw [all_rep]
    exact q H1 sm

def isSg (s : Nat) : Prop := s = 48 ∨ s = 49 ∨ s = 57 ∨ s = 65 ∨ s = 90
def spSign : Sp := fun vs H Q _ => ∃ s : Nat, vs = [.str (S [s])] ∧ isSg s ∧ Q (.bl true) H
theorem ok_sign {k : Nat} (D : Df K mg "is_sign" sSign ["thing"]) (T : Tx mg) : Cl P w K mg base (k + 1) "is_sign" ["thing"] spSign := by
  refine cl_of D scSign (fun vs H Q E h => ?_) (fun f cdv A outer s H vs Q E hr h => ?_)
  · obtain ⟨x, rfl, _⟩ := h
    rfl
  obtain ⟨x, rfl, hx, q⟩ := h
  refine ⟨_, pss_one (ps_ret (pe_and (pe_callB call_isi (by rfl) T.isi (by decide +kernel) (pa_cons (pv 0) (pa_cons (pe_bltn (v := .ty "str") (by rfl) T.str (by decide +kernel) rfl) pa_nil))) (pe_and (pe_cmpR op_eq (pe_callB call_len_str (by rfl) T.len PySem.boot_len (pa_cons (pv 0) pa_nil)) pe_int (nomark _)) (pe_one (pe_cmpR op_in_sign (pv 0) (C8.pe_gc (by rfl) T.signs) (by rfl)))))), ?_⟩
  refine ⟨.str (S [x]), rfl, _, _, _, _, true, rfl, .ty "str", .base (.str _), kit_ty (by decide +kernel), true, rfl, iteT ⟨.str (S [x]), rfl, S [x], rfl, small_of (by rw [S_len]; exact Nat.succ_le_succ (Nat.zero_le _)), rfl, true, rfl, iteT ⟨.str (S [x]), rfl, x, _, rfl, rfl, ?_⟩⟩⟩
  have e : decide (x ∈ ("0123456789ABCDEFGHIJKLMNOPQRSTUVWXYZ" : Str).cps.toList) = true := by
    rcases hx with rfl | rfl | rfl | rfl | rfl <;> decide +kernel
  rw [e]
  exact q
def spPair : Sp := fun vs H Q _ => ∃ (r : Addr) (p : K79.Wd), vs = [.ref r] ∧ WdAt H r p ∧ isSg p.1 ∧ K79.Mods p.2 ∧ 2 ≤ p.2.length ∧ p.2.length ≤ 12 ∧ ∀ H', Same H H' → Q (.bl true) H'
theorem ok_pair {k : Nat} (D : Df K mg "is_word_pair" sPair ["thing"]) (T : Tx mg) (cR : Cl P w K mg base k "is_row" ["thing", "least", "most"] spRow) (cS : Cl P w K mg base k "is_sign" ["thing"] spSign) :
    Cl P w K mg base (k + 1) "is_word_pair" ["thing"] spPair := by
  refine cl_of D scPair (fun vs H Q E h => ?_) (fun f cdv A outer s H vs Q E hr h => ?_)
  · obtain ⟨r, p, rfl, _⟩ := h
    rfl
  obtain ⟨r, p, rfl, hw, hs, hm, h2, h12, q⟩ := h
  have hw' : H r = some (.tup [.str (S [p.1]), .str (S p.2)]) := hw
  refine ⟨_, pss_cons (ps_if (PW.pt (pw_or (pt_not (pt_val (pe_callB call_isi (by rfl) T.isi (by decide +kernel) (pa_cons (pv 0) (pa_cons (pe_bltn (v := .ty "tuple") (by rfl) T.tuple (by decide +kernel) rfl) pa_nil))))) (pw_or (pt_cmpR op_ne (pe_callB call_len_seq (by rfl) T.len PySem.boot_len (pa_cons (pv 0) pa_nil)) pe_int (nomark _))
      (pw_or1 (pt_not (pt_val (pe_cl cS hr (Nat.le_refl _) (by rfl) (pa_cons (pe_ix ix_tup (pv 0) pe_int (fun _ _ => rfl)) pa_nil)))))))) (pss_one (ps_ret pe_bl)) pss_nil)
    (pss_one (ps_ret (pe_cl cR hr (Nat.le_refl _) (by rfl) (pa_cons (pe_ix ix_tup (pv 0) pe_int (fun _ _ => rfl)) (pa_cons pe_int (pa_cons (C8.pe_gc (by rfl) T.mostM) pa_nil)))))), ?_⟩
  refine ⟨.ref r, rfl, _, _, _, _, true, rfl, .ty "tuple", .base (.tup hw), kit_ty (by decide +kernel), true, rfl, iteF ⟨.ref r, rfl, r, _, rfl, .inr (.of hw'), rfl, false, rfl, iteF ?_⟩⟩
  refine ⟨.ref r, rfl, r, _, 0, _, rfl, rfl, .of hw', atI_nat (j := 0) rfl, p.1, rfl, hs, true, rfl, iteF ?_⟩
  exact ⟨.ref r, rfl, r, _, 1, _, rfl, rfl, .of hw', atI_nat (j := 1) rfl, p.2, 2, 12, rfl, hm, h2, h12, by decide, q⟩
def spWords : Sp := fun vs H Q _ => ∃ (a : Addr) (rs : List Addr) (b : K79.Bk), vs = [.ref a] ∧ WsR H a rs b.ws ∧ K79.Good b ∧ ∀ H', Same H H' → Q (.bl true) H'
theorem ok_words {k : Nat} (D : Df K mg "are_words" sWords ["thing"]) (T : Tx mg) (cP : Cl P w K mg base k "is_word_pair" ["thing"] spPair) : Cl P w K mg base (k + 1) "are_words" ["thing"] spWords := by
  refine cl_of D scWords (fun vs H Q E h => ?_) (fun f cdv A outer s H vs Q E hr h => ?_)
  · obtain ⟨r, rs, b, rfl, _⟩ := h
    rfl
  obtain ⟨a, rs, b, rfl, hw, hg, q⟩ := h
  have n2 := hg.n2
  have n4 := hg.n4
  refine ⟨_, pss_cons (ps_if (PW.pt (pw_or (pt_not (pt_val (pe_callB call_isi (by rfl) T.isi (by decide +kernel) (pa_cons (pv 0) (pa_cons (pe_bltn (v := .ty "tuple") (by rfl) T.tuple (by decide +kernel) rfl) pa_nil))))) (pw_or1 (pt_not (pt_chain op_le op_le pe_int (pe_callB call_len_seq (by rfl) T.len PySem.boot_len (pa_cons (pv 0) pa_nil)) (C8.pe_gc (by rfl) T.mostW)))))) (pss_one (ps_ret pe_bl)) pss_nil)
    (pss_cons (ps_if (pt_not (pt_val (pe_callB (cr_all rfl) (by rfl) T.all (by decide +kernel) (pa_cons (pe_lc (own := [("one", 1)]) (g := gName 1) (tt := tYes) rfl scWords.nd (pi_tup (pv 0)) (blkOk_by (own := [("one", 1)]) (N := ["thing", "one", "sign", "word"]) (sc := defScope sWords) (by decide +kernel))
      (fun _ _ _ _ _ => pg_name (i := 1) scWords.nd rfl (Or.inl rfl)) (fun _ _ _ _ _ => pts_nil) (fun _ _ _ _ _ => pe_cl cP hr (Nat.le_refl _) (by rfl) (pa_cons (pv 1) pa_nil))) pa_nil)))) (pss_one (ps_ret pe_bl)) pss_nil)
    (pss_cons (ps_if (PW.pt (pw_or (pt_cmpR op_lt (pe_callB K79R.call_lenK (by rfl) T.len PySem.boot_len (pa_cons (K79R.pe_scK (own := [("sign", 2), ("word", 3)]) (g := gTup K 2 (gCons (gName 2) (gCons (gName 3) gNil))) (tt := tYes) rfl scWords.nd (pi_tup (pv 0)) (blkOk_by (own := [("sign", 2), ("word", 3)]) (N := ["thing", "one", "sign", "word"]) (sc := defScope sWords) (by decide +kernel))
      (fun _ _ _ _ _ => pg_tup rfl (pgs_cons (pg_name (i := 2) scWords.nd rfl (Or.inl rfl)) (pgs_cons (pg_name (i := 3) scWords.nd rfl (Or.inl rfl)) pgs_nil))) (fun _ _ _ _ _ => pts_nil) (fun _ _ _ _ _ => pv 2)) pa_nil)) (pe_callB call_len_seq (by rfl) T.len PySem.boot_len (pa_cons (pv 0) pa_nil)) (nomark _))
      (pw_or1 (pt_cmpR op_lt (pe_callB K79R.call_lenK (by rfl) T.len PySem.boot_len (pa_cons (K79R.pe_scK (own := [("sign", 2), ("word", 3)]) (g := gTup K 2 (gCons (gName 2) (gCons (gName 3) gNil))) (tt := tYes) rfl scWords.nd (pi_tup (pv 0)) (blkOk_by (own := [("sign", 2), ("word", 3)]) (N := ["thing", "one", "sign", "word"]) (sc := defScope sWords) (by decide +kernel))
      (fun _ _ _ _ _ => pg_tup rfl (pgs_cons (pg_name (i := 2) scWords.nd rfl (Or.inl rfl)) (pgs_cons (pg_name (i := 3) scWords.nd rfl (Or.inl rfl)) pgs_nil))) (fun _ _ _ _ _ => pts_nil) (fun _ _ _ _ _ => pv 3)) pa_nil)) (pe_callB call_len_seq (by rfl) T.len PySem.boot_len (pa_cons (pv 0) pa_nil)) (nomark _))))) (pss_one (ps_ret pe_bl)) pss_nil)
    (pss_one (ps_ret (pe_callB (cr_all rfl) (by rfl) T.all (by decide +kernel) (pa_cons (pe_lc (own := [("sign", 2), ("word", 3)]) (g := gTup K 2 (gCons (gName 2) (gCons (gName 3) gNil))) (tt := tYes) rfl scWords.nd (pi_tup (pv 0)) (blkOk_by (own := [("sign", 2), ("word", 3)]) (N := ["thing", "one", "sign", "word"]) (sc := defScope sWords) (by decide +kernel))
      (fun _ _ _ _ _ => pg_tup rfl (pgs_cons (pg_name (i := 2) scWords.nd rfl (Or.inl rfl)) (pgs_cons (pg_name (i := 3) scWords.nd rfl (Or.inl rfl)) pgs_nil))) (fun _ _ _ _ _ => pts_nil)
      (fun _ _ _ _ _ => pe_cmpR op_eq (pe_callB call_len_str (by rfl) T.len PySem.boot_len (pa_cons (pv 3) pa_nil)) (pe_callB call_len_str (by rfl) T.len PySem.boot_len (pa_cons (pe_ix (r := rIxT K) ix_tup (pe_ix (r := rIxT K) ix_tup (pv 0) pe_int (fun _ _ => rfl)) pe_int (fun _ _ => rfl)) pa_nil)) (nomark _))) pa_nil)))))), ?_⟩
  refine ⟨.ref a, rfl, _, _, _, _, true, rfl, .ty "tuple", .base (.tup hw.tup), kit_ty (by decide +kernel), true, rfl, iteF ⟨.ref a, rfl, a, _, rfl, .inr (.of hw.tup), _, _, rfl, rfl, true, ?_, iteT ⟨_, _, rfl, rfl, true, ?_, iteF ?_⟩⟩⟩
  · rw [hw.lenV]; exact congrArg V.bl (decide_eq_true (by omega))
  · rw [hw.lenV]; exact congrArg V.bl (decide_eq_true (by omega))
  -- all are pairs
  have w3 := hg.w3
  have w2 := hg.w2
  refine ⟨.ref a, rfl, a, rfl, ⟨_, .of hw.tup⟩, fun C hC => lc_fn walk_tup (fun _ => .bl true) hC (fun H1 sm => .of (sm _ _ hw.tup)) (by rw [hw.lenV]; exact small_of (by omega)) (fun i x H1 H' Nx hi sm y hN => ?_) fun H1 sm hD => ?_⟩
  · obtain ⟨rfl, hx⟩ := y
    obtain ⟨r, p, rfl, ep, hp, hwd⟩ := (hw.same sm).at hx
    have hl := hg.wl p hp
    exact ⟨rfl, .ref r, rfl, r, p, rfl, hwd, hg.sg p hp, hg.wm p hp, by omega, by omega, fun H2 s2 => hN H2 s2⟩
  rw [rng_bl] at hD
  refine ⟨C, _, rfl, .of hD, true, by rw [all_rep], iteF ?_⟩
  have hw1 := hw.same sm
  -- as many signs, as many words
  refine ⟨.ref a, rfl, a, rfl, ⟨_, .of hw1.tup⟩, fun D1 hD1 => sc_words (P := P) (ww := w) hw1 hD1 (fun p => S [p.1]) (nd_S1 hg.nd1) (by omega) (fun r p H2 Nx hp hwd hN => ?_) fun H2 S2 s2 e2 => ?_⟩
  · exact ⟨r, _, rfl, .of hwd, rfl, _, _, rfl, _, _, rfl, rfl, rfl, _, rfl, hN⟩
  have hw2 := hw1.same s2
  refine ⟨D1, S2, _, rfl, e2, .ref a, rfl, a, _, rfl, .inr (.of hw2.tup), _, _, rfl, rfl, false, ?_, iteF ?_⟩
  · rw [hw2.lenV]; exact congrArg V.bl (decide_eq_false (by omega))
  refine ⟨.ref a, rfl, a, rfl, ⟨_, .of hw2.tup⟩, fun D3 hD3 => sc_words (P := P) (ww := w) hw2 hD3 (fun p => S p.2) (nd_S2 hg.nd2) (by omega) (fun r p H3 Nx hp hwd hN => ?_) fun H3 S3 s3 e3 => ?_⟩
  · exact ⟨r, _, rfl, .of hwd, rfl, _, _, rfl, _, _, rfl, rfl, rfl, _, rfl, hN⟩
  have hw3 := hw2.same s3
  refine ⟨D3, S3, _, rfl, e3, .ref a, rfl, a, _, rfl, .inr (.of hw3.tup), _, _, rfl, rfl, false, ?_, iteF ?_⟩
  · rw [hw3.lenV]; exact congrArg V.bl (decide_eq_false (by omega))
  -- all as long
  refine ⟨.ref a, rfl, a, rfl, ⟨_, .of hw3.tup⟩, fun C4 hC4 => lc_fn walk_tup (fun _ => .bl true) hC4 (fun H1 sm => .of (sm _ _ hw3.tup)) (by rw [hw.lenV]; exact small_of (by omega)) (fun i x H4 H' Nx hi sm4 y hN => ?_) fun H4 sm4 hD4 => ?_⟩
  · obtain ⟨rfl, hx⟩ := y
    have hw4 := hw3.same sm4
    obtain ⟨r, p, rfl, ep, hp, hwd⟩ := hw4.at hx
    have hl := hg.wl p hp
    obtain ⟨r0, e0, hwd0⟩ := hw4.wd 0 _ (List.getElem?_eq_getElem (by omega))
    have hl0 := hg.wl _ (List.getElem_mem (show 0 < b.ws.length by omega))
    have er : (rs.map V.ref)[0]? = some (.ref r0) := by rw [List.getElem?_map, e0]; rfl
    refine ⟨r, _, rfl, .of hwd, rfl, _, _, rfl, _, _, rfl, rfl, rfl, .str (S p.2), rfl, S p.2, rfl, small_of (by rw [S_len]; omega), .ref a, rfl, a, _, 0, _, rfl, rfl, .of hw4.tup, atI_nat (j := 0) er, r0, _, 1, _, rfl, rfl, .of hwd0, atI_nat (j := 1) rfl, S _, rfl, small_of (by rw [S_len]; omega), rfl, ?_⟩
    rw [S_len, S_len, hl, hl0, decide_eq_true rfl]
    exact hN _ (Same.refl _)
  rw [rng_bl] at hD4
  refine ⟨C4, _, rfl, .of hD4, ?_⟩
  rw [all_rep]
  exact q H4 (((sm.trans s2).trans s3).trans sm4)
end
end K79W
set_option Elab.async false
set_option linter.all false
set_option maxRecDepth 100000
set_option maxHeartbeats 2000000
/-! # The walks: bars and readings -/
namespace K79W
open PySem PySem.Spec PyProof.Rows L2 SX
section
variable {P : Program} {w : World} {K : PySem.W.Frag} {mg : Str → Option Value} {base : Heap}
def spWhole : Sp := fun vs H Q _ => ∃ i lo hi : Int, vs = [.int i, .int lo, .int hi] ∧ lo ≤ i ∧ i ≤ hi ∧ Q (.bl true) H
theorem ok_whole {k : Nat} (D : Df K mg "is_whole" sWhole ["thing", "least", "most"]) (T : Tx mg) : Cl P w K mg base (k + 1) "is_whole" ["thing", "least", "most"] spWhole := by
  refine cl_of D scWhole (fun vs H Q E h => ?_) (fun f cdv A outer s H vs Q E hr h => ?_)
  · obtain ⟨i, lo, hi, rfl, _⟩ := h
    rfl
  obtain ⟨i, lo, hi, rfl, h1, h2, q⟩ := h
  refine ⟨_, (pss_cons (ps_if (PW.pt (pw_or (pt_not (pt_val (pe_callB call_isi (by rfl) T.isi (by decide +kernel) (pa_cons (pv 0) (pa_cons (pe_bltn (v := .ty "int") (by rfl) T.int (by decide +kernel) rfl) pa_nil))))) (pw_or1 (pt_val (pe_callB call_isi (by rfl) T.isi (by decide +kernel) (pa_cons (pv 0) (pa_cons (pe_bltn (v := .ty "bool") (by rfl) T.bool (by decide +kernel) rfl) pa_nil))))))) (pss_one (ps_ret pe_bl)) pss_nil)
    (pss_one (ps_ret (pe_and (pe_or (pe_cmpR op_isN (pv 1) pe_non (nomark _)) (pe_one (pe_cmpR op_ge (pv 0) (pv 1) (nomark _)))) (pe_one (pe_or (pe_cmpR op_isN (pv 2) pe_non (nomark _)) (pe_one (pe_cmpR op_le (pv 0) (pv 2) (nomark _))))))))), ?_⟩
  refine ⟨.int i, rfl, _, _, _, _, true, rfl, .ty "int", .base (.int _), kit_ty (by decide +kernel), true, rfl, iteF ⟨.int i, rfl, _, _, _, _, false, rfl, .ty "bool", .base (.int _), kit_ty (by decide +kernel), false, rfl, iteF ?_⟩⟩
  refine ⟨.int lo, rfl, rfl, false, rfl, iteF ⟨.int i, rfl, .int lo, rfl, _, _, rfl, rfl, true, ?_, iteT ⟨.int hi, rfl, rfl, false, rfl, iteF ⟨.int i, rfl, .int hi, rfl, _, _, rfl, rfl, ?_⟩⟩⟩⟩
  · exact congrArg V.bl (decide_eq_true (by omega))
  · show Q (V.bl (decide (i ≤ hi))) H
    rw [decide_eq_true (by omega)]
    exact q
def spNeed : Sp := fun vs H Q _ => ∃ (a : Addr) (b : K79.Bk), vs = [.ref a] ∧ BkAt H a b ∧ K79.Good b ∧ ∀ H', Same H H' → Q (.ref a) H'
theorem ok_need {k : Nat} (D : Df K mg "need_book" sNeed ["thing"]) (T : Tx mg) (cR : Cl P w K mg base k "is_row" ["thing", "least", "most"] spRow) (cW : Cl P w K mg base k "are_words" ["thing"] spWords) : Cl P w K mg base (k + 1) "need_book" ["thing"] spNeed := by
  refine cl_of D scNeed (fun vs H Q E h => ?_) (fun f cdv A outer s H vs Q E hr h => ?_)
  · obtain ⟨a, b, rfl, _⟩ := h
    rfl
  obtain ⟨a, b, rfl, hb, hg, q⟩ := h
  obtain ⟨wa, rs, ha, hw⟩ := hb
  have h1 := hg.s1
  have h2 := hg.s4
  have h3 := hg.e1
  have h4 := hg.e4
  refine ⟨_, (pss_cons (ps_if (PW.pt (pw_or (pt_not (pt_val (pe_callB call_isi (by rfl) T.isi (by decide +kernel) (pa_cons (pv 0) (pa_cons (pe_bltn (v := .ty "tuple") (by rfl) T.tuple (by decide +kernel) rfl) pa_nil))))) (pw_or1 (pt_cmpR op_ne (pe_callB call_len_seq (by rfl) T.len PySem.boot_len (pa_cons (pv 0) pa_nil)) pe_int (nomark _))))) (pss_one ps_never) pss_nil)
    (pss_cons (ps_if (pt_not (pt_val (pe_cl cR hr (Nat.le_refl _) (by rfl) (pa_cons (pe_ix ix_tup (pv 0) pe_int (fun _ _ => rfl)) (pa_cons pe_int (pa_cons (C8.pe_gc (by rfl) T.mostM) pa_nil)))))) (pss_one ps_never) pss_nil)
    (pss_cons (ps_if (pt_not (pt_val (pe_cl cR hr (Nat.le_refl _) (by rfl) (pa_cons (pe_ix ix_tup (pv 0) pe_int (fun _ _ => rfl)) (pa_cons pe_int (pa_cons (C8.pe_gc (by rfl) T.mostM) pa_nil)))))) (pss_one ps_never) pss_nil)
    (pss_cons (ps_if (pt_not (pt_val (pe_cl cW hr (Nat.le_refl _) (by rfl) (pa_cons (pe_ix ix_tup (pv 0) pe_int (fun _ _ => rfl)) pa_nil)))) (pss_one ps_never) pss_nil)
    (pss_one (ps_ret (pv 0))))))), ?_⟩
  refine ⟨.ref a, rfl, _, _, _, _, true, rfl, .ty "tuple", .base (.tup ha), kit_ty (by decide +kernel), true, rfl, iteF ⟨.ref a, rfl, a, _, rfl, .inr (.of ha), rfl, false, rfl, iteF ?_⟩⟩
  refine ⟨.ref a, rfl, a, _, 0, _, rfl, rfl, .of ha, atI_nat (j := 0) rfl, b.start, 1, 12, rfl, hg.sm, h1, by omega, by decide, fun H1 s1 => ⟨true, rfl, iteF ?_⟩⟩
  refine ⟨.ref a, rfl, a, _, 1, _, rfl, rfl, .of (s1 _ _ ha), atI_nat (j := 1) rfl, b.stop, 1, 12, rfl, hg.em, h3, by omega, by decide, fun H2 s2 => ⟨true, rfl, iteF ?_⟩⟩
  have s3 := s1.trans s2
  refine ⟨.ref a, rfl, a, _, 2, _, rfl, rfl, .of (s3 _ _ ha), atI_nat (j := 2) rfl, wa, rs, b, rfl, hw.same s3, hg, fun H4 s4 => ⟨true, rfl, iteF ?_⟩⟩
  exact ⟨.ref a, rfl, q H4 (s3.trans s4)⟩
def spWordsOf : Sp := fun vs H Q _ => ∃ (a : Addr) (b : K79.Bk), vs = [.ref a] ∧ BkAt H a b ∧ K79.Good b ∧ ∀ H' d, Same H H' → H' d = some (.dK (wdict b.ws)) → Q (.ref d) H'
theorem ok_words_of {k : Nat} (D : Df K mg "words_of" sWordsOf ["book"]) (T : Tx mg) : Cl P w K mg base (k + 1) "words_of" ["book"] spWordsOf := by
  refine cl_of D scWordsOf (fun vs H Q E h => ?_) (fun f cdv A outer s H vs Q E hr h => ?_)
  · obtain ⟨a, b, rfl, _⟩ := h
    rfl
  obtain ⟨a, b, rfl, ⟨wa, rs, ha, hw⟩, hg, q⟩ := h
  have n4 := hg.n4
  refine ⟨_, (pss_one (ps_ret (pe_dc (own := [("sign", 1), ("word", 2)]) (g := (gTup K 2 (gCons (gName 1) (gCons (gName 2) gNil)))) (tt := tYes) rfl scWordsOf.nd (pi_tup (pe_ix ix_tup (pv 0) pe_int (fun _ _ => rfl))) (blkOk_by (own := [("sign", 1), ("word", 2)]) (N := ["book", "sign", "word"]) (sc := defScope sWordsOf) (by decide +kernel))
      (fun _ _ _ _ _ => (pg_tup rfl (pgs_cons (pg_name (i := 1) scWordsOf.nd rfl (Or.inl rfl)) (pgs_cons (pg_name (i := 2) scWordsOf.nd rfl (Or.inl rfl)) pgs_nil)))) (fun _ _ _ _ _ => pts_nil) (fun _ _ _ _ _ => (pv 1)) (fun _ _ _ _ _ => (pv 2))))), ?_⟩
  refine ⟨.ref a, rfl, a, _, 2, _, rfl, rfl, .of ha, atI_nat (j := 2) rfl, wa, rfl, ⟨_, .of hw.tup⟩, fun C hC => dc_words hw hC (fun p => S [p.1]) (fun p => .str (S p.2)) (nd_S1 hg.nd1) (by omega) (fun r p H2 Nx hp hwd hN => ?_) fun H1 s1 e1 => q H1 C s1 e1⟩
  exact ⟨r, _, rfl, .of hwd, rfl, _, _, rfl, _, _, rfl, rfl, rfl, _, rfl, _, rfl, hN⟩
theorem sgs_get {b : K79.Bk} {t : List Nat} (h : K79.Sgs b t) {i c : Nat} (e : (S t).cps[i]? = some c) : c ∈ b.ws.map (·.1) ∧ t[i]? = some c := by
  have e : t[i]? = some c := by simpa [S] using e
  exact ⟨h c (List.mem_of_getElem? e), e⟩
theorem S_ne {t : List Nat} (h : t ≠ []) : ¬ (V.str (S t) = V.str (S [])) := fun e => h (S_inj (V.str.inj e))
def spNeedText : Sp := fun vs H Q _ => ∃ (a : Addr) (b : K79.Bk) (t : List Nat), vs = [.ref a, .str (S t)] ∧ BkAt H a b ∧ K79.Good b ∧ K79.Sgs b t ∧ t ≠ [] ∧ t.length ≤ 100 ∧ ∀ H', Same H H' → Q .non H'
theorem ok_need_text {k : Nat} (D : Df K mg "need_sign_text" sNeedText ["book", "text"]) (T : Tx mg) (cW : Cl P w K mg base k "words_of" ["book"] spWordsOf) : Cl P w K mg base (k + 1) "need_sign_text" ["book", "text"] spNeedText := by
  refine cl_of D scNeedText (fun vs H Q E h => ?_) (fun f cdv A outer s H vs Q E hr h => ?_)
  · obtain ⟨a, b, t, rfl, _⟩ := h
    rfl
  obtain ⟨a, b, t, rfl, hb, hg, hs, hne, hl, q⟩ := h
  have hz : (S t).length ≤ sizeLine := by rw [S_len]; exact small_of (by omega)
  refine ⟨_, (pss_one (ps_if (PW.pt (pw_or (pt_not (pt_val (pe_callB call_isi (by rfl) T.isi (by decide +kernel) (pa_cons (pv 1) (pa_cons (pe_bltn (v := .ty "str") (by rfl) T.str (by decide +kernel) rfl) pa_nil))))) (pw_or (pt_cmpR op_eq (pv 1) pe_str (nomark _)) (pw_or1 (pt_not (pt_val (pe_callB (cr_all rfl) (by rfl) T.all (by decide +kernel) (pa_cons (pe_lc (own := [("sign", 2)]) (g := (gName 2)) (tt := tYes) rfl scNeedText.nd (pi_str (pv 1)) (blkOk_by (own := [("sign", 2)]) (N := ["book", "text", "sign"]) (sc := defScope sNeedText) (by decide +kernel))
      (fun _ _ _ _ _ => (pg_name (i := 2) scNeedText.nd rfl (Or.inl rfl))) (fun _ _ _ _ _ => pts_nil) (fun _ _ _ _ _ => (pe_cmp (pc_din (hu_of hr) (pv 2) (pe_cl cW hr (Nat.le_refl _) (by rfl) (pa_cons (pv 0) pa_nil))) rfl))) pa_nil)))))))) (pss_one ps_never) pss_nil)), ?_⟩
  refine ⟨.str (S t), rfl, _, _, _, _, true, rfl, .ty "str", .base (.str _), kit_ty (by decide +kernel), true, rfl, iteF ⟨.str (S t), rfl, rfl, false, ?_, iteF ?_⟩⟩
  · exact congrArg V.bl (decide_eq_false (S_ne hne))
  refine ⟨.str (S t), rfl, S t, rfl, fun C hC => lc_fn walk_str (fun _ => .bl true) hC (fun _ _ => trivial) hz (fun i x H1 H' Nx hi sm y hN => ?_) fun H1 sm hD => ?_⟩
  · obtain ⟨rfl, c, hc, rfl⟩ := y
    obtain ⟨hc1, hc2⟩ := sgs_get hs hc
    refine ⟨rfl, _, rfl, .ref a, rfl, a, b, rfl, hb.same sm, hg, fun H2 d s2 e2 => ⟨d, _, rfl, DGet.k (k := Sum.inr (S [c])) e2, ?_⟩⟩
    rw [val_look hc1]
    exact hN H2 s2
  · rw [rng_bl] at hD
    exact ⟨C, _, rfl, .of hD, true, by rw [all_rep], iteF (q H1 sm)⟩
theorem join_flat (b : K79.Bk) (t : List Nat) : (t.map fun s => S (K79.look b.ws s)) = (t.map (K79.look b.ws)).map S := by rw [List.map_map]; rfl
def spBarsOf : Sp := fun vs H Q _ => ∃ (a : Addr) (b : K79.Bk) (t : List Nat), vs = [.ref a, .str (S t)] ∧ BkAt H a b ∧ K79.Good b ∧ K79.Sgs b t ∧ t ≠ [] ∧ t.length ≤ 100 ∧ ∀ H', Same H H' → Q (.str (S (K79.bars b t))) H'
theorem ok_bars_of {k : Nat} (D : Df K mg "bars_of" sBarsOf ["book", "text"]) (T : Tx mg) (cW : Cl P w K mg base k "words_of" ["book"] spWordsOf) : Cl P w K mg base (k + 1) "bars_of" ["book", "text"] spBarsOf := by
  refine cl_of D scBarsOf (fun vs H Q E h => ?_) (fun f cdv A outer s H vs Q E hr h => ?_)
  · obtain ⟨a, b, t, rfl, _⟩ := h
    rfl
  obtain ⟨a, b, t, rfl, hb, hg, hs, hne, hl, q⟩ := h
  have hz : (S t).length ≤ sizeLine := by rw [S_len]; exact small_of (by omega)
  have hlen := K79.bars_len hg hs
  have h4 := hg.s4
  have h5 := hg.e4
  have h6 := hg.w3
  have h7 : t.length * K79.wide b ≤ 100 * 3 := Nat.mul_le_mul hl h6
  refine ⟨_, (pss_cons (ps_set (i := 2) scBarsOf.nd rfl (Or.inr rfl) (pe_cl cW hr (Nat.le_refl _) (by rfl) (pa_cons (pv 0) pa_nil)))
    (pss_one (ps_ret (pe_op op_add_str (pe_op op_add_str (pe_ix ix_tup (pv 0) pe_int (fun _ _ => rfl)) (pe_join pe_str (pe_lc (own := [("sign", 3)]) (g := (gName 3)) (tt := tYes) rfl scBarsOf.nd (pi_str (pv 1)) (blkOk_by (own := [("sign", 3)]) (N := ["book", "text", "words", "sign"]) (sc := defScope sBarsOf) (by decide +kernel))
      (fun _ _ _ _ _ => (pg_name (i := 3) scBarsOf.nd rfl (Or.inl rfl))) (fun _ _ _ _ _ => pts_nil) (fun _ _ _ _ _ => (pe_dget (hu_of hr) (pv 2) (pv 3) (fun _ _ => rfl)))))) (pe_ix ix_tup (pv 0) pe_int (fun _ _ => rfl)))))), ?_⟩
  refine ⟨.ref a, rfl, a, b, rfl, hb, hg, fun H1 d s1 e1 => ?_⟩
  have hb1 := hb.same s1
  obtain ⟨wa, rs, ha, hw⟩ := hb1
  refine ⟨.ref a, rfl, a, _, 0, _, rfl, rfl, .of ha, atI_nat (j := 0) rfl, ⟨_, rfl⟩, .str (S t), rfl, S t, rfl, fun C hC => lc_fn walk_str (fun i => .str (S (K79.look b.ws (t.getD i 0)))) hC (fun _ _ => trivial) hz (fun i x H2 H' Nx hi sm y hN => ?_) fun H2 sm hD => ?_⟩
  · obtain ⟨rfl, c, hc, rfl⟩ := y
    obtain ⟨hc1, hc2⟩ := sgs_get hs hc
    have hget : DGet H' d (.str (S [c])) (some (.str (S (K79.look b.ws c)))) := by
      have z := DGet.k (k := Sum.inr (S [c])) (sm _ _ e1)
      rw [val_look hc1] at z
      exact z
    refine ⟨rfl, .ref d, rfl, _, rfl, d, _, rfl, hget, ?_⟩
    have e : t.getD i 0 = c := by rw [List.getD_eq_getElem?_getD, hc2]; rfl
    rw [e] at hN
    exact hN _ (Same.refl _)
  have ea := sm _ _ ha
  rw [S_size, rng_map t (fun s => V.str (S (K79.look b.ws s))) 0] at hD
  have ed : (t.map fun s => V.str (S (K79.look b.ws s))) = (t.map fun s => S (K79.look b.ws s)).map V.str := by rw [List.map_map]; rfl
  rw [ed] at hD
  have ef : (t.map (K79.look b.ws)).flatten = K79.flat b t := by unfold K79.flat; rw [List.flatMap_def]
  have ej : Txt.join (S []) (t.map fun s => S (K79.look b.ws s)) = S (K79.flat b t) := by rw [join_flat, K79R.join_nil, ef]
  have es : ((t.map fun s => S (K79.look b.ws s)).map (·.length)).sum = (K79.flat b t).length := by rw [← ef, List.length_flatten, join_flat, lens]
  have hfl := K79.flat_len hg hs
  refine ⟨S [], C, t.map (fun s => S (K79.look b.ws s)), rfl, rfl, .inl (.of hD), ?_, S b.start, _, rfl, congrArg V.str ej, ?_, ?_⟩
  · rw [es, S_len]
    show (K79.flat b t).length + _ * 0 ≤ _
    omega
  · rw [S_len, S_len]
    exact small_of (by omega)
  refine ⟨.ref a, rfl, a, _, 1, _, rfl, rfl, .of ea, atI_nat (j := 1) rfl, S (b.start ++ K79.flat b t), S b.stop, congrArg V.str (S_cat _ _), rfl, ?_, ?_⟩
  · rw [S_len, S_len, List.length_append]
    exact small_of (by omega)
  · rw [S_cat]
    exact q H2 (s1.trans sm)
def spBars : Sp := fun vs H Q _ => ∃ (a : Addr) (b : K79.Bk) (t : List Nat), vs = [.ref a, .str (S t)] ∧ BkAt H a b ∧ K79.Good b ∧ K79.Sgs b t ∧ t ≠ [] ∧ t.length ≤ 100 ∧ ∀ H', Same H H' → Q (.str (S (K79.bars b t))) H'
theorem ok_bars {k : Nat} (D : Df K mg "bars" sBars ["book", "text"]) (T : Tx mg) (cN : Cl P w K mg base k "need_book" ["thing"] spNeed)(cT : Cl P w K mg base k "need_sign_text" ["book", "text"] spNeedText)(cB : Cl P w K mg base k "bars_of" ["book", "text"] spBarsOf) : Cl P w K mg base (k + 1) "bars" ["book", "text"] spBars := by
  refine cl_of D scBars (fun vs H Q E h => ?_) (fun f cdv A outer s H vs Q E hr h => ?_)
  · obtain ⟨a, b, t, rfl, _⟩ := h
    rfl
  obtain ⟨a, b, t, rfl, hb, hg, hs, hne, hl, q⟩ := h
  refine ⟨_, (pss_cons (ps_expr (pe_cl cT hr (Nat.le_refl _) (by rfl) (pa_cons (pe_cl cN hr (Nat.le_refl _) (by rfl) (pa_cons (pv 0) pa_nil)) (pa_cons (pv 1) pa_nil))))
    (pss_one (ps_ret (pe_cl cB hr (Nat.le_refl _) (by rfl) (pa_cons (pv 0) (pa_cons (pv 1) pa_nil)))))), ?_⟩
  refine ⟨.ref a, rfl, a, b, rfl, hb, hg, fun H1 s1 => ⟨.str (S t), rfl, a, b, t, rfl, hb.same s1, hg, hs, hne, hl, fun H2 s2 => ?_⟩⟩
  exact ⟨.ref a, rfl, .str (S t), rfl, a, b, t, rfl, hb.same (s1.trans s2), hg, hs, hne, hl, fun H3 s3 => q H3 ((s1.trans s2).trans s3)⟩
theorem sum_ones : ∀ t : List Nat, ((t.map fun s => S [s]).map (·.length)).sum = t.length
  | [] => rfl
  | s :: t => by
    rw [List.map_cons, List.map_cons, List.sum_cons, sum_ones t, List.length_cons, S_len]
    show 1 + t.length = _
    omega
theorem flat_ones : ∀ t : List Nat, (t.map fun s => [s]).flatten = t
  | [] => rfl
  | s :: t => by rw [List.map_cons, List.flatten_cons, flat_ones t]; rfl
theorem join_ones (t : List Nat) : Txt.join (S []) (t.map fun s => S [s]) = S t := by
  have e : (t.map fun s => S [s]) = (t.map fun s => [s]).map S := by rw [List.map_map]; rfl
  rw [e, K79R.join_nil, flat_ones]
theorem ones_str (t : List Nat) : (t.map fun s => V.str (S [s])) = (t.map fun s => S [s]).map V.str := by rw [List.map_map]; rfl
def spTextOf : Sp := fun vs H Q _ => ∃ (a : Addr) (b : K79.Bk) (row : List Nat), vs = [.ref a, .str (S row)] ∧ BkAt H a b ∧ K79.Good b ∧ row.length ≤ 1000 ∧ ∀ H', Same H H' → Q (K79R.optV (K79.textOf b row)) H'
theorem ok_text_of {k : Nat} (D : Df K mg "text_of" sTextOf ["book", "string"]) (T : Tx mg)  : Cl P w K mg base (k + 1) "text_of" ["book", "string"] spTextOf := by
  refine cl_of D scTextOf (fun vs H Q E h => ?_) (fun f cdv A outer s H vs Q E hr h => ?_)
  · obtain ⟨a, b, row, rfl, _⟩ := h
    rfl
  obtain ⟨a, b, row, rfl, hb, hg, hl, q⟩ := h
  have hz : (S row).length ≤ sizeLine := by rw [S_len]; exact small_of (by omega)
  obtain ⟨wa, rs, ha, hw⟩ := hb
  have n2 := hg.n2
  have n4 := hg.n4
  have h1 := hg.s1
  have h2 := hg.s4
  have h3 := hg.e1
  have h4 := hg.e4
  have w2 := hg.w2
  have w3 := hg.w3
  obtain ⟨r0, e0, hwd0⟩ := hw.wd 0 _ (List.getElem?_eq_getElem (by omega))
  have hl0 := hg.wl _ (List.getElem_mem (show 0 < b.ws.length by omega))
  have er : (rs.map V.ref)[0]? = some (.ref r0) := by rw [List.getElem?_map, e0]; rfl
  have zs : (S b.start).length ≤ sizeLine := by rw [S_len]; exact small_of (by omega)
  have ze : (S b.stop).length ≤ sizeLine := by rw [S_len]; exact small_of (by omega)
  refine ⟨_, (pss_cons (ps_par (i := 2) (j := 3) (by rfl) scTextOf.nd rfl rfl (by decide) rfl rfl (pa_cons (pe_callB call_len_str (by rfl) T.len PySem.boot_len (pa_cons (pe_ix ix_tup (pe_ix ix_tup (pe_ix ix_tup (pv 0) pe_int (fun _ _ => rfl)) pe_int (fun _ _ => rfl)) pe_int (fun _ _ => rfl)) pa_nil)) (pa_cons (pe_op op_sub (pe_op op_sub (pe_callB call_len_str (by rfl) T.len PySem.boot_len (pa_cons (pv 1) pa_nil)) (pe_callB call_len_str (by rfl) T.len PySem.boot_len (pa_cons (pe_ix ix_tup (pv 0) pe_int (fun _ _ => rfl)) pa_nil))) (pe_callB call_len_str (by rfl) T.len PySem.boot_len (pa_cons (pe_ix ix_tup (pv 0) pe_int (fun _ _ => rfl)) pa_nil))) pa_nil)) (by rfl))
    (pss_cons (ps_if (PW.pt (pw_or (pt_cmpR op_lt (pv 3) (pv 2) (nomark _)) (pw_or (pt_cmpR op_ne (pe_op op_modN (pe_callTy call_int1 (by rfl) T.int (by decide +kernel) (pa_cons (pv 3) pa_nil)) (pv 2)) pe_int (nomark _)) (pw_or (pt_not (pt_val (pe_m1 PySem.F.slot_str_startswith PySem.F.type_str_startswith mt_startswith (pv 1) (pe_ix ix_tup (pv 0) pe_int (fun _ _ => rfl))))) (pw_or1 (pt_not (pt_val (pe_m1 PySem.F.slot_str_endswith PySem.F.type_str_endswith mt_endswith (pv 1) (pe_ix ix_tup (pv 0) pe_int (fun _ _ => rfl)))))))))) (pss_one (ps_ret pe_non)) pss_nil)
    (pss_cons (K79R.ps_setDc (i := 5) (own := [("sign", 8), ("word", 4)]) (g := (gTup K 2 (gCons (gName 8) (gCons (gName 4) gNil)))) (tt := tYes) rfl scTextOf.nd rfl rfl (K79R.sw_trueD rfl rfl rfl (by decide +kernel)) (pi_tup (pe_ix ix_tup (pv 0) pe_int (fun _ _ => rfl))) (blkOk_by (own := [("sign", 8), ("word", 4)]) (N := ["book", "string", "long", "middle", "word", "known", "found", "begin", "sign"]) (sc := defScope sTextOf) (by decide +kernel))
      (fun _ _ _ _ _ => (pg_tup rfl (pgs_cons (pg_name (i := 8) scTextOf.nd rfl (Or.inl rfl)) (pgs_cons (pg_name (i := 4) scTextOf.nd rfl (Or.inl rfl)) pgs_nil)))) (fun _ _ _ _ _ => pts_nil) (fun _ _ _ _ _ => (pv 4)) (fun _ _ _ _ _ => (pv 8)))
    (pss_cons (ps_set (i := 6) scTextOf.nd rfl (Or.inl rfl) (pe_lst pa_nil))
    (pss_cons (ps_for PassesOwn.never rfl (pi_range3 (by rfl) T.range (pa_cons (pe_callB call_len_str (by rfl) T.len PySem.boot_len (pa_cons (pe_ix ix_tup (pv 0) pe_int (fun _ _ => rfl)) pa_nil)) (pa_cons (pe_op op_add (pe_callB call_len_str (by rfl) T.len PySem.boot_len (pa_cons (pe_ix ix_tup (pv 0) pe_int (fun _ _ => rfl)) pa_nil)) (pv 3)) (pa_cons (pv 2) pa_nil)))) (pg_name (i := 7) scTextOf.nd rfl (Or.inl rfl)) (pss_cons (ps_set (i := 4) scTextOf.nd rfl (Or.inl rfl) (pe_slice C8.sl_txt (pv 1) (po_some (pv 7)) (po_some (pe_op op_add (pv 7) (pv 2)))))
    (pss_cons (ps_if (pt_cmp (pc_dnotin (hu_of hr) (pv 4) (pv 5))) (pss_one (ps_ret pe_non)) pss_nil)
    (pss_one (ps_expr (pe_bm PySem.F.plainAttrs_list PySem.F.slot_list_append PySem.F.type_list_append mt_append (pv 6) (pa_cons (pe_dget (hu_of hr) (pv 5) (pv 4) (fun _ _ => rfl)) pa_nil)))))))
    (pss_one (ps_ret (pe_join pe_str (pv 6))))))))), ?_⟩
  -- long, middle
  refine ⟨.ref a, rfl, a, _, 2, _, rfl, rfl, .of ha, atI_nat (j := 2) rfl, wa, _, 0, _, rfl, rfl, .of hw.tup, atI_nat (j := 0) er, r0, _, 1, _, rfl, rfl, .of hwd0, atI_nat (j := 1) rfl, S _, rfl, small_of (by rw [S_len]; omega), ?_⟩
  refine ⟨.str (S row), rfl, S row, rfl, hz, .ref a, rfl, a, _, 0, _, rfl, rfl, .of ha, atI_nat (j := 0) rfl, S b.start, rfl, zs, _, _, rfl, rfl, .ref a, rfl, a, _, 1, _, rfl, rfl, .of ha, atI_nat (j := 1) rfl, S b.stop, rfl, ze, _, _, rfl, rfl, ?_⟩
  refine ⟨.int (K79.wide b : Nat), .int ((row.length : Int) - (b.start.length : Int) - (b.stop.length : Int)), by rw [S_len, S_len, S_len, S_len, hl0], ?_⟩
  generalize hmid : (row.length : Int) - (b.start.length : Int) - (b.stop.length : Int) = mid
  refine ⟨.int mid, rfl, .int (K79.wide b : Nat), rfl, _, _, rfl, rfl, _, rfl, ite2 (fun hc => ?_) (fun hc => ?_)⟩
  -- too short
  · have hc : mid < (K79.wide b : Nat) := of_decide_eq_true hc
    have e : K79.textOf b row = none := by
      unfold K79.textOf
      rw [if_neg]
      unfold K79.fits
      rw [decide_eq_false (by omega), Bool.false_and]
      exact Bool.false_ne_true
    rw [e] at q
    exact q H (Same.refl _)
  have hc : ¬ mid < (K79.wide b : Nat) := fun z => hc (decide_eq_true z)
  obtain ⟨m, rfl⟩ : ∃ m : Nat, mid = (m : Int) := ⟨mid.toNat, by omega⟩
  have hm : row.length - b.start.length - b.stop.length = m := by omega
  have hm2 : b.start.length + b.stop.length + K79.wide b ≤ row.length := by omega
  refine ⟨.int m, rfl, .inl ⟨_, rfl, .int (K79.wide b : Nat), rfl, _, _, rfl, rfl, (by show ((K79.wide b : Nat) : Int) ≠ 0; omega), rfl, _, rfl, ite2 (fun hd => ?_) (fun hd => ?_)⟩⟩
  -- no whole number of words
  · have hd : ¬ m % K79.wide b = 0 := fun z => by
      have z2 : ((m : Int).fmod (K79.wide b : Nat)) = 0 := by
        rw [Int.fmod_eq_emod_of_nonneg _ (by omega)]
        omega
      have hd := of_decide_eq_true (p := ¬ _) (by simpa using hd)
      exact hd (by rw [z2])
    have e : K79.textOf b row = none := by
      unfold K79.textOf
      rw [if_neg]
      unfold K79.fits
      rw [hm, decide_eq_false hd, Bool.false_and, Bool.and_false]
      exact Bool.false_ne_true
    rw [e] at q
    exact q H (Same.refl _)
  have hd : m % K79.wide b = 0 := by
    by_cases z : m % K79.wide b = 0
    · exact z
    · exfalso
      refine hd ?_
      have z2 : ((m : Int).fmod (K79.wide b : Nat)) ≠ 0 := by
        rw [Int.fmod_eq_emod_of_nonneg _ (by omega)]
        omega
      simpa using z2
  have hf : K79.fits b row = (row.take b.start.length == b.start && row.drop (row.length - b.stop.length) == b.stop) := by
    unfold K79.fits
    rw [hm, decide_eq_true hd, decide_eq_true hm2, Bool.true_and, Bool.true_and]
  have es : Txt.startswith (S row) (S b.start) = (row.take b.start.length == b.start) := by
    rw [K79R.starts_S, Bool.eq_iff_iff, List.isPrefixOf_iff_prefix, List.prefix_iff_eq_take, beq_iff_eq]
    exact ⟨fun h => h.symm, fun h => h.symm⟩
  have ee : Txt.endswith (S row) (S b.stop) = (row.drop (row.length - b.stop.length) == b.stop) := by
    rw [K79R.ends_S, decide_eq_true (by omega), Bool.true_and]
  refine ⟨.str (S row), rfl, ⟨_, rfl⟩, .ref a, rfl, a, _, 0, _, rfl, rfl, .of ha, atI_nat (j := 0) rfl, _, _, rfl, rfl, _, rfl, ite2 (fun hx => ?_) (fun hx => ?_)⟩
  · rw [es] at hx
    have e : K79.textOf b row = none := by
      unfold K79.textOf
      rw [if_neg]
      rw [hf]
      cases hq : (row.take b.start.length == b.start) with
      | true => rw [hq] at hx; cases hx
      | false => rw [Bool.false_and]; exact Bool.false_ne_true
    rw [e] at q
    exact q H (Same.refl _)
  rw [es] at hx
  have hx : (row.take b.start.length == b.start) = true := by simpa using hx
  refine ⟨.str (S row), rfl, ⟨_, rfl⟩, .ref a, rfl, a, _, 1, _, rfl, rfl, .of ha, atI_nat (j := 1) rfl, _, _, rfl, rfl, _, rfl, ?_⟩
  rw [ee]
  cases hy : (row.drop (row.length - b.stop.length) == b.stop) with
  | false =>
    refine iteT ?_
    have e : K79.textOf b row = none := by
      unfold K79.textOf
      rw [if_neg]
      rw [hf, hy, Bool.and_false]
      exact Bool.false_ne_true
    rw [e] at q
    exact q H (Same.refl _)
  | true =>
    refine iteF ?_
    have hf : K79.fits b row = true := by rw [hf, hx, hy]; rfl
    -- the words, told by their bars
    refine ⟨.ref a, rfl, a, _, 2, _, rfl, rfl, .of ha, atI_nat (j := 2) rfl, wa, rfl, ⟨_, .of hw.tup⟩, fun C hC => dc_words hw hC (fun p => S p.2) (fun p => .str (S [p.1])) (nd_S2 hg.nd2) (by omega) (fun r p H2 Nx hp hwd hN => ?_) fun H1 s1 e1 => ?_⟩
    · exact ⟨r, _, rfl, .of hwd, rfl, _, _, rfl, _, _, rfl, rfl, rfl, _, rfl, _, rfl, hN⟩
    refine ⟨Nat.zero_le _, fun o no => ?_⟩
    have s2 : Same H (upd H1 o (.lst [])) := s1.trans (same_upd no)
    have nCo : C ≠ o := ne_of_none e1 no
    have nO : H o = none := s1.free no
    have hmn : m = K79.wide b * K79.many b row := by
      unfold K79.many
      rw [hm]
      exact (Nat.mul_div_cancel' (Nat.dvd_of_mod_eq_zero hd)).symm
    have ha2 := s2 _ _ ha
    refine ⟨.ref a, rfl, a, _, 0, _, rfl, rfl, .of ha2, atI_nat (j := 0) rfl, S b.start, rfl, zs, .ref a, rfl, a, _, 0, _, rfl, rfl, .of ha2, atI_nat (j := 0) rfl, S b.start, rfl, zs, .int (m : Nat), rfl, _, _, rfl, rfl, .int (K79.wide b : Nat), rfl, _, _, (K79.wide b : Nat), K79.many b row, rfl, ?_, ?_⟩
    · rw [S_len]
      exact K79R.rangeC_ok (by omega) (by omega) (by omega) hmn (by omega)
    rw [S_len]
    have hmk : K79.textOf b row = K79.upTo (K79.signAt b row) (K79.many b row) := by
      unfold K79.textOf
      rw [if_pos hf]
    have hnm : K79.many b row ≤ m := by rw [hmn]; exact Nat.le_mul_of_pos_left _ (by omega)
    refine for_rangeC (lo := (b.start.length : Int)) (c := (K79.wide b : Nat)) (n := K79.many b row) (fun i σ H3 => ∃ y4 y7 y8, σ = [some (.ref a), some (.str (S row)), some (.int (K79.wide b : Nat)), some (.int (m : Nat)), y4, some (.ref C), some (.ref o), y7, y8] ∧ Same H H3 ∧ H3 C = some (.dK (kdict b.ws)) ∧
        ∃ t, K79.upTo (K79.signAt b row) i = some t ∧ H3 o = some (.lst (t.map fun s => .str (S [s]))))
      ⟨none, none, none, rfl, s2, by rw [upd_ne nCo]; exact e1, [], rfl, upd_same⟩ (fun i σ H3 hi p => ?_) (fun σ H3 p => ?_)
    · obtain ⟨y4, y7, y8, rfl, s3, eC, t, et, eo⟩ := p
      have hiw : i * K79.wide b + K79.wide b ≤ m := by
        have := Nat.mul_le_mul_left (K79.wide b) (show i + 1 ≤ K79.many b row by omega)
        rw [hmn]
        rw [Nat.mul_add, Nat.mul_one, Nat.mul_comm] at this
        exact this
      have hsl : Txt.slice (S row) (some ((b.start.length : Int) + (i : Nat) * (K79.wide b : Nat))) (some ((b.start.length : Int) + (i : Nat) * (K79.wide b : Nat) + (K79.wide b : Nat))) = S (K79.chunk b row i) := by
        have z1 : ((b.start.length : Int) + (i : Nat) * (K79.wide b : Nat)) = ((b.start.length + i * K79.wide b : Nat) : Int) := by push_cast; rfl
        have z2 : ((b.start.length : Int) + (i : Nat) * (K79.wide b : Nat) + (K79.wide b : Nat)) = ((b.start.length + i * K79.wide b + K79.wide b : Nat) : Int) := by push_cast; rfl
        rw [z2, z1, K79R.slice_mid (by omega) (by omega), Nat.add_sub_cancel_left]
        rfl
      refine ⟨.str (S row), rfl, _, rfl, _, rfl, _, rfl, .int (K79.wide b : Nat), rfl, _, _, rfl, rfl, _, rfl, S row, rfl, hz, ?_⟩
      rw [hsl]
      refine ⟨.str (S (K79.chunk b row i)), rfl, .ref C, rfl, C, _, rfl, DGet.k (k := Sum.inr (S (K79.chunk b row i))) eC, _, rfl, ?_⟩
      rw [val_known]
      cases hk : K79.rlook b.ws (K79.chunk b row i) with
      | none =>
        refine iteT ?_
        have e : K79.textOf b row = none := by rw [hmk, K79.upTo_none (i := i) hk hi]
        rw [e] at q
        exact q H3 s3
      | some s =>
        refine iteF ?_
        have hget : DGet H3 C (.str (S (K79.chunk b row i))) (some (.str (S [s]))) := by
          have z := DGet.k (k := Sum.inr (S (K79.chunk b row i))) eC
          rw [val_known, hk] at z
          exact z
        have hlen := K79.upTo_len et
        refine ⟨.ref o, rfl, .inl ⟨rfl, _, .of eo⟩, .ref C, rfl, .str (S (K79.chunk b row i)), rfl, C, _, rfl, hget, o, _, _, rfl, rfl, eo, ?_, ?_⟩
        · rw [List.length_map]
          exact small1000 (by omega)
        refine ⟨_, _, _, rfl, same_upd' nO s3, by rw [upd_ne nCo]; exact eC, t ++ [s], K79.upTo_succ et hk, ?_⟩
        rw [upd_same, List.map_append]
        rfl
    · obtain ⟨y4, y7, y8, rfl, s3, eC, t, et, eo⟩ := p
      rw [hmk, et] at q
      have hlen := K79.upTo_len et
      have eo' := eo
      rw [ones_str] at eo'
      refine ⟨⟨_, rfl⟩, .ref o, rfl, S [], o, t.map fun s => S [s], rfl, rfl, .inl (.of eo'), ?_, ?_⟩
      · rw [sum_ones]
        show t.length + _ * 0 ≤ _
        omega
      · rw [join_ones]
        exact q H3 s3
def spReading : Sp := fun vs H Q _ => ∃ (a : Addr) (b : K79.Bk) (row : List Nat), vs = [.ref a, .str (S row)] ∧ BkAt H a b ∧ K79.Good b ∧ row.length ≤ 1000 ∧ ∀ H', Same H H' → Q (K79R.optV (K79.textOf b row)) H'
theorem ok_reading {k : Nat} (D : Df K mg "reading" sReading ["book", "string"]) (T : Tx mg) (cN : Cl P w K mg base k "need_book" ["thing"] spNeed)(cO : Cl P w K mg base k "text_of" ["book", "string"] spTextOf) : Cl P w K mg base (k + 1) "reading" ["book", "string"] spReading := by
  refine cl_of D scReading (fun vs H Q E h => ?_) (fun f cdv A outer s H vs Q E hr h => ?_)
  · obtain ⟨a, b, row, rfl, _⟩ := h
    rfl
  obtain ⟨a, b, row, rfl, hb, hg, hl, q⟩ := h
  refine ⟨_, (pss_cons (ps_expr (pe_cl cN hr (Nat.le_refl _) (by rfl) (pa_cons (pv 0) pa_nil)))
    (pss_cons (ps_if (pt_not (pt_val (pe_callB call_isi (by rfl) T.isi (by decide +kernel) (pa_cons (pv 1) (pa_cons (pe_bltn (v := .ty "str") (by rfl) T.str (by decide +kernel) rfl) pa_nil))))) (pss_one ps_never) pss_nil)
    (pss_one (ps_ret (pe_cl cO hr (Nat.le_refl _) (by rfl) (pa_cons (pv 0) (pa_cons (pv 1) pa_nil))))))), ?_⟩
  refine ⟨.ref a, rfl, a, b, rfl, hb, hg, fun H1 s1 => ⟨.str (S row), rfl, _, _, _, _, true, rfl, .ty "str", .base (.str _), kit_ty (by decide +kernel), true, rfl, iteF ?_⟩⟩
  exact ⟨.ref a, rfl, .str (S row), rfl, a, b, row, rfl, hb.same s1, hg, hl, fun H2 s2 => q H2 (s1.trans s2)⟩
theorem bars_small {b : K79.Bk} {t : List Nat} (hg : K79.Good b) (hs : K79.Sgs b t) (hl : t.length ≤ 100) : (K79.bars b t).length ≤ 500 := by
  have hlen := K79.bars_len hg hs
  have h4 := hg.s4
  have h5 := hg.e4
  have h6 := hg.w3
  have h7 : t.length * K79.wide b ≤ 100 * 3 := Nat.mul_le_mul hl h6
  omega
def spTurned : Sp := fun vs H Q _ => ∃ (a : Addr) (b : K79.Bk) (t : List Nat), vs = [.ref a, .str (S t)] ∧ BkAt H a b ∧ K79.Good b ∧ K79.Sgs b t ∧ t ≠ [] ∧ t.length ≤ 100 ∧ ∀ H', Same H H' → Q (K79R.optV (K79.textOf b (K79.bars b t).reverse)) H'
theorem ok_turned {k : Nat} (D : Df K mg "turned" sTurned ["book", "text"]) (T : Tx mg) (cN : Cl P w K mg base k "need_book" ["thing"] spNeed)(cT : Cl P w K mg base k "need_sign_text" ["book", "text"] spNeedText)(cB : Cl P w K mg base k "bars_of" ["book", "text"] spBarsOf)(cO : Cl P w K mg base k "text_of" ["book", "string"] spTextOf) : Cl P w K mg base (k + 1) "turned" ["book", "text"] spTurned := by
  refine cl_of D scTurned (fun vs H Q E h => ?_) (fun f cdv A outer s H vs Q E hr h => ?_)
  · obtain ⟨a, b, t, rfl, _⟩ := h
    rfl
  obtain ⟨a, b, t, rfl, hb, hg, hs, hne, hl, q⟩ := h
  refine ⟨_, (pss_cons (ps_expr (pe_cl cT hr (Nat.le_refl _) (by rfl) (pa_cons (pe_cl cN hr (Nat.le_refl _) (by rfl) (pa_cons (pv 0) pa_nil)) (pa_cons (pv 1) pa_nil))))
    (pss_one (ps_ret (pe_cl cO hr (Nat.le_refl _) (by rfl) (pa_cons (pv 0) (pa_cons (K79R.pe_revS (pe_cl cB hr (Nat.le_refl _) (by rfl) (pa_cons (pv 0) (pa_cons (pv 1) pa_nil)))) pa_nil)))))), ?_⟩
  refine ⟨.ref a, rfl, a, b, rfl, hb, hg, fun H1 s1 => ⟨.str (S t), rfl, a, b, t, rfl, hb.same s1, hg, hs, hne, hl, fun H2 s2 => ?_⟩⟩
  have s3 := s1.trans s2
  have hsm := bars_small hg hs hl
  refine ⟨.ref a, rfl, .ref a, rfl, .str (S t), rfl, a, b, t, rfl, hb.same s3, hg, hs, hne, hl, fun H4 s4 => ⟨_, rfl, small_of (by omega), a, b, _, rfl, hb.same (s3.trans s4), hg, by rw [List.length_reverse]; omega, fun H5 s5 => q H5 ((s3.trans s4).trans s5)⟩⟩
end
end K79W
set_option Elab.async false
set_option linter.all false
set_option maxRecDepth 100000
set_option maxHeartbeats 2000000
/-! # The walks: pendings -/
namespace K79W
open PySem PySem.Spec PyProof.Rows L2 SX
section
variable {P : Program} {w : World} {K : PySem.W.Frag} {mg : Str → Option Value} {base : Heap}
/-- all tuples stand -/
def TS (H H' : Hp) : Prop := ∀ b xs, H b = some (.tup xs) → H' b = some (.tup xs)
theorem TS.of {H H' : Hp} (s : Same H H') : TS H H' := fun b xs e => s b _ e
theorem TS.refl (H : Hp) : TS H H := fun _ _ e => e
theorem TS.trans {H H1 H2 : Hp} (a : TS H H1) (b : TS H1 H2) : TS H H2 := fun c xs e => b c xs (a c xs e)
theorem TS.upd {H : Hp} {o : Addr} {x : HO} (h : ∀ xs, H o ≠ some (.tup xs)) : TS H (upd H o x) := fun b xs e => by
  rw [upd_ne (fun z => h xs (by rw [← z]; exact e))]
  exact e
theorem TS.updL {H : Hp} {o : Addr} {x : HO} {ys : List V} (h : H o = some (.lst ys)) : TS H (L2.upd H o x) := TS.upd fun xs e => by rw [h] at e; cases e
theorem TS.updT {H : Hp} {o : Addr} {x : HO} {ys : List (List Key × V)} (h : H o = some (.dT ys)) : TS H (L2.upd H o x) := TS.upd fun xs e => by rw [h] at e; cases e
theorem TS.updN {H : Hp} {o : Addr} {x : HO} (h : H o = none) : TS H (L2.upd H o x) := TS.upd fun xs e => by rw [h] at e; cases e
def PnAt (H : Hp) (r : Addr) (p : K79.Pn) : Prop := H r = some (.tup [.int (p.1 : Nat), .str (S p.2)])
theorem PnAt.ts {H H' : Hp} {r : Addr} {p : K79.Pn} (h : PnAt H r p) (s : TS H H') : PnAt H' r p := s _ _ h
theorem PnAt.mk {H : Hp} {r : Addr} {i : Int} {p : K79.Pn} {x : Str} (e : H r = some (.tup [.int i, .str x])) (e1 : i = (p.1 : Nat)) (e2 : x = S p.2) : PnAt H r p := by
  subst e1 e2
  exact e
def EdAt (H : Hp) (r : Addr) (e : K79.Edge) : Prop := ∃ f : Addr, H r = some (.tup [.ref f, .str (S [e.2.1]), .str (S [e.2.2])]) ∧ PnAt H f e.1
theorem EdAt.ts {H H' : Hp} {r : Addr} {e : K79.Edge} (h : EdAt H r e) (s : TS H H') : EdAt H' r e := by
  obtain ⟨f, h1, h2⟩ := h
  exact ⟨f, s _ _ h1, h2.ts s⟩
/-- objects, one by one -/
def Each {α : Type} (R : Addr → α → Prop) (xs : List V) (es : List α) : Prop := xs.length = es.length ∧ ∀ (i : Nat) (e : α), es[i]? = some e → ∃ r : Addr, xs[i]? = some (.ref r) ∧ R r e
theorem Each.nil {α : Type} {R : Addr → α → Prop} : Each R [] [] := ⟨rfl, fun i e h => by simp at h⟩
theorem Each.snoc {α : Type} {R : Addr → α → Prop} {xs : List V} {es : List α} (h : Each R xs es) {r : Addr} {e : α} (hr : R r e) : Each R (xs ++ [.ref r]) (es ++ [e]) := by
  refine ⟨by rw [List.length_append, List.length_append, h.1]; rfl, fun i e' he => ?_⟩
  by_cases hi : i < es.length
  · rw [List.getElem?_append_left hi] at he
    obtain ⟨r', h1, h2⟩ := h.2 i e' he
    exact ⟨r', by rw [List.getElem?_append_left (by rw [h.1]; exact hi)]; exact h1, h2⟩
  · rw [List.getElem?_append_right (by omega)] at he
    have hj : i - es.length < 1 := (List.getElem?_eq_some_iff.mp he).1
    have hi0 : i - es.length = 0 := by omega
    rw [hi0] at he
    have ee : e = e' := Option.some.inj he
    subst ee
    exact ⟨r, by rw [List.getElem?_append_right (by rw [h.1]; omega), h.1, hi0]; rfl, hr⟩
theorem Each.mono {α : Type} {R R' : Addr → α → Prop} {xs : List V} {es : List α} (h : Each R xs es) (m : ∀ r e, R r e → R' r e) : Each R' xs es :=
  ⟨h.1, fun i e he => by obtain ⟨r, a1, a2⟩ := h.2 i e he; exact ⟨r, a1, m _ _ a2⟩⟩
theorem Each.at {α : Type} {R : Addr → α → Prop} {xs : List V} {es : List α} (h : Each R xs es) {i : Nat} {x : V} (e : xs[i]? = some x) : ∃ r p, x = .ref r ∧ es[i]? = some p ∧ p ∈ es ∧ R r p := by
  have hi : i < es.length := by rw [← h.1]; exact (List.getElem?_eq_some_iff.mp e).1
  obtain ⟨r, e1, e2⟩ := h.2 i _ (List.getElem?_eq_getElem hi)
  refine ⟨r, _, ?_, List.getElem?_eq_getElem hi, List.getElem_mem hi, e2⟩
  rw [e1] at e
  exact (Option.some.inj e).symm
theorem WsR.ts {H H' : Hp} {w : Addr} {rs : List Addr} {ws : List K79.Wd} (h : WsR H w rs ws) (s : TS H H') : WsR H' w rs ws :=
  ⟨s _ _ h.tup, h.len, fun i p e => by obtain ⟨r, a1, a2⟩ := h.wd i p e; exact ⟨r, a1, s _ _ a2⟩⟩
theorem BkAt.ts {H H' : Hp} {a : Addr} {b : K79.Bk} (h : BkAt H a b) (s : TS H H') : BkAt H' a b := by
  obtain ⟨w, rs, h1, h2⟩ := h
  exact ⟨w, rs, s _ _ h1, h2.ts s⟩
def spPend : Sp := fun vs H Q _ => ∃ x y : List Nat, vs = [.str (S x), .str (S y)] ∧ x.length ≤ 200 ∧ y.length ≤ 200 ∧ (K79.pend x y = none → ∀ H', Same H H' → Q .non H') ∧ ∀ p, K79.pend x y = some p → ∀ r H', Same H H' → H r = none → PnAt H' r p → Q (.ref r) H'
theorem ok_pend {k : Nat} (D : Df K mg "pending_of" sPend ["one", "other"]) (T : Tx mg)  : Cl P w K mg base (k + 1) "pending_of" ["one", "other"] spPend := by
  refine cl_of D scPend (fun vs H Q E h => ?_) (fun f cdv A outer s H vs Q E hr h => ?_)
  · obtain ⟨x, y, rfl, _⟩ := h
    rfl
  obtain ⟨x, y, rfl, hx, hy, q0, q1⟩ := h
  have zx : (S x).length ≤ sizeLine := by rw [S_len]; exact small_of (by omega)
  have zy : (S y).length ≤ sizeLine := by rw [S_len]; exact small_of (by omega)
  have cx : Txt.slice (S x) (some ((S y).length : Int)) none = S (x.drop y.length) := by rw [S_len, slice_from (by omega), Int.toNat_natCast]
  have cy : Txt.slice (S y) (some ((S x).length : Int)) none = S (y.drop x.length) := by rw [S_len, slice_from (by omega), Int.toNat_natCast]
  refine ⟨_, (pss_cons (ps_if (pt_val (pe_m1 PySem.F.slot_str_startswith PySem.F.type_str_startswith mt_startswith (pv 0) (pv 1))) (pss_cons (ps_set (i := 2) scPend.nd rfl (Or.inl rfl) (pe_slice C8.sl_txt (pv 0) (po_some (pe_callB call_len_str (by rfl) T.len PySem.boot_len (pa_cons (pv 1) pa_nil))) po_none))
    (pss_one (ps_ret (pe_tup (pa_cons pe_int (pa_cons (pv 2) pa_nil)))))) pss_nil)
    (pss_one (ps_ret (pe_ifExp (pt_val (pe_m1 PySem.F.slot_str_startswith PySem.F.type_str_startswith mt_startswith (pv 1) (pv 0))) (pe_tup (pa_cons pe_int (pa_cons (pe_slice C8.sl_txt (pv 1) (po_some (pe_callB call_len_str (by rfl) T.len PySem.boot_len (pa_cons (pv 0) pa_nil))) po_none) pa_nil))) pe_non)))), ?_⟩
  refine ⟨.str (S x), rfl, ⟨_, rfl⟩, .str (S y), rfl, S x, S y, rfl, rfl, _, rfl, ?_⟩
  rw [K79R.starts_S]
  cases h1 : y.isPrefixOf x with
  | true =>
    refine iteT ⟨.str (S x), rfl, .str (S y), rfl, S y, rfl, zy, _, rfl, S x, rfl, zx, .str (Txt.slice (S x) (some ((S y).length : Int)) none), rfl, small_of (Nat.le_add_left 2 998), fun t ht => ?_⟩
    have e : K79.pend x y = some (0, x.drop y.length) := if_pos h1
    exact q1 _ e t _ (same_upd ht) ht (PnAt.mk upd_same rfl cx)
  | false =>
    refine iteF ⟨.str (S y), rfl, ⟨_, rfl⟩, .str (S x), rfl, S y, S x, rfl, rfl, _, rfl, ?_⟩
    rw [K79R.starts_S]
    cases h2 : x.isPrefixOf y with
    | true =>
      refine iteT ⟨.str (S y), rfl, .str (S x), rfl, S x, rfl, zx, _, rfl, S y, rfl, zy, small_of (Nat.le_add_left 2 998), fun t ht => ?_⟩
      have e : K79.pend x y = some (1, y.drop x.length) := by unfold K79.pend; rw [h1, h2]; rfl
      exact q1 _ e t _ (same_upd ht) ht (PnAt.mk upd_same rfl cy)
    | false =>
      refine iteF ?_
      have e : K79.pend x y = none := by unfold K79.pend; rw [h1, h2]; rfl
      exact q0 e H (Same.refl _)
def spGrown : Sp := fun vs H Q _ => ∃ (r : Addr) (p : K79.Pn) (x y : List Nat), vs = [.ref r, .str (S x), .str (S y)] ∧ PnAt H r p ∧ p.2.length ≤ 100 ∧ x.length ≤ 100 ∧ y.length ≤ 100 ∧ (K79.grown p x y = none → ∀ H', Same H H' → Q .non H') ∧ ∀ p', K79.grown p x y = some p' → ∀ r' H', Same H H' → H r' = none → PnAt H' r' p' → Q (.ref r') H'
theorem ok_grown {k : Nat} (D : Df K mg "grown" sGrown ["pending", "one", "other"]) (T : Tx mg) (cP : Cl P w K mg base k "pending_of" ["one", "other"] spPend) : Cl P w K mg base (k + 1) "grown" ["pending", "one", "other"] spGrown := by
  refine cl_of D scGrown (fun vs H Q E h => ?_) (fun f cdv A outer s H vs Q E hr h => ?_)
  · obtain ⟨r, p, x, y, rfl, _⟩ := h
    rfl
  obtain ⟨r, p, x, y, rfl, hp, hl, hx, hy, q0, q1⟩ := h
  have hp' : H r = some (.tup [.int (p.1 : Nat), .str (S p.2)]) := hp
  have z0 : (S p.2).length ≤ sizeLine := by rw [S_len]; exact small_of (by omega)
  refine ⟨_, (pss_one (ps_ret (pe_ifExp (pt_cmpR op_eq (pe_ix ix_tup (pv 0) pe_int (fun _ _ => rfl)) pe_int (nomark _)) (pe_cl cP hr (Nat.le_refl _) (by rfl) (pa_cons (pe_op op_add_str (pe_ix ix_tup (pv 0) pe_int (fun _ _ => rfl)) (pv 1)) (pa_cons (pv 2) pa_nil))) (pe_cl cP hr (Nat.le_refl _) (by rfl) (pa_cons (pv 1) (pa_cons (pe_op op_add_str (pe_ix ix_tup (pv 0) pe_int (fun _ _ => rfl)) (pv 2)) pa_nil)))))), ?_⟩
  refine ⟨.ref r, rfl, r, _, 0, _, rfl, rfl, .of hp', atI_nat (j := 0) rfl, rfl, _, rfl, ite2 (fun hc => ?_) (fun hc => ?_)⟩
  · have hc : p.1 = 0 := by
      have z : V.int (p.1 : Nat) = V.int 0 := of_decide_eq_true hc
      have := V.int.inj z
      omega
    have e : K79.grown p x y = K79.pend (p.2 ++ x) y := if_pos hc
    rw [e] at q0 q1
    refine ⟨.ref r, rfl, r, _, 1, _, rfl, rfl, .of hp', atI_nat (j := 1) rfl, .str (S x), rfl, S p.2, S x, rfl, rfl, (by rw [S_len, S_len]; exact small_of (by omega)), .str (S y), rfl, p.2 ++ x, y, ?_, by rw [List.length_append]; omega, by omega, q0, q1⟩
    rw [S_cat]
    rfl
  · have hc : ¬ p.1 = 0 := fun z => hc (decide_eq_true (by rw [z]; rfl))
    have e : K79.grown p x y = K79.pend x (p.2 ++ y) := if_neg hc
    rw [e] at q0 q1
    refine ⟨.str (S x), rfl, .ref r, rfl, r, _, 1, _, rfl, rfl, .of hp', atI_nat (j := 1) rfl, .str (S y), rfl, S p.2, S y, rfl, rfl, (by rw [S_len, S_len]; exact small_of (by omega)), x, p.2 ++ y, ?_, by omega, by rw [List.length_append]; omega, q0, q1⟩
    rw [S_cat]
    rfl
def nx1 (p : K79.Pn) (u : K79.Wd) (vs : List K79.Wd) : List K79.Edge := vs.filterMap fun v => (K79.grown p u.2.reverse v.2).map fun e => (e, u.1, v.1)
theorem nx1_snoc {p : K79.Pn} {u v : K79.Wd} {ws : List K79.Wd} {j : Nat} (e : ws[j]? = some v) : nx1 p u (ws.take (j + 1)) = nx1 p u (ws.take j) ++ (match K79.grown p u.2.reverse v.2 with | none => [] | some e => [(e, u.1, v.1)]) := by
  unfold nx1
  rw [List.take_add_one, e, List.filterMap_append]
  congr 1
  cases h : K79.grown p u.2.reverse v.2 with
  | none => simp [h]
  | some z => simp [h]
theorem nx_snoc {p : K79.Pn} {u : K79.Wd} {ws : List K79.Wd} {i : Nat} (e : ws[i]? = some u) : (ws.take (i + 1)).flatMap (fun u => nx1 p u ws) = (ws.take i).flatMap (fun u => nx1 p u ws) ++ nx1 p u ws := by
  rw [List.take_add_one, e, List.flatMap_append]
  simp
def spNexts : Sp := fun vs H Q _ => ∃ (a r : Addr) (b : K79.Bk) (p : K79.Pn), vs = [.ref a, .ref r] ∧ BkAt H a b ∧ K79.Good b ∧ PnAt H r p ∧ p.2.length ≤ 3 ∧ ∀ r' H' xs, Same H H' → H r' = none → H' r' = some (.lst xs) → Each (EdAt H') xs (K79.nexts b p) → Q (.ref r') H'
theorem ok_nexts {k : Nat} (D : Df K mg "next_pendings" sNexts ["book", "pending"]) (T : Tx mg) (cG : Cl P w K mg base k "grown" ["pending", "one", "other"] spGrown) : Cl P w K mg base (k + 1) "next_pendings" ["book", "pending"] spNexts := by
  refine cl_of D scNexts (fun vs H Q E h => ?_) (fun f cdv A outer s H vs Q E hr h => ?_)
  · obtain ⟨a, r, b, p, rfl, _⟩ := h
    rfl
  obtain ⟨a, r, b, p, rfl, hb, hg, hp, hl, q⟩ := h
  obtain ⟨wa, rs, ha, hw⟩ := hb
  have n4 := hg.n4
  have w3 := hg.w3
  refine ⟨_, (pss_cons (ps_set (i := 2) scNexts.nd rfl (Or.inl rfl) (pe_lst pa_nil))
    (pss_cons (ps_for PassesOwn.never rfl (pi_tup (pe_ix ix_tup (pv 0) pe_int (fun _ _ => rfl))) (pg_tup rfl (pgs_cons (pg_name (i := 3) scNexts.nd rfl (Or.inl rfl)) (pgs_cons (pg_name (i := 4) scNexts.nd rfl (Or.inl rfl)) pgs_nil))) (pss_one (ps_for PassesOwn.never rfl (pi_tup (pe_ix ix_tup (pv 0) pe_int (fun _ _ => rfl))) (pg_tup rfl (pgs_cons (pg_name (i := 5) scNexts.nd rfl (Or.inl rfl)) (pgs_cons (pg_name (i := 6) scNexts.nd rfl (Or.inl rfl)) pgs_nil))) (pss_cons (ps_set (i := 7) scNexts.nd rfl (Or.inl rfl) (pe_cl cG hr (Nat.le_refl _) (by rfl) (pa_cons (pv 1) (pa_cons (K79R.pe_revS (pv 4)) (pa_cons (pv 6) pa_nil)))))
    (pss_one (ps_if (pt_cmpR op_notN (pv 7) pe_non (nomark _)) (pss_one (ps_expr (pe_bm PySem.F.plainAttrs_list PySem.F.slot_list_append PySem.F.type_list_append mt_append (pv 2) (pa_cons (pe_tup (pa_cons (pv 7) (pa_cons (pv 3) (pa_cons (pv 5) pa_nil)))) pa_nil)))) pss_nil))))))
    (pss_one (ps_ret (pv 2))))), ?_⟩
  refine ⟨Nat.zero_le _, fun o no => ?_⟩
  have s1 : Same H (upd H o (.lst [])) := same_upd no
  refine ⟨.ref a, rfl, a, _, 2, _, rfl, rfl, .of (s1 _ _ ha), atI_nat (j := 2) rfl, wa, rfl, ⟨_, .of (s1 _ _ hw.tup)⟩,
    for_tup (xs := rs.map V.ref) (fun i σ H3 => ∃ y3 y4 y5 y6 y7, σ = [some (.ref a), some (.ref r), some (.ref o), y3, y4, y5, y6, y7] ∧ Same H H3 ∧ ∃ xs, H3 o = some (.lst xs) ∧ Each (EdAt H3) xs ((b.ws.take i).flatMap fun u => nx1 p u b.ws) ∧ xs.length ≤ i * 4)
      ⟨none, none, none, none, none, rfl, s1, [], upd_same, Each.nil, Nat.le_refl _⟩ (fun i σ H3 _ p => by obtain ⟨_, _, _, _, _, _, s3, _⟩ := p; exact .of (s3 _ _ hw.tup)) (fun i x σ H3 hx p => ?_) (fun σ H3 p => ?_)⟩
  · obtain ⟨y3, y4, y5, y6, y7, rfl, s3, xs, eo, hE, hn⟩ := p
    obtain ⟨ru, u, rfl, eu, hu, hwu⟩ := (hw.same s3).at hx
    have lu := hg.wl u hu
    have hi : i < b.ws.length := (List.getElem?_eq_some_iff.mp eu).1
    refine ⟨ru, _, rfl, .of hwu, rfl, _, _, rfl, _, _, rfl, rfl, ?_⟩
    refine ⟨.ref a, rfl, a, _, 2, _, rfl, rfl, .of (s3 _ _ ha), atI_nat (j := 2) rfl, wa, rfl, ⟨_, .of (s3 _ _ hw.tup)⟩,
      for_tup (xs := rs.map V.ref) (fun j σ H4 => ∃ y5 y6 y7, σ = [some (.ref a), some (.ref r), some (.ref o), some (.str (S [u.1])), some (.str (S u.2)), y5, y6, y7] ∧ Same H H4 ∧ ∃ xs, H4 o = some (.lst xs) ∧ Each (EdAt H4) xs (((b.ws.take i).flatMap fun u => nx1 p u b.ws) ++ nx1 p u (b.ws.take j)) ∧ xs.length ≤ i * 4 + j)
      ⟨y5, y6, y7, rfl, s3, xs, eo, by rw [show nx1 p u (b.ws.take 0) = [] from rfl, List.append_nil]; exact hE, hn⟩ (fun i σ H3 _ p => by obtain ⟨_, _, _, _, s3, _⟩ := p; exact .of (s3 _ _ hw.tup)) (fun j x σ H4 hx p => ?_) (fun σ H4 p => ?_)⟩
    · obtain ⟨y5, y6, y7, rfl, s4, xs, eo, hE, hn⟩ := p
      obtain ⟨rv, v, rfl, ev, hv, hwv⟩ := (hw.same s4).at hx
      have lv := hg.wl v hv
      have hj : j < b.ws.length := (List.getElem?_eq_some_iff.mp ev).1
      refine ⟨rv, _, rfl, .of hwv, rfl, _, _, rfl, _, _, rfl, rfl, ?_⟩
      refine ⟨.ref r, rfl, .str (S u.2), rfl, u.2, rfl, small_of (by omega), .str (S v.2), rfl, r, p, u.2.reverse, v.2, rfl, hp.ts (TS.of s4), by omega, by rw [List.length_reverse]; omega, by omega, fun e H5 s5 => ?_, fun z e f H5 s5 nf hf => ?_⟩
      · refine ⟨_, rfl, rfl, _, rfl, iteF ?_⟩
        refine ⟨_, _, _, rfl, s4.trans s5, xs, s5 _ _ eo, ?_, by omega⟩
        rw [nx1_snoc ev, e, List.append_nil]
        exact hE.mono fun r e h => h.ts (TS.of s5)
      · refine ⟨.ref f, rfl, rfl, true, rfl, iteT ?_⟩
        have eo5 := s5 _ _ eo
        refine ⟨.ref o, rfl, .inl ⟨rfl, _, .of eo5⟩, .ref f, rfl, .str (S [u.1]), rfl, .str (S [v.1]), rfl, small_of (Nat.le_add_left 3 997), fun t nt => ?_⟩
        have eot : (upd H5 t (.tup [.ref f, .str (S [u.1]), .str (S [v.1])])) o = some (.lst xs) := by rw [upd_ne (ne_of_none eo5 nt)]; exact eo5
        refine ⟨o, _, _, rfl, rfl, eot, small1000 (by omega), ?_⟩
        have t1 : TS H5 (upd H5 t (.tup [.ref f, .str (S [u.1]), .str (S [v.1])])) := TS.updN nt
        have t2 : TS (upd H5 t (.tup [.ref f, .str (S [u.1]), .str (S [v.1])])) (upd (upd H5 t (.tup [.ref f, .str (S [u.1]), .str (S [v.1])])) o (.lst (xs ++ [.ref t]))) := TS.updL eot
        refine ⟨_, _, _, rfl, same_upd' no ((s4.trans s5).trans (same_upd nt)), _, upd_same, ?_, by rw [List.length_append]; show xs.length + 1 ≤ _; omega⟩
        rw [nx1_snoc ev, e, ← List.append_assoc]
        exact (hE.mono fun r e h => h.ts ((TS.of s5).trans (t1.trans t2))).snoc ⟨f, t2 _ _ upd_same, hf.ts (t1.trans t2)⟩
    · obtain ⟨y5, y6, y7, rfl, s4, xs, eo, hE, hn⟩ := p
      rw [hw.lenV, List.take_length, ← nx_snoc eu] at hE
      rw [hw.lenV] at hn
      exact ⟨_, _, _, _, _, rfl, s4, xs, eo, hE, by omega⟩
  · obtain ⟨y3, y4, y5, y6, y7, rfl, s3, xs, eo, hE, hn⟩ := p
    rw [hw.lenV, List.take_length] at hE
    exact ⟨.ref o, rfl, q o H3 xs s3 no eo hE⟩
theorem eqv_end (p : K79.Pn) : PyData.eqv (.tuple [.int (p.1 : Nat), .str (S p.2)]) (.tuple [.int 0, .str (S [])]) = (some p == some (0, [])) := by
  show ((((p.1 : Nat) : Int) == 0) && ((S p.2 == S []) && true)) = _
  rw [S_beq, Bool.and_true, Bool.eq_iff_iff, Bool.and_eq_true, beq_iff_eq, beq_iff_eq, beq_iff_eq]
  obtain ⟨s, t⟩ := p
  constructor
  · rintro ⟨h1, h2⟩
    have h1 : s = 0 := by show s = 0; have h1 : ((s : Nat) : Int) = 0 := h1; omega
    have h2 : t = [] := h2
    rw [h1, h2]
  · intro h
    have h := Option.some.inj h
    have h1 : s = 0 := (Prod.mk.inj h).1
    have h2 : t = [] := (Prod.mk.inj h).2
    subst h1 h2
    exact ⟨rfl, rfl⟩
theorem shaped_pn (i : Int) {l : List Nat} (h : K79.Mods l) : SeqAt.shaped (.tuple [.int i, .str (S l)]) = true := by
  have e : (S l).cps.all (· < 0x110000) = true := by
    show l.toArray.all _ = true
    rw [List.all_toArray, List.all_eq_true]
    intro c hc
    rcases h c hc with rfl | rfl <;> rfl
  unfold SeqAt.shaped
  simp only [PyData.canLay0, PyData.canLayAll0, PyData.depth, PyData.depthAll, PyData.strOk]
  rw [e]
  rfl
theorem pend_mods {x y : List Nat} {z : K79.Pn} (hx : K79.Mods x) (hy : K79.Mods y) (e : K79.pend x y = some z) : K79.Mods z.2 := by
  rcases K79.pend_cases e with ⟨r, e1, rfl⟩ | ⟨r, e1, rfl, _⟩
  · exact fun c hc => hx c (by rw [e1]; exact List.mem_append_right _ hc)
  · exact fun c hc => hy c (by rw [e1]; exact List.mem_append_right _ hc)
theorem grown_mods {p : K79.Pn} {x y : List Nat} {z : K79.Pn} (hp : K79.Mods p.2) (hx : K79.Mods x) (hy : K79.Mods y) (e : K79.grown p x y = some z) : K79.Mods z.2 := by
  unfold K79.grown at e
  split at e
  · exact pend_mods (K79.mods_app hp hx) hy e
  · exact pend_mods hx (K79.mods_app hp hy) e
theorem mods_nil : K79.Mods [] := fun c hc => absurd hc (by simp)
theorem dp_pn {K : PySem.W.Frag} {H : Hp} {r : Addr} {p : K79.Pn} (h : PnAt H r p) : Dp K H (.ref r) (.tuple [.int (p.1 : Nat), .str (S p.2)]) := .tup (.of h) (.cons (.int _) (.cons (.str _) .nil))
def spIsEnd : Sp := fun vs H Q _ => ∃ (a r : Addr) (b : K79.Bk) (p : K79.Pn), vs = [.ref a, .ref r] ∧ BkAt H a b ∧ K79.Good b ∧ PnAt H r p ∧ K79.Mods p.2 ∧ p.2.length ≤ 3 ∧ ∀ H', Same H H' → Q (.bl (K79.isEnd b p)) H'
theorem ok_is_end {k : Nat} (D : Df K mg "is_end" sIsEnd ["book", "pending"]) (T : Tx mg) (cG : Cl P w K mg base k "grown" ["pending", "one", "other"] spGrown) : Cl P w K mg base (k + 1) "is_end" ["book", "pending"] spIsEnd := by
  refine cl_of D scIsEnd (fun vs H Q E h => ?_) (fun f cdv A outer s H vs Q E hr h => ?_)
  · obtain ⟨a, r, b, p, rfl, _⟩ := h
    rfl
  obtain ⟨a, r, b, p, rfl, hb, hg, hp, hm, hl, q⟩ := h
  obtain ⟨wa, rs, ha, hw⟩ := hb
  have h2 := hg.s4
  have h4 := hg.e4
  refine ⟨_, (pss_one (ps_ret (pe_cmpR (op_eqD hr.units) (pe_cl cG hr (Nat.le_refl _) (by rfl) (pa_cons (pv 1) (pa_cons (K79R.pe_revS (pe_ix ix_tup (pv 0) pe_int (fun _ _ => rfl))) (pa_cons (pe_ix ix_tup (pv 0) pe_int (fun _ _ => rfl)) pa_nil)))) (pe_tup (pa_cons pe_int (pa_cons pe_str pa_nil))) (nomark _)))), ?_⟩
  refine ⟨.ref r, rfl, .ref a, rfl, a, _, 0, _, rfl, rfl, .of ha, atI_nat (j := 0) rfl, b.start, rfl, small_of (by omega), .ref a, rfl, a, _, 1, _, rfl, rfl, .of ha, atI_nat (j := 1) rfl, r, p, b.start.reverse, b.stop, rfl, hp, by omega, by rw [List.length_reverse]; omega, by omega, fun e H1 s1 => ?_, fun z e f H1 s1 nf hf => ?_⟩
  · refine ⟨small_of (Nat.le_add_left 2 998), fun t nt => ⟨.none, .tuple [.int 0, .str (S [])], .non, .tup (.of upd_same) (.cons (.int _) (.cons (.str _) .nil)), rfl, shaped_pn 0 mods_nil, ?_⟩⟩
    have ee : K79.isEnd b p = false := by unfold K79.isEnd; rw [e]; rfl
    rw [ee] at q
    exact q _ (same_upd' (s1.free nt) s1)
  · refine ⟨small_of (Nat.le_add_left 2 998), fun t nt => ⟨_, .tuple [.int 0, .str (S [])], dp_pn (hf.ts (TS.updN nt)), .tup (.of upd_same) (.cons (.int _) (.cons (.str _) .nil)), shaped_pn _ (grown_mods hm (K79.mods_rev hg.sm) hg.em e), shaped_pn 0 mods_nil, ?_⟩⟩
    rw [eqv_end]
    have ee : K79.isEnd b p = (some z == some (0, [])) := by unfold K79.isEnd; rw [e]
    rw [ee] at q
    exact q _ (same_upd' (s1.free nt) s1)
def spIsPend : Sp := fun vs H Q _ => ∃ (r : Addr) (b : K79.Bk) (p : K79.Pn), vs = [.ref r] ∧ PnAt H r p ∧ K79.GoodP b p ∧ ∀ H', Same H H' → Q (.bl true) H'
theorem ok_is_pend {k : Nat} (D : Df K mg "is_pending" sIsPend ["thing"]) (T : Tx mg) (cW : Cl P w K mg base k "is_whole" ["thing", "least", "most"] spWhole) : Cl P w K mg base (k + 1) "is_pending" ["thing"] spIsPend := by
  refine cl_of D scIsPend (fun vs H Q E h => ?_) (fun f cdv A outer s H vs Q E hr h => ?_)
  · obtain ⟨r, b, p, rfl, _⟩ := h
    rfl
  obtain ⟨r, b, p, rfl, hp, hg, q⟩ := h
  have hp' : H r = some (.tup [.int (p.1 : Nat), .str (S p.2)]) := hp
  have hl := hg.len
  have hz : (S p.2).length ≤ sizeLine := by rw [S_len]; exact small_of (by omega)
  have h01 : 0 ≤ ((p.1 : Nat) : Int) ∧ ((p.1 : Nat) : Int) ≤ 1 := by
    rcases hg.side with e | e <;> rw [e] <;> decide
  refine ⟨_, (pss_cons (ps_if (PW.pt (pw_or (pt_not (pt_val (pe_callB call_isi (by rfl) T.isi (by decide +kernel) (pa_cons (pv 0) (pa_cons (pe_bltn (v := .ty "tuple") (by rfl) T.tuple (by decide +kernel) rfl) pa_nil))))) (pw_or (pt_cmpR op_ne (pe_callB call_len_seq (by rfl) T.len PySem.boot_len (pa_cons (pv 0) pa_nil)) pe_int (nomark _)) (pw_or1 (pt_not (pt_val (pe_cl cW hr (Nat.le_refl _) (by rfl) (pa_cons (pe_ix ix_tup (pv 0) pe_int (fun _ _ => rfl)) (pa_cons pe_int (pa_cons pe_int pa_nil)))))))))) (pss_one (ps_ret pe_bl)) pss_nil)
    (pss_cons (ps_if (PW.pt (pw_or (pt_not (pt_val (pe_callB call_isi (by rfl) T.isi (by decide +kernel) (pa_cons (pe_ix ix_tup (pv 0) pe_int (fun _ _ => rfl)) (pa_cons (pe_bltn (v := .ty "str") (by rfl) T.str (by decide +kernel) rfl) pa_nil))))) (pw_or1 (pt_not (pt_val (pe_callB (cr_all rfl) (by rfl) T.all (by decide +kernel) (pa_cons (pe_lc (own := [("module", 1)]) (g := (gName 1)) (tt := tYes) rfl scIsPend.nd (pi_str (pe_ix ix_tup (pv 0) pe_int (fun _ _ => rfl))) (blkOk_by (own := [("module", 1)]) (N := ["thing", "module"]) (sc := defScope sIsPend) (by decide +kernel))
      (fun _ _ _ _ _ => (pg_name (i := 1) scIsPend.nd rfl (Or.inl rfl))) (fun _ _ _ _ _ => pts_nil) (fun _ _ _ _ _ => (pe_cmpR op_in_sign (pv 1) (C8.pe_gc (by rfl) T.modules) (by rfl)))) pa_nil))))))) (pss_one (ps_ret pe_bl)) pss_nil)
    (pss_one (ps_ret (pe_or (pe_cmpR op_ne (pe_ix ix_tup (pv 0) pe_int (fun _ _ => rfl)) pe_str (nomark _)) (pe_one (pe_cmpR op_eq (pe_ix ix_tup (pv 0) pe_int (fun _ _ => rfl)) pe_int (nomark _)))))))), ?_⟩
  refine ⟨.ref r, rfl, _, _, _, _, true, rfl, .ty "tuple", .base (.tup hp), kit_ty (by decide +kernel), true, rfl, iteF ⟨.ref r, rfl, r, _, rfl, .inr (.of hp'), rfl, false, rfl, iteF ?_⟩⟩
  refine ⟨.ref r, rfl, r, _, 0, _, rfl, rfl, .of hp', atI_nat (j := 0) rfl, _, 0, 1, rfl, h01.1, h01.2, true, rfl, iteF ?_⟩
  refine ⟨.ref r, rfl, r, _, 1, _, rfl, rfl, .of hp', atI_nat (j := 1) rfl, _, _, _, _, true, rfl, .ty "str", .base (.str _), kit_ty (by decide +kernel), true, rfl, iteF ?_⟩
  refine ⟨.ref r, rfl, r, _, 1, _, rfl, rfl, .of hp', atI_nat (j := 1) rfl, S p.2, rfl, fun C hC => lc_fn walk_str (fun _ => .bl true) hC (fun _ _ => trivial) hz (fun i x H1 H' Nx hi sm y hN => ?_) fun H1 sm hD => ?_⟩
  · obtain ⟨rfl, c, hc, rfl⟩ := y
    refine ⟨rfl, _, rfl, c, _, rfl, rfl, ?_⟩
    rw [in_mods hg.mods hc]
    exact hN _ (Same.refl _)
  rw [rng_bl] at hD
  refine ⟨C, _, rfl, .of hD, true, by rw [all_rep], iteF ?_⟩
  have hp1 := sm _ _ hp'
  refine ⟨.ref r, rfl, r, _, 1, _, rfl, rfl, .of hp1, atI_nat (j := 1) rfl, rfl, _, rfl, ite2 (fun _ => q H1 sm) (fun hd => ?_)⟩
  · have e2 : p.2 = [] := by
      by_cases z : V.str (S p.2) = V.str (S [])
      · exact S_inj (V.str.inj z)
      · exact absurd (show (!decide (V.str (S p.2) = V.str (S []))) = true by rw [decide_eq_false z]; rfl) hd
    have e1 : p.1 = 0 := by
      rcases hg.side with e | e
      · exact e
      · exact absurd e2 (hg.ne e)
    refine ⟨.ref r, rfl, r, _, 0, _, rfl, rfl, .of hp1, atI_nat (j := 0) rfl, rfl, ?_⟩
    rw [decide_eq_true (by rw [e1]; rfl)]
    exact q H1 sm
def spDoes : Sp := fun vs H Q _ => ∃ (a : Addr) (b : K79.Bk) (t : List Nat), vs = [.ref a, .str (S t)] ∧ BkAt H a b ∧ K79.Good b ∧ K79.Sgs b t ∧ t ≠ [] ∧ t.length ≤ 100 ∧ ∀ H', Same H H' → Q (.bl (K79.textOf b (K79.bars b t).reverse).isSome) H'
theorem ok_does {k : Nat} (D : Df K mg "does_turn" sDoes ["book", "text"]) (T : Tx mg) (cW : Cl P w K mg base k "words_of" ["book"] spWordsOf)(cB : Cl P w K mg base k "bars_of" ["book", "text"] spBarsOf)(cO : Cl P w K mg base k "text_of" ["book", "string"] spTextOf) : Cl P w K mg base (k + 1) "does_turn" ["book", "text"] spDoes := by
  refine cl_of D scDoes (fun vs H Q E h => ?_) (fun f cdv A outer s H vs Q E hr h => ?_)
  · obtain ⟨a, b, t, rfl, _⟩ := h
    rfl
  obtain ⟨a, b, t, rfl, hb, hg, hs, hne, hl, q⟩ := h
  have hz : (S t).length ≤ sizeLine := by rw [S_len]; exact small_of (by omega)
  have hsm := bars_small hg hs hl
  refine ⟨_, (pss_cons (ps_if (PW.pt (pw_or (pt_not (pt_val (pe_callB call_isi (by rfl) T.isi (by decide +kernel) (pa_cons (pv 1) (pa_cons (pe_bltn (v := .ty "str") (by rfl) T.str (by decide +kernel) rfl) pa_nil))))) (pw_or (pt_cmpR op_eq (pv 1) pe_str (nomark _)) (pw_or1 (pt_not (pt_val (pe_callB (cr_all rfl) (by rfl) T.all (by decide +kernel) (pa_cons (pe_lc (own := [("sign", 2)]) (g := (gName 2)) (tt := tYes) rfl scDoes.nd (pi_str (pv 1)) (blkOk_by (own := [("sign", 2)]) (N := ["book", "text", "sign"]) (sc := defScope sDoes) (by decide +kernel))
      (fun _ _ _ _ _ => (pg_name (i := 2) scDoes.nd rfl (Or.inl rfl))) (fun _ _ _ _ _ => pts_nil) (fun _ _ _ _ _ => (pe_cmp (pc_din (hu_of hr) (pv 2) (pe_cl cW hr (Nat.le_refl _) (by rfl) (pa_cons (pv 0) pa_nil))) rfl))) pa_nil)))))))) (pss_one (ps_ret pe_bl)) pss_nil)
    (pss_one (ps_ret (pe_cmpR op_notN (pe_cl cO hr (Nat.le_refl _) (by rfl) (pa_cons (pv 0) (pa_cons (K79R.pe_revS (pe_cl cB hr (Nat.le_refl _) (by rfl) (pa_cons (pv 0) (pa_cons (pv 1) pa_nil)))) pa_nil))) pe_non (nomark _))))), ?_⟩
  refine ⟨.str (S t), rfl, _, _, _, _, true, rfl, .ty "str", .base (.str _), kit_ty (by decide +kernel), true, rfl, iteF ⟨.str (S t), rfl, rfl, false, ?_, iteF ?_⟩⟩
  · exact congrArg V.bl (decide_eq_false (S_ne hne))
  refine ⟨.str (S t), rfl, S t, rfl, fun C hC => lc_fn walk_str (fun _ => .bl true) hC (fun _ _ => trivial) hz (fun i x H1 H' Nx hi sm y hN => ?_) fun H1 sm hD => ?_⟩
  · obtain ⟨rfl, c, hc, rfl⟩ := y
    obtain ⟨hc1, hc2⟩ := sgs_get hs hc
    refine ⟨rfl, _, rfl, .ref a, rfl, a, b, rfl, hb.same sm, hg, fun H2 d s2 e2 => ⟨d, _, rfl, DGet.k (k := Sum.inr (S [c])) e2, ?_⟩⟩
    rw [val_look hc1]
    exact hN H2 s2
  rw [rng_bl] at hD
  refine ⟨C, _, rfl, .of hD, true, by rw [all_rep], iteF ?_⟩
  refine ⟨.ref a, rfl, .ref a, rfl, .str (S t), rfl, a, b, t, rfl, hb.same sm, hg, hs, hne, hl, fun H4 s4 => ⟨_, rfl, small_of (by omega), a, b, _, rfl, hb.same (sm.trans s4), hg, by rw [List.length_reverse]; omega, fun H5 s5 => ⟨rfl, ?_⟩⟩⟩
  have q := q H5 ((sm.trans s4).trans s5)
  cases h : K79.textOf b (K79.bars b t).reverse with
  | none => rw [h] at q; exact q
  | some f => rw [h] at q; exact q
end
end K79W
set_option Elab.async false
set_option linter.all false
set_option maxRecDepth 100000
set_option maxHeartbeats 2000000
/-! # The walk of the search -/
namespace K79W
open PySem PySem.Spec PyProof.Rows L2 SX
section
variable {P : Program} {w : World} {K : PySem.W.Frag} {mg : Str → Option Value} {base : Heap}
def pkey (p : K79.Pn) : List Key := [.inl (p.1 : Nat), .inr (S p.2)]
theorem pkey_inj {p q : K79.Pn} (h : pkey p = pkey q) : p = q := by
  obtain ⟨s, t⟩ := p
  obtain ⟨s', t'⟩ := q
  have h1 := (List.cons.inj h).1
  have h2 := (List.cons.inj (List.cons.inj h).2).1
  have e1 : ((s : Nat) : Int) = (s' : Nat) := Sum.inl.inj h1
  have e2 : t = t' := S_inj (Sum.inr.inj h2)
  have e3 : s = s' := by omega
  rw [e2, e3]
theorem PnAt.key {H : Hp} {r : Addr} {p : K79.Pn} (h : PnAt H r p) : H r = some (.tup ((pkey p).map kV)) := h
def knd (vf : K79.Pn × List Nat → V) (k : K79.Kn) : List (List Key × V) := k.map fun q => (pkey q.1, vf q)
theorem val_knd (vf : K79.Pn × List Nat → V) (p : K79.Pn) : ∀ k : K79.Kn, (valV (knd vf k) (pkey p)).isSome = decide (p ∈ K79.keys k)
  | [] => rfl
  | q :: k => by
    have ih := val_knd vf p k
    by_cases e : q.1 = p
    · rw [show knd vf (q :: k) = (pkey q.1, vf q) :: knd vf k from rfl, valV_pos (by show pkey q.1 = pkey p; rw [e])]
      rw [decide_eq_true (show p ∈ K79.keys (q :: k) from by rw [← e]; exact List.mem_cons_self ..)]
      rfl
    · rw [show knd vf (q :: k) = (pkey q.1, vf q) :: knd vf k from rfl, valV_neg (fun z => e (pkey_inj z)), ih]
      have : p ∈ K79.keys (q :: k) ↔ p ∈ K79.keys k := by
        unfold K79.keys
        rw [List.map_cons, List.mem_cons]
        exact ⟨fun h => h.elim (fun z => absurd z.symm e) id, .inr⟩
      rw [Bool.eq_iff_iff, decide_eq_true_iff, decide_eq_true_iff]
      exact this.symm
theorem put_knd (vf : K79.Pn × List Nat → V) {k : K79.Kn} {q : K79.Pn × List Nat} (h : q.1 ∉ K79.keys k) : putK (knd vf k) (pkey q.1) (vf q) = knd vf (k ++ [q]) := by
  have hv : valV (knd vf k) (pkey q.1) = none := by
    have := val_knd vf q.1 k
    rw [decide_eq_false h] at this
    cases e : valV (knd vf k) (pkey q.1) with
    | none => rfl
    | some _ => rw [e] at this; cases this
  rw [putK_new _ hv]
  unfold knd
  rw [List.map_append]
  rfl
abbrev ktext : K79.Kn → List (List Key × V) := knd fun q => .str (S q.2)
def KnAt (H : Hp) (d : Addr) (k : K79.Kn) : Prop := H d = some (.dT (ktext k))
theorem KnAt.same {H H' : Hp} {d : Addr} {k : K79.Kn} (h : KnAt H d k) (s : Same H H') : KnAt H' d k := s _ _ h
def ItAt (H : Hp) (r : Addr) (q : K79.Pn × List Nat) : Prop := ∃ f : Addr, H r = some (.tup [.ref f, .str (S q.2)]) ∧ PnAt H f q.1
theorem ItAt.ts {H H' : Hp} {r : Addr} {e : K79.Pn × List Nat} (h : ItAt H r e) (s : TS H H') : ItAt H' r e := by
  obtain ⟨f, h1, h2⟩ := h
  exact ⟨f, s _ _ h1, h2.ts s⟩
/-! runs, turn by turn -/
theorem run_turn {S' E X : Type} {f : S' → E → Except X S'} {es : List E} {j : Nat} {e : E} {s s' s2 : S'} (he : es[j]? = some e) (h : K79.run f (es.take j) s = .ok s') (h2 : f s' e = .ok s2) : K79.run f (es.take (j + 1)) s = .ok s2 := by
  rw [List.take_add_one, he]
  show K79.run f (es.take j ++ [e]) s = _
  rw [K79.run_snoc h, h2]
theorem run_stop {S' E X : Type} {f : S' → E → Except X S'} {es : List E} {j : Nat} {e : E} {s s' : S'} {x : X} (he : es[j]? = some e) (h : K79.run f (es.take j) s = .ok s') (h2 : f s' e = .error x) : K79.run f es s = .error x := by
  have h3 : K79.run f (es.take (j + 1)) s = .error x := by
    rw [List.take_add_one, he]
    show K79.run f (es.take j ++ [e]) s = _
    rw [K79.run_snoc h, h2]
  have := K79.run_err (ys := es.drop (j + 1)) h3
  rwa [List.take_append_drop] at this
theorem linv_small {b : K79.Bk} {d : Nat} {k0 : K79.Kn} {st : K79.Kn × K79.Kn} (g : K79.Good b) (I : K79.LInv b d k0 st) : st.1.length ≤ 30 := by
  have h := K79.nodup_len (K79.keys st.1) K79.univ I.nd fun p hp => by
    obtain ⟨q, hq, e⟩ := List.mem_map.mp hp
    obtain ⟨f, hf⟩ := I.path q hq
    rw [← e]
    exact (hf.good g).univ
  rw [K79.univ_len] at h
  simpa [K79.keys] using h
/-! a layer as data -/
def itD (q : K79.Pn × List Nat) : PyData := .tuple [.tuple [.int (q.1.1 : Nat), .str (S q.1.2)], .str (S q.2)]
theorem dpAll_each {α : Type} {K : PySem.W.Frag} {H : Hp} {f : α → PyData} : ∀ {es : List α} {xs : List V}, Each (fun r q => Dp K H (.ref r) (f q)) xs es → DpAll K H xs (es.map f)
  | [], [], _ => .nil
  | [], x :: xs, h => absurd h.1 (by simp)
  | e :: es, [], h => absurd h.1 (by simp)
  | e :: es, x :: xs, h => by
    obtain ⟨r, h1, h2⟩ := h.2 0 e rfl
    have hx : x = .ref r := Option.some.inj h1
    subst hx
    refine .cons h2 (dpAll_each (es := es) (xs := xs) ⟨by have := h.1; simpa using this, fun i e' he => h.2 (i + 1) e' he⟩)
theorem dp_it {K : PySem.W.Frag} {H : Hp} {r : Addr} {q : K79.Pn × List Nat} (h : ItAt H r q) : Dp K H (.ref r) (itD q) := by
  obtain ⟨f, h1, h2⟩ := h
  exact .tup (.of h1) (.cons (dp_pn h2) (.cons (.str _) .nil))
def SmallT (l : List Nat) : Prop := ∀ c ∈ l, c < 1000
theorem str_small {l : List Nat} (h : SmallT l) : PyData.strOk (S l) = true := by
  show l.toArray.all _ = true
  rw [List.all_toArray, List.all_eq_true]
  intro c hc
  have := h c hc
  exact decide_eq_true (by omega)
theorem mods_small {l : List Nat} (h : K79.Mods l) : SmallT l := fun c hc => by rcases h c hc with rfl | rfl <;> omega
theorem sgs_small {b : K79.Bk} {t : List Nat} (g : K79.Good b) (h : K79.Sgs b t) : SmallT t := fun c hc => by
  obtain ⟨p, hp, e⟩ := List.mem_map.mp (h c hc)
  rcases g.sg p hp with z | z | z | z | z <;> omega
theorem lay_list {es : List (K79.Pn × List Nat)} (h : ∀ q ∈ es, SmallT q.1.2 ∧ SmallT q.2) : PyData.canLayAll0 (es.map itD) = true ∧ PyData.depthAll (es.map itD) ≤ 2 := by
  induction es with
  | nil => exact ⟨by simp [PyData.canLayAll0], by simp [PyData.depthAll]⟩
  | cons q es ih =>
    obtain ⟨i1, i2⟩ := ih fun x hx => h x (List.mem_cons_of_mem _ hx)
    obtain ⟨h1, h2⟩ := h q (List.mem_cons_self ..)
    rw [List.map_cons]
    refine ⟨?_, ?_⟩
    · simp only [PyData.canLayAll0, i1, itD, PyData.canLay0, str_small h1, str_small h2]
      rfl
    · simp only [PyData.depthAll, itD, PyData.depth]
      omega
theorem shaped_lay {es : List (K79.Pn × List Nat)} (h : ∀ q ∈ es, SmallT q.1.2 ∧ SmallT q.2) : SeqAt.shaped (.list (es.map itD)) = true := by
  obtain ⟨h1, h2⟩ := lay_list h
  unfold SeqAt.shaped
  rw [Bool.and_eq_true]
  refine ⟨by simp only [PyData.canLay0, h1], decide_eq_true ?_⟩
  simp only [PyData.depth]
  omega
theorem shaped_nil : SeqAt.shaped (.list []) = true := by
  unfold SeqAt.shaped
  simp only [PyData.canLay0, PyData.canLayAll0, PyData.depth, PyData.depthAll]
  rfl
theorem Each.emp {α : Type} {R : Addr → α → Prop} {xs : List V} (h : Each R xs []) : xs = [] := List.eq_nil_of_length_eq_zero h.1
theorem eqv_nil {xs : List PyData} (h : xs ≠ []) : PyData.eqv (.list xs) (.list []) = false := by
  cases xs with
  | nil => exact absurd rfl h
  | cons x r => rfl
theorem eqv_nil0 : PyData.eqv (.list []) (.list []) = true := rfl
theorem lay_small {b : K79.Bk} (g : K79.Good b) {d : Nat} {k l : K79.Kn} (I : K79.SInv b d k l) : ∀ q ∈ l, SmallT q.1.2 ∧ SmallT q.2 := fun q hq => by
  obtain ⟨f, hf⟩ := I.path q (I.lay q hq).1
  exact ⟨mods_small (hf.good g).mods, sgs_small g hf.st⟩
def spSearched : Sp := fun vs H Q _ => ∃ (a : Addr) (b : K79.Bk), vs = [.ref a] ∧ BkAt H a b ∧ K79.Good b ∧ (∀ t, K79.search b = some (.error t) → ∀ r kd H', Same H H' → H' r = some (.tup [.str (S t), .ref kd]) → Q (.ref r) H') ∧
  ∀ k, K79.search b = some (.ok k) → ∀ r kd H', Same H H' → H' r = some (.tup [.non, .ref kd]) → KnAt H' kd k → Q (.ref r) H'
theorem ok_searched {k : Nat} (D : Df K mg "searched" sSearched ["book"]) (T : Tx mg) (cP : Cl P w K mg base k "pending_of" ["one", "other"] spPend)(cN : Cl P w K mg base k "next_pendings" ["book", "pending"] spNexts)(cE : Cl P w K mg base k "is_end" ["book", "pending"] spIsEnd) : Cl P w K mg base (k + 1) "searched" ["book"] spSearched := by
  refine cl_of D scSearched (fun vs H Q E h => ?_) (fun f cdv A outer s H vs Q E hr h => ?_)
  · obtain ⟨a, b, rfl, _⟩ := h
    rfl
  obtain ⟨a, b, rfl, hb, hg, q0, q1⟩ := h
  obtain ⟨wa, rs, ha, hw⟩ := id hb
  have h2 := hg.s4
  have h4 := hg.e4
  have hu0 := Nat.lt_of_succ_lt (hu_of hr)
  refine ⟨_, (pss_cons (ps_set (i := 1) scSearched.nd rfl (Or.inl rfl) (pe_cl cP hr (Nat.le_refl _) (by rfl) (pa_cons (K79R.pe_revS (pe_ix ix_tup (pv 0) pe_int (fun _ _ => rfl))) (pa_cons (pe_ix ix_tup (pv 0) pe_int (fun _ _ => rfl)) pa_nil))))
    (pss_cons (ps_if (pt_cmpR op_isN (pv 1) pe_non (nomark _)) (pss_one (ps_ret (pe_tup (pa_cons pe_non (pa_cons pe_dnewT pa_nil))))) pss_nil)
    (pss_cons (ps_par (i := 2) (j := 3) (by rfl) scSearched.nd rfl rfl (by decide) rfl rfl (pa_cons (K79R.pe_dispT hu0 (pps_cons (pv 1) pe_str pps_nil)) (pa_cons (pe_lst (pa_cons (pe_tup (pa_cons (pv 1) (pa_cons pe_str pa_nil))) pa_nil)) pa_nil)) (by rfl))
    (pss_cons (ps_while PassesOwn.never (pt_cmpR (op_neD hr.units) (pv 3) (pe_lst pa_nil) (nomark _)) (pss_cons (ps_set (i := 4) scSearched.nd rfl (Or.inl rfl) (pe_lst pa_nil))
    (pss_cons (ps_for PassesOwn.never rfl (pi_list (pv 3)) (pg_tup rfl (pgs_cons (pg_name (i := 5) scSearched.nd rfl (Or.inl rfl)) (pgs_cons (pg_name (i := 6) scSearched.nd rfl (Or.inl rfl)) pgs_nil))) (pss_one (ps_for PassesOwn.never rfl (pi_list (pe_cl cN hr (Nat.le_refl _) (by rfl) (pa_cons (pv 0) (pa_cons (pv 5) pa_nil)))) (pg_tup rfl (pgs_cons (pg_name (i := 7) scSearched.nd rfl (Or.inl rfl)) (pgs_cons (pg_name (i := 8) scSearched.nd rfl (Or.inl rfl)) (pgs_cons (pg_name (i := 9) scSearched.nd rfl (Or.inl rfl)) pgs_nil)))) (pss_cons (ps_if (pt_val (pe_cl cE hr (Nat.le_refl _) (by rfl) (pa_cons (pv 0) (pa_cons (pv 7) pa_nil)))) (pss_one (ps_ret (pe_tup (pa_cons (pe_op op_add_str (pv 8) (pv 6)) (pa_cons (pv 2) pa_nil))))) pss_nil)
    (pss_one (ps_if (pt_cmp (pc_dnotin (hu_of hr) (pv 7) (pv 2))) (pss_cons (ps_dput (hu_of hr) (pv 2) (pv 7) (pe_op op_add_str (pv 8) (pv 6)) rfl)
    (pss_one (ps_expr (pe_bm PySem.F.plainAttrs_list PySem.F.slot_list_append PySem.F.type_list_append mt_append (pv 4) (pa_cons (pe_tup (pa_cons (pv 7) (pa_cons (pe_op op_add_str (pv 8) (pv 6)) pa_nil))) pa_nil))))) pss_nil))))))
    (pss_one (ps_set (i := 3) scSearched.nd rfl (Or.inl rfl) (pv 4))))))
    (pss_one (ps_ret (pe_tup (pa_cons pe_non (pa_cons (pv 2) pa_nil))))))))), ?_⟩
  refine ⟨.ref a, rfl, a, _, 1, _, rfl, rfl, .of ha, atI_nat (j := 1) rfl, b.stop, rfl, small_of (by omega), .ref a, rfl, a, _, 0, _, rfl, rfl, .of ha, atI_nat (j := 0) rfl, b.stop.reverse, b.start, rfl, by rw [List.length_reverse]; omega, by omega, fun e H1 s1 => ?_, fun p e f H1 s1 nf hf => ?_⟩
  -- neither begins with the other
  · have es : K79.search b = some (.ok []) := by
      unfold K79.search
      rw [show K79.first b = none from e]
    refine ⟨_, rfl, rfl, _, rfl, iteT (fun d nd => ⟨small_of (Nat.le_add_left 2 998), fun t nt => ?_⟩)⟩
    have ed : (upd (upd H1 d (.dT [])) t (.tup [.non, .ref d])) d = some (.dT []) := by
      rw [upd_ne (ne_of_none upd_same nt), upd_same]
    exact q1 [] es t d _ (same_upd' (s1.free ((same_upd nd).free nt)) (s1.trans (same_upd nd))) upd_same ed
  refine ⟨.ref f, rfl, rfl, false, rfl, iteF ?_⟩
  have hf0 : K79.first b = some p := e
  refine fun kd nk => ⟨.ref f, rfl, pkey p, f, rfl, upd_same, by rw [upd_ne (ne_of_none hf nk)]; exact hf, ?_⟩
  have sK : Same H (upd (upd H1 kd (.dT [])) kd (.dT [(pkey p, .str "")])) := same_upd' (s1.free nk) (same_upd' (s1.free nk) s1)
  have tK : TS H1 (upd (upd H1 kd (.dT [])) kd (.dT [(pkey p, .str "")])) := (TS.updN nk).trans (TS.updT upd_same)
  have eK : (upd (upd H1 kd (.dT [])) kd (.dT [(pkey p, .str "")])) kd = some (.dT (ktext [(p, [])])) := upd_same
  generalize (upd (upd H1 kd (.dT [])) kd (.dT [(pkey p, .str "")])) = HK at sK tK eK ⊢
  refine ⟨.ref f, rfl, small_of (Nat.le_add_left 2 998), fun t nt => ⟨small_of (Nat.le_add_left 1 999), fun l nl => ⟨.ref kd, .ref l, rfl, ?_⟩⟩⟩
  have hInit : ∃ r, K79.search b = some r := K79.search_ends hg
  obtain ⟨R, hR⟩ := hInit
  have hR2 : K79.searchF b K79.fuel [(p, [])] [(p, [])] = some R := by
    have := hR
    unfold K79.search at this
    rw [hf0] at this
    exact this
  have sT : Same HK (upd HK t (.tup [.ref f, .str ""])) := same_upd nt
  have sL : Same (upd HK t (.tup [.ref f, .str ""])) (upd (upd HK t (.tup [.ref f, .str ""])) l (.lst [.ref t])) := same_upd nl
  refine ⟨fun m σ H3 => ∃ k lay l xs y4 y5 y6 y7 y8 y9, σ = [some (.ref a), some (.ref f), some (.ref kd), some (.ref l), y4, y5, y6, y7, y8, y9] ∧ Same H H3 ∧ KnAt H3 kd k ∧ H3 l = some (.lst xs) ∧ Each (ItAt H3) xs lay ∧ ∃ d, K79.SInv b d k lay ∧ d + m ≤ 40 ∧ K79.searchF b m k lay = some R,
    ⟨K79.fuel, [(p, [])], [(p, [])], l, [.ref t], none, none, none, none, none, none, rfl, (sK.trans sT).trans sL, sL _ _ (sT _ _ eK), upd_same, ?_, 0, K79.SInv.start hg hf0, by decide, hR2⟩, fun m σ H3 hW => ?_⟩
  · have hit : ItAt (upd (upd HK t (.tup [.ref f, .str ""])) l (.lst [.ref t])) t (p, []) := ⟨f, sL _ _ upd_same, hf.ts ((tK.trans (TS.of sT)).trans (TS.of sL))⟩
    exact Each.nil.snoc hit
  obtain ⟨k, lay, l, xs, y4, y5, y6, y7, y8, y9, rfl, s3, eK3, eL, hE, d, I, hdm, hS⟩ := hW
  have nkd : H kd = none := s1.free nk
  have hsl := lay_small hg I
  refine ⟨.ref l, rfl, Nat.zero_le _, fun z nz => ⟨.list (lay.map itD), .list [], .lst (.of ((same_upd nz) _ _ eL)) (dpAll_each (hE.mono fun r q h => dp_it (h.ts (TS.updN nz)))), .lst (.of upd_same) .nil, shaped_lay hsl, shaped_nil, _, rfl, ?_⟩⟩
  have s4 : Same H3 (upd H3 z (.lst [])) := same_upd nz
  by_cases hl : lay = []
  · subst hl
    refine iteF ?_
    have hk : some (Except.ok k) = some R := by
      have e2 : K79.searchF b m k [] = some (.ok k) := by cases m <;> rfl
      rw [← e2, hS]
    have hk2 := Option.some.inj hk
    subst hk2
    refine ⟨.ref kd, rfl, small_of (Nat.le_add_left 2 998), fun t2 nt2 => ?_⟩
    exact q1 k hR t2 kd _ (same_upd' (s3.free (s4.free nt2)) (s3.trans s4)) upd_same (by
      show _ = some _
      rw [upd_ne (ne_of_none (s4 _ _ eK3) nt2)]
      exact s4 _ _ eK3)
  have hcond : (!PyData.eqv (.list (lay.map itD)) (.list [])) = true := by
    rw [eqv_nil (fun z => hl (List.map_eq_nil_iff.mp z))]
    rfl
  refine ite2 (fun _ => ?_) (fun z => absurd hcond z)
  obtain ⟨m', rfl⟩ : ∃ m', m = m' + 1 := by
    cases m with
    | zero => cases lay with
      | nil => exact absurd rfl hl
      | cons x r => cases hS
    | succ m' => exact ⟨m', rfl⟩
  have hS2 : (match K79.layerStep b k lay with | .error t => some (.error t) | .ok st => K79.searchF b m' st.1 st.2) = some R := by
    cases lay with
    | nil => exact absurd rfl hl
    | cons x r => exact hS
  refine ⟨fun σ' H' => ∃ m2, m2 < m' + 1 ∧ (∃ k lay l xs y4 y5 y6 y7 y8 y9, σ' = [some (.ref a), some (.ref f), some (.ref kd), some (.ref l), y4, y5, y6, y7, y8, y9] ∧ Same H H' ∧ KnAt H' kd k ∧ H' l = some (.lst xs) ∧ Each (ItAt H') xs lay ∧ ∃ d, K79.SInv b d k lay ∧ d + m2 ≤ 40 ∧ K79.searchF b m2 k lay = some R), fun _ _ h => h, ?_⟩
  refine ⟨Nat.zero_le _, fun fo nfo => ?_⟩
  have s5 : Same (upd H3 z (.lst [])) (upd (upd H3 z (.lst [])) fo (.lst [])) := same_upd nfo
  have s35 : Same H3 (upd (upd H3 z (.lst [])) fo (.lst [])) := s4.trans s5
  have nfoH : H fo = none := s3.free (s4.free nfo)
  have nlfo : l ≠ fo := ne_of_none (s4 _ _ eL) nfo
  have nkfo : kd ≠ fo := ne_of_none (s4 _ _ eK3) nfo
  have efo : (upd (upd H3 z (.lst [])) fo (.lst [])) fo = some (.lst []) := upd_same
  generalize (upd (upd H3 z (.lst [])) fo (.lst [])) = H5 at s5 s35 efo ⊢
  refine ⟨.ref l, rfl, l, rfl, ⟨_, .of (s35 _ _ eL)⟩, for_list (xs := xs) (fun i σ H6 => ∃ y5 y6 y7 y8 y9 st, σ = [some (.ref a), some (.ref f), some (.ref kd), some (.ref l), some (.ref fo), y5, y6, y7, y8, y9] ∧ Same H H6 ∧ TS H3 H6 ∧ H6 l = some (.lst xs) ∧ KnAt H6 kd st.1 ∧
      (∃ fs, H6 fo = some (.lst fs) ∧ Each (ItAt H6) fs st.2) ∧ K79.run (K79.item b) (lay.take i) (k, []) = .ok st)
    ⟨y5, y6, y7, y8, y9, (k, []), rfl, s3.trans s35, TS.of s35, s35 _ _ eL, KnAt.same eK3 s35, ⟨[], efo, Each.nil⟩, rfl⟩ (fun i σ H _ p => by obtain ⟨_, _, _, _, _, _, _, _, _, p, _⟩ := p; exact .of p) (fun i x σ H6 hx p => ?_) (fun σ H6 p => ?_)⟩
  · obtain ⟨y5, y6, y7, y8, y9, st, rfl, s6, t6, eL6, eK6, ⟨fs, eF6, hF6⟩, hrun⟩ := p
    obtain ⟨r, q, rfl, eq, hq, f', hr1, hr2⟩ := (hE.mono fun r q h => h.ts t6).at hx
    obtain ⟨⟨fq, hPq⟩, hlq⟩ := I.items q hq
    have gq := hPq.good hg
    have hL : K79.LInv b d k st := ((K79.run_items hg (l := lay.take i) (fun q hq => I.items q (List.mem_of_mem_take hq)) I.linv).1 st hrun).1
    refine ⟨r, _, rfl, .of hr1, rfl, _, _, rfl, _, _, rfl, rfl, ?_⟩
    refine ⟨.ref a, rfl, .ref f', rfl, a, f', b, q.1, rfl, hb.same s6, hg, hr2, gq.len, fun o7 H7 es7 s7 n7 e7 hE7 => ?_⟩
    have n7l : o7 ≠ l := (ne_of_none eL6 n7).symm
    have n7k : o7 ≠ kd := (ne_of_none eK6 n7).symm
    have n7f : o7 ≠ fo := (ne_of_none eF6 n7).symm
    refine ⟨o7, rfl, ⟨_, .of e7⟩, for_list (xs := es7) (fun j σ H8 => ∃ y7 y8 y9 st2, σ = [some (.ref a), some (.ref f), some (.ref kd), some (.ref l), some (.ref fo), some (.ref f'), some (.str (S q.2)), y7, y8, y9] ∧ Same H H8 ∧ TS H7 H8 ∧ H8 l = some (.lst xs) ∧ KnAt H8 kd st2.1 ∧
        (∃ fs, H8 fo = some (.lst fs) ∧ Each (ItAt H8) fs st2.2) ∧ H8 o7 = some (.lst es7) ∧ K79.run (K79.edge b q.2) ((K79.nexts b q.1).take j) st = .ok st2)
      ⟨y7, y8, y9, st, rfl, s6.trans s7, TS.refl _, s7 _ _ eL6, KnAt.same eK6 s7, ⟨fs, s7 _ _ eF6, hF6.mono fun r e h => h.ts (TS.of s7)⟩, e7, rfl⟩ (fun i σ H _ p => by obtain ⟨_, _, _, _, _, _, _, _, _, _, p, _⟩ := p; exact .of p) (fun j x σ H8 hx p => ?_) (fun σ H8 p => ?_)⟩
    · obtain ⟨y7, y8, y9, st2, rfl, s8, t8, eL8, eK8, ⟨fs2, eF8, hF8⟩, e78, hrun2⟩ := p
      obtain ⟨re, e, rfl, ee, he, fe, he1, he2⟩ := (hE7.mono fun r q h => h.ts t8).at hx
      have hPe := hPq.step hg he
      have ge := hPe.good hg
      have hL2 : K79.LInv b d k st2 := ((K79.run_edges hg ⟨fq, hPq⟩ hlq (es := (K79.nexts b q.1).take j) (fun e he => List.mem_of_mem_take he) hL).1 st2 hrun2).1
      have hsm := linv_small hg hL2
      have hcat : S [e.2.1] ++ S q.2 = S (e.2.1 :: q.2) := S_cat _ _
      have hlen : (S [e.2.1]).length + (S q.2).length ≤ sizeLine := by
        rw [S_len, S_len, hlq]
        show 1 + d ≤ _
        exact small_of (by omega)
      refine ⟨re, _, rfl, .of he1, rfl, _, _, rfl, _, _, rfl, _, _, rfl, rfl, ?_⟩
      refine ⟨.ref a, rfl, .ref fe, rfl, a, fe, b, e.1, rfl, hb.same s8, hg, he2, ge.mods, ge.len, fun H9 s9 => ⟨_, rfl, ite2 (fun hend => ?_) (fun hend => ?_)⟩⟩
      · -- an end
        have hx1 : K79.edge b q.2 st2 e = .error (e.2.1 :: q.2) := by unfold K79.edge; rw [if_pos hend]
        have hx2 := run_stop ee hrun2 hx1
        have hx3 : K79.item b st q = .error (e.2.1 :: q.2) := hx2
        have hx4 : K79.layerStep b k lay = .error (e.2.1 :: q.2) := run_stop eq hrun hx3
        rw [hx4] at hS2
        have hR3 : R = .error (e.2.1 :: q.2) := (Option.some.inj hS2).symm
        rw [hR3] at hR
        refine ⟨.str (S [e.2.1]), rfl, .str (S q.2), rfl, _, _, rfl, rfl, hlen, .ref kd, rfl, small_of (Nat.le_add_left 2 998), fun t nt => ?_⟩
        refine q0 _ hR t kd _ (same_upd' (s8.free (s9.free nt)) (s8.trans s9)) ?_
        rw [upd_same, hcat]
      · have eK9 := s9 _ _ eK8
        have he29 := he2.ts (TS.of s9)
        refine ⟨.ref fe, rfl, .ref kd, rfl, kd, _, rfl, DGet.t (k := pkey e.1) eK9 he29.key, _, rfl, ?_⟩
        rw [val_knd]
        by_cases hin : e.1 ∈ K79.keys st2.1
        · rw [decide_eq_true hin]
          refine iteF ?_
          have hx1 : K79.edge b q.2 st2 e = .ok st2 := by unfold K79.edge; rw [if_neg hend, if_pos hin]
          exact ⟨_, _, _, st2, rfl, s8.trans s9, t8.trans (TS.of s9), s9 _ _ eL8, eK9, ⟨fs2, s9 _ _ eF8, hF8.mono fun r e h => h.ts (TS.of s9)⟩, s9 _ _ e78, run_turn ee hrun2 hx1⟩
        · rw [decide_eq_false hin]
          refine iteT ?_
          have hx1 : K79.edge b q.2 st2 e = .ok (st2.1 ++ [(e.1, e.2.1 :: q.2)], st2.2 ++ [(e.1, e.2.1 :: q.2)]) := by unfold K79.edge; rw [if_neg hend, if_neg hin]
          refine ⟨.str (S [e.2.1]), rfl, .str (S q.2), rfl, _, _, rfl, rfl, hlen, .ref kd, rfl, .ref fe, rfl, kd, _, rfl, DPut.t (k := pkey e.1) eK9 he29.key (by unfold ktext knd; rw [List.length_map]; exact small1000 (by omega)), ?_⟩
          rw [hcat]
          have hput : putK (ktext st2.1) (pkey e.1) (V.str (S (e.2.1 :: q.2))) = ktext (st2.1 ++ [(e.1, e.2.1 :: q.2)]) := put_knd (fun q => .str (S q.2)) (q := (e.1, e.2.1 :: q.2)) hin
          rw [hput]
          have s10 : Same H (upd H9 kd (.dT (ktext (st2.1 ++ [(e.1, e.2.1 :: q.2)])))) := same_upd' nkd (s8.trans s9)
          have t10 : TS H9 (upd H9 kd (.dT (ktext (st2.1 ++ [(e.1, e.2.1 :: q.2)])))) := TS.updT eK9
          have eK10 : (upd H9 kd (.dT (ktext (st2.1 ++ [(e.1, e.2.1 :: q.2)])))) kd = some (.dT (ktext (st2.1 ++ [(e.1, e.2.1 :: q.2)]))) := upd_same
          have nlk : l ≠ kd := ne_of eL8 eK8 (by intro z; cases z)
          have eL10 : (upd H9 kd (.dT (ktext (st2.1 ++ [(e.1, e.2.1 :: q.2)])))) l = some (.lst xs) := by rw [upd_ne nlk]; exact s9 _ _ eL8
          have eF10 : (upd H9 kd (.dT (ktext (st2.1 ++ [(e.1, e.2.1 :: q.2)])))) fo = some (.lst fs2) := by rw [upd_ne nkfo.symm]; exact s9 _ _ eF8
          have e710 : (upd H9 kd (.dT (ktext (st2.1 ++ [(e.1, e.2.1 :: q.2)])))) o7 = some (.lst es7) := by rw [upd_ne n7k]; exact s9 _ _ e78
          generalize (upd H9 kd (.dT (ktext (st2.1 ++ [(e.1, e.2.1 :: q.2)])))) = H10 at s10 t10 eK10 eL10 eF10 e710 ⊢
          refine ⟨.ref fo, rfl, .inl ⟨rfl, _, .of eF10⟩, .ref fe, rfl, .str (S [e.2.1]), rfl, .str (S q.2), rfl, _, _, rfl, rfl, hlen, small_of (Nat.le_add_left 2 998), fun t nt => ?_⟩
          rw [hcat]
          have s11 : Same H10 (upd H10 t (.tup [.ref fe, .str (S (e.2.1 :: q.2))])) := same_upd nt
          have et11 : (upd H10 t (.tup [.ref fe, .str (S (e.2.1 :: q.2))])) t = some (.tup [.ref fe, .str (S (e.2.1 :: q.2))]) := upd_same
          generalize (upd H10 t (.tup [.ref fe, .str (S (e.2.1 :: q.2))])) = H11 at s11 et11 ⊢
          have eF11 := s11 _ _ eF10
          have hcnt : fs2.length ≤ 30 := by
            have := hL2.cnt
            have := hF8.1
            omega
          refine ⟨fo, _, _, rfl, rfl, eF11, small1000 (by omega), ?_⟩
          have t12 : TS H11 (upd H11 fo (.lst (fs2 ++ [.ref t]))) := TS.updL eF11
          have tall : TS H9 (upd H11 fo (.lst (fs2 ++ [.ref t]))) := (t10.trans (TS.of s11)).trans t12
          refine ⟨_, _, _, _, rfl, same_upd' nfoH (s10.trans s11), (t8.trans (TS.of s9)).trans tall, by rw [upd_ne nlfo]; exact s11 _ _ eL10, ?_, ⟨_, upd_same, ?_⟩, by rw [upd_ne n7f]; exact s11 _ _ e710, run_turn ee hrun2 hx1⟩
          · show _ = some _
            rw [upd_ne nkfo]
            exact s11 _ _ eK10
          · exact (hF8.mono fun r e h => h.ts ((TS.of s9).trans tall)).snoc ⟨fe, t12 _ _ et11, he29.ts tall⟩
    · obtain ⟨y7, y8, y9, st2, rfl, s8, t8, eL8, eK8, hFs, e78, hrun2⟩ := p
      rw [hE7.1, List.take_length] at hrun2
      exact ⟨_, _, _, _, _, st2, rfl, s8, (t6.trans (TS.of s7)).trans t8, eL8, eK8, hFs, run_turn eq hrun hrun2⟩
  · obtain ⟨y5, y6, y7, y8, y9, st, rfl, s6, t6, eL6, eK6, ⟨fs, eF6, hF6⟩, hrun⟩ := p
    rw [hE.1, List.take_length] at hrun
    have hrun : K79.layerStep b k lay = .ok st := hrun
    rw [hrun] at hS2
    exact ⟨.ref fo, rfl, m', Nat.lt_succ_self _, st.1, st.2, fo, fs, _, _, _, _, _, _, rfl, s6, eK6, eF6, hF6, d + 1, (I.next hg hrun).1, by omega, hS2⟩
end
end K79W
set_option Elab.async false
set_option linter.all false
set_option maxRecDepth 100000
set_option maxHeartbeats 2000000
/-! # The paper, and the table that is safe -/
namespace K79W
open PySem PySem.Spec PyProof.Rows L2 SX
section
variable {P : Program} {w : World} {K : PySem.W.Frag} {mg : Str → Option Value} {base : Heap}
/-! order of pendings -/
def pnD (p : K79.Pn) : PyData := .tuple [.int (p.1 : Nat), .str (S p.2)]
def pnLt (p q : K79.Pn) : Prop := p.1 < q.1 ∨ (p.1 = q.1 ∧ p.2 < q.2)
theorem pnLt_total {p q : K79.Pn} (h1 : ¬ pnLt p q) (h2 : ¬ pnLt q p) : p = q := by
  obtain ⟨s, t⟩ := p
  obtain ⟨s', t'⟩ := q
  have e : s = s' := by
    by_cases z : s < s'
    · exact absurd (.inl z) h1
    · by_cases z2 : s' < s
      · exact absurd (.inl z2) h2
      · omega
  subst e
  have a1 : ¬ t < t' := fun z => h1 (.inr ⟨rfl, z⟩)
  have a2 : ¬ t' < t := fun z => h2 (.inr ⟨rfl, z⟩)
  have e : t = t' := List.le_antisymm (List.not_lt.mp a2) (List.not_lt.mp a1)
  rw [e]
theorem dataLt_pn (p q : K79.Pn) : PySem.W.dataLt (pnD p) (pnD q) = true ↔ pnLt p q := by
  unfold pnD pnLt
  rw [PySem.W.dataLt_pair rfl rfl, PySem.W.dataLt_int, PySem.W.dataLt_str]
  have e1 : PyData.eqv (.int (p.1 : Nat)) (.int (q.1 : Nat)) = decide (p.1 = q.1) := by
    show (((p.1 : Nat) : Int) == ((q.1 : Nat) : Int)) = _
    rw [Bool.eq_iff_iff, beq_iff_eq, decide_eq_true_iff]
    omega
  have e2 : PyData.eqv (.str (S p.2)) (.str (S q.2)) = decide (p.2 = q.2) := by
    show (S p.2 == S q.2) = _
    exact S_beq_eq
  rw [e1, e2]
  by_cases h1 : p.1 = q.1
  · rw [decide_eq_true h1, if_pos rfl]
    by_cases h2 : p.2 = q.2
    · rw [decide_eq_true h2, if_pos rfl, h2]
      constructor
      · intro z; cases z
      · rintro (z | ⟨_, z⟩)
        · omega
        · exact absurd z (List.lt_irrefl _)
    · rw [decide_eq_false h2, if_neg Bool.false_ne_true, decide_eq_true_iff]
      show p.2 < q.2 ↔ _
      constructor
      · exact fun z => .inr ⟨h1, z⟩
      · rintro (z | ⟨_, z⟩)
        · omega
        · exact z
  · rw [decide_eq_false h1, if_neg Bool.false_ne_true, decide_eq_true_iff]
    constructor
    · exact fun z => .inl (by omega)
    · rintro (z | ⟨z, _⟩)
      · omega
      · exact absurd z h1
theorem alike_pn (p q : K79.Pn) : PySem.W.alike (pnD p) (pnD q) = true := rfl
theorem depth_pn (p : K79.Pn) : (pnD p).depth ≤ 16 := by
  unfold pnD
  simp only [PyData.depth, PyData.depthAll]
  omega
def unD : PyData → K79.Pn
  | .tuple [.int i, .str x] => (i.toNat, x.cps.toList)
  | _ => (0, [])
theorem unD_pn (p : K79.Pn) : unD (pnD p) = p := by
  obtain ⟨s, t⟩ := p
  rfl
/-! the table -/
def TbAt (H : Hp) (tb : Addr) (ps : List K79.Pn) : Prop := ∃ xs, H tb = some (.tup xs) ∧ Each (PnAt H) xs ps
theorem TbAt.ts {H H' : Hp} {tb : Addr} {ps : List K79.Pn} (h : TbAt H tb ps) (s : TS H H') : TbAt H' tb ps := by
  obtain ⟨xs, h1, h2⟩ := h
  exact ⟨xs, s _ _ h1, h2.mono fun r p h => h.ts s⟩
/-- the keys as addresses with their data -/
theorem keys_data {H : Hp} : ∀ {k : K79.Kn} {bs : List Addr}, IsKeys H (ktext k) bs → ∃ ds : List (Addr × PyData), ds.map (·.1) = bs ∧ ds.map (fun b => unD b.2) = K79.keys k ∧ ∀ b ∈ ds, ∃ p, b.2 = pnD p ∧ PnAt H b.1 p
  | [], _, h => by cases h; exact ⟨[], rfl, rfl, fun b hb => absurd hb (by simp)⟩
  | q :: k, _, h => by
    cases h with
    | cons h1 t =>
      rename_i b bs
      obtain ⟨ds, d1, d2, d3⟩ := keys_data (k := k) t
      refine ⟨(b, pnD q.1) :: ds, by rw [List.map_cons, d1], ?_, fun c hc => ?_⟩
      · rw [List.map_cons, d2]
        show unD (pnD q.1) :: _ = _
        rw [unD_pn]
        rfl
      · rcases List.mem_cons.mp hc with rfl | hc
        · exact ⟨q.1, rfl, h1⟩
        · exact d3 c hc
def Strict (ps : List K79.Pn) : Prop := ps.Pairwise pnLt
/-- sorted: the table -/
theorem sorted_table {H : Hp} {k : K79.Kn} {ds : List (Addr × PyData)} (hd : ds.map (fun b => unD b.2) = K79.keys k) (hn : (K79.keys k).Nodup) (h : ∀ b ∈ ds, ∃ p, b.2 = pnD p ∧ PnAt H b.1 p) :
    ∃ ps : List K79.Pn, Each (PnAt H) ((ds.mergeSort (PySem.W.dataLe false (·.2))).map fun b => V.ref b.1) ps ∧ Strict ps ∧ ∀ p, p ∈ ps ↔ p ∈ K79.keys k := by
  have tot := PySem.W.sortLe_total (PyProof.Rows.listOrd PyProof.Rows.itemOrd) false (fun b : Addr × PyData => PySem.W.keyToks b.2)
  have perm := List.mergeSort_perm ds (PySem.W.dataLe false (·.2))
  have pw : ((ds.mergeSort (PySem.W.dataLe false (·.2)))).Pairwise (fun a b => PySem.W.dataLe false (fun b : Addr × PyData => b.2) a b = true) := List.pairwise_mergeSort (le := PySem.W.dataLe false (fun b : Addr × PyData => b.2)) (fun a b c => tot.trans a b c) (fun a b => by rw [Bool.or_eq_true]; exact tot.total a b) ds
  generalize (ds.mergeSort (PySem.W.dataLe false (·.2))) = es at perm pw ⊢
  have hE : ∀ b ∈ es, ∃ p, b.2 = pnD p ∧ PnAt H b.1 p := fun b hb => h b (perm.mem_iff.mp hb)
  have hp : (es.map (fun b => unD b.2)).Perm (K79.keys k) := by rw [← hd]; exact perm.map _
  refine ⟨es.map (fun b => unD b.2), ⟨by rw [List.length_map, List.length_map], fun i e he => ?_⟩, ?_, fun p => hp.mem_iff⟩
  · rw [List.getElem?_map] at he
    cases hb : es[i]? with
    | none => rw [hb] at he; cases he
    | some b =>
      rw [hb] at he
      have he : unD b.2 = e := Option.some.inj he
      obtain ⟨p, e1, e2⟩ := hE b (List.mem_of_getElem? hb)
      refine ⟨b.1, by rw [List.getElem?_map, hb]; rfl, ?_⟩
      rw [← he, e1, unD_pn]
      exact e2
  · have nd : (es.map (fun b => unD b.2)).Nodup := hp.nodup_iff.mpr hn
    unfold Strict
    unfold List.Nodup at nd
    rw [List.pairwise_map] at nd ⊢
    refine (nd.and pw).imp_of_mem fun {a b} ha hb hh => ?_
    obtain ⟨p, e1, _⟩ := hE a ha
    obtain ⟨q, e2, _⟩ := hE b hb
    have h1 : unD a.2 ≠ unD b.2 := hh.1
    have h2 : (!PySem.W.dataLt b.2 a.2) = true := hh.2
    rw [e1, e2, unD_pn, unD_pn] at h1 ⊢
    rw [e1, e2] at h2
    by_cases z : pnLt p q
    · exact z
    · exfalso
      refine h1 (pnLt_total z fun z2 => ?_)
      rw [(dataLt_pn q p).mpr z2] at h2
      cases h2
theorem all_alike {ds : List (Addr × PyData)} {H : Hp} (h : ∀ b ∈ ds, ∃ p, b.2 = pnD p ∧ PnAt H b.1 p) : PySem.W.AllAlike (ds.map (·.2)) ∧ PySem.W.Sortable (ds.map (·.2)) ∧ ∀ b ∈ ds, b.2.depth ≤ 16 := by
  refine ⟨fun d hd d' hd' => ?_, .inl fun d hd => ?_, fun b hb => ?_⟩
  · obtain ⟨b, hb, rfl⟩ := List.mem_map.mp hd
    obtain ⟨b', hb', rfl⟩ := List.mem_map.mp hd'
    obtain ⟨p, e, _⟩ := h b hb
    obtain ⟨p', e', _⟩ := h b' hb'
    rw [e, e']
    exact alike_pn p p'
  · obtain ⟨b, hb, rfl⟩ := List.mem_map.mp hd
    obtain ⟨p, e, _⟩ := h b hb
    exact ⟨_, _, e⟩
  · obtain ⟨p, e, _⟩ := h b hb
    rw [e]
    exact depth_pn p
def spPaper : Sp := fun vs H Q _ => ∃ (a : Addr) (b : K79.Bk), vs = [.ref a] ∧ BkAt H a b ∧ K79.Good b ∧ (∀ t, K79.search b = some (.error t) → ∀ r H', Same H H' → H' r = some (.tup [.str "turns", .str (S t)]) → Q (.ref r) H') ∧
  ∀ k, K79.search b = some (.ok k) → ∀ r tb ps H', Same H H' → H' r = some (.tup [.str "safe", .ref tb]) → TbAt H' tb ps → Strict ps → (∀ p, p ∈ ps ↔ p ∈ K79.keys k) → Q (.ref r) H'
theorem ok_paper {k : Nat} (D : Df K mg "book_paper" sPaper ["book"]) (T : Tx mg) (cN : Cl P w K mg base k "need_book" ["thing"] spNeed)(cS : Cl P w K mg base k "searched" ["book"] spSearched) : Cl P w K mg base (k + 1) "book_paper" ["book"] spPaper := by
  refine cl_of D scPaper (fun vs H Q E h => ?_) (fun f cdv A outer s H vs Q E hr h => ?_)
  · obtain ⟨a, b, rfl, _⟩ := h
    rfl
  obtain ⟨a, b, rfl, hb, hg, q0, q1⟩ := h
  refine ⟨_, (pss_cons (ps_asg (pe_cl cS hr (Nat.le_refl _) (by rfl) (pa_cons (pe_cl cN hr (Nat.le_refl _) (by rfl) (pa_cons (pv 0) pa_nil)) pa_nil)) (pg_tup rfl (pgs_cons (pg_name (i := 1) scPaper.nd rfl (Or.inl rfl)) (pgs_cons (pg_name (i := 2) scPaper.nd rfl (Or.inl rfl)) pgs_nil))))
    (pss_one (ps_ret (pe_ifExp (pt_cmpR op_notN (pv 1) pe_non (nomark _)) (pe_tup (pa_cons (C8.pe_gc (by rfl) T.turns) (pa_cons (pv 1) pa_nil))) (pe_tup (pa_cons (C8.pe_gc (by rfl) T.safe) (pa_cons (pe_callTy call_tuple_of (by rfl) T.tuple (by decide +kernel) (pa_cons (pe_callB (K79R.cr_sortedD hr.units) (by rfl) T.sorted (by decide +kernel) (pa_cons (pe_callTy (call_list_dT rfl) (by rfl) T.list (by decide +kernel) (pa_cons (pv 2) pa_nil)) pa_nil)) pa_nil)) pa_nil))))))), ?_⟩
  refine ⟨.ref a, rfl, a, b, rfl, hb, hg, fun H1 s1 => ⟨a, b, rfl, hb.same s1, hg, fun t ht r kd H2 s2 e2 => ?_, fun k hk r kd H2 s2 e2 eK => ?_⟩⟩
  · refine ⟨r, _, rfl, .of e2, rfl, _, _, rfl, _, _, rfl, rfl, ?_⟩
    refine ⟨_, rfl, rfl, true, rfl, iteT ⟨_, rfl, small_of (Nat.le_add_left 2 998), fun t2 nt => ?_⟩⟩
    exact q0 t ht t2 _ (same_upd' ((s1.trans s2).free nt) (s1.trans s2)) upd_same
  · have hC := K79.search_closed hg hk
    refine ⟨r, _, rfl, .of e2, rfl, _, _, rfl, _, _, rfl, rfl, ?_⟩
    refine ⟨_, rfl, rfl, false, rfl, iteF ⟨_, rfl, kd, _, rfl, .inl eK, fun l bs nl hK => ?_⟩⟩
    obtain ⟨ds, d1, d2, d3⟩ := keys_data hK
    subst d1
    have sl : Same H2 (upd H2 l (.lst ((ds.map (·.1)).map V.ref))) := same_upd nl
    have d4 : ∀ b ∈ ds, ∃ p, b.2 = pnD p ∧ PnAt (upd H2 l (.lst ((ds.map (·.1)).map V.ref))) b.1 p := fun b hb => by
      obtain ⟨p, e1, e2⟩ := d3 b hb
      exact ⟨p, e1, e2.ts (TS.of sl)⟩
    have el : (upd H2 l (.lst ((ds.map (·.1)).map V.ref))) l = some (.lst (ds.map fun b => V.ref b.1)) := by rw [upd_same, List.map_map]; rfl
    generalize (upd H2 l (.lst ((ds.map (·.1)).map V.ref))) = H3 at sl d4 el ⊢
    obtain ⟨a1, a2, a3⟩ := all_alike d4
    refine ⟨l, ds, rfl, .of el, fun b hb => ?_, a1, a2, a3, fun m nm => ?_⟩
    · obtain ⟨p, e1, e2⟩ := d4 b hb
      rw [e1]
      exact dp_pn e2
    obtain ⟨ps, p1, p2, p3⟩ := sorted_table d2 hC.nd d4
    have sm : Same H3 (upd H3 m (.lst ((ds.mergeSort (PySem.W.dataLe false (·.2))).map fun b => V.ref b.1))) := same_upd nm
    have em : (upd H3 m (.lst ((ds.mergeSort (PySem.W.dataLe false (·.2))).map fun b => V.ref b.1))) m = some (.lst ((ds.mergeSort (PySem.W.dataLe false (·.2))).map fun b => V.ref b.1)) := upd_same
    generalize (upd H3 m (.lst ((ds.mergeSort (PySem.W.dataLe false (·.2))).map fun b => V.ref b.1))) = H4 at sm em ⊢
    refine ⟨m, _, rfl, .inl ⟨.of em, fun tb ntb => ⟨small_of (Nat.le_add_left 2 998), fun t2 nt => ?_⟩⟩⟩
    have s5 : Same H4 (upd H4 tb (.tup ((ds.mergeSort (PySem.W.dataLe false (·.2))).map fun b => V.ref b.1))) := same_upd ntb
    have e5 : (upd H4 tb (.tup ((ds.mergeSort (PySem.W.dataLe false (·.2))).map fun b => V.ref b.1))) tb = some (.tup ((ds.mergeSort (PySem.W.dataLe false (·.2))).map fun b => V.ref b.1)) := upd_same
    generalize (upd H4 tb (.tup ((ds.mergeSort (PySem.W.dataLe false (·.2))).map fun b => V.ref b.1))) = H5 at s5 e5 nt ⊢
    have s6 := same_upd (o := .tup [.str "safe", .ref tb]) nt
    refine q1 k hk t2 tb ps _ (((((s1.trans s2).trans sl).trans sm).trans s5).trans s6) upd_same ⟨_, s6 _ _ e5, p1.mono fun r p h => h.ts (TS.of ((sm.trans s5).trans s6))⟩ p2 p3
/-! is_safe -/
theorem cut1 (xs : List V) : cutV xs (some 1) none = xs.drop 1 := by
  unfold cutV
  rw [show HT.sIx xs.length 0 (some 1) = min 1 xs.length from HT.sIx_nat xs.length 0 1, HT.sIx_none]
  cases xs with
  | nil => rfl
  | cons x r =>
    rw [show min 1 (x :: r).length = 1 by rw [List.length_cons]; omega]
    show (List.take ((x :: r).length - 1) r) = r
    rw [List.length_cons, Nat.add_sub_cancel]
    exact List.take_length
/-- t[1:], t a tuple -/
def rSl1 (K : PySem.W.Frag) : V → Option Int → Option Int → Hp → VK → Prop := fun x lo hi H Q => lo = some 1 ∧ hi = none ∧ ∃ a xs, x = .ref a ∧ H a = some (.tup xs) ∧ ∀ p H', Same H H' → H' p = some (.tup (xs.drop 1)) → Q (.ref p) H'
theorem sl_tup1 {X : Cx} : SlR X (rSl1 X.K) := by
  intro pins s σ H x v vl vu lo hi sl Q I rx hs pl pu h
  obtain ⟨rfl, rfl, a, xs, rfl, hx, q⟩ := h
  refine sl_tupA pins s σ H _ v vl vu _ _ sl Q I rx hs pl pu ⟨a, xs, rfl, .of hx, fun hw => q a H (Same.refl _) ?_, fun hw p hp => q p _ (same_upd hp) (by rw [upd_same, cut1])⟩
  have h1 : min 1 xs.length = 0 := by rw [← HT.sIx_nat xs.length 0 1]; exact hw.1
  have h2 : xs = [] := List.eq_nil_of_length_eq_zero (by omega)
  rw [hx, h2]
  rfl
theorem walk_zipT {K : PySem.W.Frag} {a b : Addr} {xs ys : List V} {n : Nat} (hn : n = min xs.length ys.length) : Walk (RZ.ItzT K a b) n (fun H => SqT K H a xs ∧ SqT K H b ys) (YPair (fun i => xs[i]?) (fun i => ys[i]?)) := by
  subst hn
  refine ⟨fun i _ hi q => ?_, fun _ q => ⟨xs, ys, q.1, q.2, by omega⟩, fun i H v H' _ q y => ?_⟩
  · have h1 : i < xs.length := by omega
    have h2 : i < ys.length := by omega
    exact ⟨xs, ys, xs[i], ys[i], q.1, q.2, by simp [h1], by simp [h2]⟩
  · obtain ⟨T, x, z, h1, h2, h3, h4, h5⟩ := y
    exact ⟨T, x, z, h1, h2, h3, h4 xs q.1, h5 ys q.2⟩
def asKn (ps : List K79.Pn) : K79.Kn := ps.map fun p => (p, [])
theorem keys_asKn (ps : List K79.Pn) : K79.keys (asKn ps) = ps := by
  unfold K79.keys asKn
  rw [List.map_map]
  exact List.map_id' _
abbrev ktrue (ps : List K79.Pn) : List (List Key × V) := knd (fun _ => .bl true) (asKn ps)
theorem val_ktrue (ps : List K79.Pn) (p : K79.Pn) : (valV (ktrue ps) (pkey p)).isSome = decide (p ∈ ps) := by rw [val_knd, keys_asKn]
theorem ktrue_new {ps : List K79.Pn} (nd : ps.Nodup) {i : Nat} {p : K79.Pn} (e : ps[i]? = some p) : putK (ktrue (ps.take i)) (pkey p) (.bl true) = ktrue (ps.take (i + 1)) := by
  have hn : p ∉ ps.take i := fun h => by
    obtain ⟨j, hj⟩ := List.mem_iff_getElem?.mp h
    rw [List.getElem?_take] at hj
    by_cases hji : j < i
    · rw [if_pos hji] at hj
      have z2 : ps[j]? = ps[i]? := by rw [hj, e]
      have hl : j < ps.length := (List.getElem?_eq_some_iff.mp hj).1
      have := (List.getElem?_inj hl nd).mp z2
      omega
    · rw [if_neg hji] at hj
      cases hj
  have := put_knd (fun _ => V.bl true) (k := asKn (ps.take i)) (q := (p, [])) (by rw [keys_asKn]; exact hn)
  show putK (knd _ (asKn (ps.take i))) (pkey p) _ = _
  rw [this, List.take_add_one, e]
  unfold ktrue asKn
  rw [List.map_append]
  rfl
theorem Strict.nd {ps : List K79.Pn} (h : Strict ps) : ps.Nodup := by
  unfold Strict at h
  unfold List.Nodup
  refine h.imp fun {a b} z e => ?_
  subst e
  rcases z with z | ⟨_, z⟩
  · omega
  · exact List.lt_irrefl _ z
def ClosedT (b : K79.Bk) (ps : List K79.Pn) : Prop := (∀ p, K79.first b = some p → p ∈ ps) ∧ ∀ p ∈ ps, ∀ e ∈ K79.nexts b p, K79.isEnd b e.1 = false ∧ e.1 ∈ ps
theorem next_good {b : K79.Bk} (hg : K79.Good b) {p : K79.Pn} (hp : K79.Mods p.2) (hl : p.2.length ≤ 3) {e : K79.Edge} (he : e ∈ K79.nexts b p) : K79.Mods e.1.2 ∧ e.1.2.length ≤ 3 := by
  obtain ⟨u, hu, v, hv, q, _, _⟩ := K79.mem_nexts.mp he
  refine ⟨grown_mods hp (K79.mods_rev (hg.wm u hu)) (hg.wm v hv) q, ?_⟩
  have l1 := hg.wl u hu
  have l2 := hg.wl v hv
  unfold K79.grown at q
  split at q
  · rcases K79.pend_cases q with ⟨r, e1, e2⟩ | ⟨r, e1, e2, _⟩
    · have z := congrArg List.length e1
      rw [List.length_append, List.length_append, List.length_reverse] at z
      rw [e2]
      show r.length ≤ 3
      omega
    · have z := congrArg List.length e1
      rw [List.length_append, List.length_append, List.length_reverse] at z
      rw [e2]
      show r.length ≤ 3
      omega
  · rcases K79.pend_cases q with ⟨r, e1, e2⟩ | ⟨r, e1, e2, _⟩
    · have z := congrArg List.length e1
      rw [List.length_append, List.length_append, List.length_reverse] at z
      rw [e2]
      show r.length ≤ 3
      omega
    · have z := congrArg List.length e1
      rw [List.length_append, List.length_append, List.length_reverse] at z
      rw [e2]
      show r.length ≤ 3
      omega
def spSafe : Sp := fun vs H Q _ => ∃ (a tb : Addr) (b : K79.Bk) (ps : List K79.Pn), vs = [.ref a, .ref tb] ∧ BkAt H a b ∧ K79.Good b ∧ TbAt H tb ps ∧ (∀ p ∈ ps, K79.GoodP b p) ∧ Strict ps ∧ ps.length ≤ 30 ∧
  ((ClosedT b ps ∧ ∀ H', Same H H' → Q (.bl true) H') ∨ ((∃ p, K79.first b = some p ∧ p ∉ ps) ∧ ∀ H', Same H H' → Q (.bl false) H'))
theorem ok_safe {k : Nat} (D : Df K mg "is_safe" sSafe ["book", "table"]) (T : Tx mg) (cI : Cl P w K mg base k "is_pending" ["thing"] spIsPend)(cP : Cl P w K mg base k "pending_of" ["one", "other"] spPend)(cN : Cl P w K mg base k "next_pendings" ["book", "pending"] spNexts)(cE : Cl P w K mg base k "is_end" ["book", "pending"] spIsEnd) : Cl P w K mg base (k + 1) "is_safe" ["book", "table"] spSafe := by
  refine cl_of D scSafe (fun vs H Q E h => ?_) (fun f cdv A outer s H vs Q E hr h => ?_)
  · obtain ⟨a, tb, b, ps, rfl, _⟩ := h
    rfl
  obtain ⟨a, tb, b, ps, rfl, hb, hg, ht, hgp, hst, hlen, q⟩ := h
  obtain ⟨wa, rs, ha, hw⟩ := id hb
  have h2 := hg.s4
  have h4 := hg.e4
  have hu0 := Nat.lt_of_succ_lt (hu_of hr)
  obtain ⟨xs, ht1, ht2⟩ := ht
  have hxl := ht2.1
  refine ⟨_, (pss_cons (ps_if (PW.pt (pw_or (pt_not (pt_val (pe_callB call_isi (by rfl) T.isi (by decide +kernel) (pa_cons (pv 1) (pa_cons (pe_bltn (v := .ty "tuple") (by rfl) T.tuple (by decide +kernel) rfl) pa_nil))))) (pw_or1 (pt_not (pt_val (pe_callB (cr_all rfl) (by rfl) T.all (by decide +kernel) (pa_cons (pe_lc (own := [("pending", 2)]) (g := (gName 2)) (tt := tYes) rfl scSafe.nd (pi_tup (pv 1)) (blkOk_by (own := [("pending", 2)]) (N := ["book", "table", "pending", "first", "known", "fresh", "sign", "far", "one", "other"]) (sc := defScope sSafe) (by decide +kernel))
      (fun _ _ _ _ _ => (pg_name (i := 2) scSafe.nd rfl (Or.inl rfl))) (fun _ _ _ _ _ => pts_nil) (fun _ _ _ _ _ => (pe_cl cI hr (Nat.le_refl _) (by rfl) (pa_cons (pv 2) pa_nil)))) pa_nil))))))) (pss_one (ps_ret pe_bl)) pss_nil)
    (pss_cons (ps_if (pt_not (pt_val (pe_callB (cr_all rfl) (by rfl) T.all (by decide +kernel) (pa_cons (pe_lc (own := [("one", 8), ("other", 9)]) (g := (gTup K 2 (gCons (gName 8) (gCons (gName 9) gNil)))) (tt := tYes) rfl scSafe.nd (RZ.pi_zipA (by rfl) T.zip (pa_cons (pv 1) (pa_cons (pe_slice sl_tup1 (pv 1) (po_some pe_int) po_none) pa_nil))) (blkOk_by (own := [("one", 8), ("other", 9)]) (N := ["book", "table", "pending", "first", "known", "fresh", "sign", "far", "one", "other"]) (sc := defScope sSafe) (by decide +kernel))
      (fun _ _ _ _ _ => (pg_tup rfl (pgs_cons (pg_name (i := 8) scSafe.nd rfl (Or.inl rfl)) (pgs_cons (pg_name (i := 9) scSafe.nd rfl (Or.inl rfl)) pgs_nil)))) (fun _ _ _ _ _ => pts_nil) (fun _ _ _ _ _ => (pe_cmpR (r := K79R.rLtD K) (K79R.op_ltD hr.units) (pv 8) (pv 9) (nomark _)))) pa_nil)))) (pss_one (ps_ret pe_bl)) pss_nil)
    (C8.pss_cut (ps_par (i := 3) (j := 4) (by rfl) scSafe.nd rfl rfl (by decide) rfl rfl (pa_cons (pe_cl cP hr (Nat.le_refl _) (by rfl) (pa_cons (K79R.pe_revS (pe_ix ix_tup (pv 0) pe_int (fun _ _ => rfl))) (pa_cons (pe_ix ix_tup (pv 0) pe_int (fun _ _ => rfl)) pa_nil))) (pa_cons (K79R.pe_dcT (own := [("pending", 2)]) (g := (gName 2)) (tt := tYes) hu0 rfl scSafe.nd (pi_tup (pv 1)) (blkOk_by (own := [("pending", 2)]) (N := ["book", "table", "pending", "first", "known", "fresh", "sign", "far", "one", "other"]) (sc := defScope sSafe) (by decide +kernel))
      (fun _ _ _ _ _ => (pg_name (i := 2) scSafe.nd rfl (Or.inl rfl))) (fun _ _ _ _ _ => pts_nil) (fun _ _ _ _ _ => (pv 2)) (fun _ _ _ _ _ => pe_bl)) pa_nil)) (by rfl))
    (C8.pss_cut (ps_if (PW.pt (pw_and (pt_cmpR op_notN (pv 3) pe_non (nomark _)) (pw_and1 (pt_cmp (pc_dnotin (hu_of hr) (pv 3) (pv 4)))))) (pss_one (ps_ret pe_bl)) pss_nil)
    (pss_cons (ps_for PassesOwn.never rfl (pi_tup (pv 1)) (pg_name (i := 2) scSafe.nd rfl (Or.inl rfl)) (pss_one (ps_for PassesOwn.never rfl (pi_list (pe_cl cN hr (Nat.le_refl _) (by rfl) (pa_cons (pv 0) (pa_cons (pv 2) pa_nil)))) (pg_tup rfl (pgs_cons (pg_name (i := 5) scSafe.nd rfl (Or.inl rfl)) (pgs_cons (pg_name (i := 6) scSafe.nd rfl (Or.inl rfl)) (pgs_cons (pg_name (i := 7) scSafe.nd rfl (Or.inl rfl)) pgs_nil)))) (pss_one (ps_if (PW.pt (pw_or (pt_val (pe_cl cE hr (Nat.le_refl _) (by rfl) (pa_cons (pv 0) (pa_cons (pv 5) pa_nil)))) (pw_or1 (pt_cmp (pc_dnotin (hu_of hr) (pv 5) (pv 4)))))) (pss_one (ps_ret pe_bl)) pss_nil)))))
    (pss_one (ps_ret pe_bl))))))), ?_⟩
  refine ⟨.ref tb, rfl, _, _, _, _, true, rfl, .ty "tuple", .base (.tup ht1), kit_ty (by decide +kernel), true, rfl, iteF ?_⟩
  -- all are pendings
  refine ⟨.ref tb, rfl, tb, rfl, ⟨_, .of ht1⟩, fun C hC => lc_fn walk_tup (fun _ => .bl true) hC (fun H1 sm => .of (sm _ _ ht1)) (small_of (by omega)) (fun i x H1 H' Nx hi sm y hN => ?_) fun H1 s1 hD => ?_⟩
  · obtain ⟨rfl, hx⟩ := y
    obtain ⟨r, p, rfl, ep, hp, hwd⟩ := (ht2.mono fun r p h => h.ts (TS.of sm)).at hx
    exact ⟨rfl, .ref r, rfl, r, b, p, rfl, hwd, hgp p hp, fun H2 s2 => hN H2 s2⟩
  rw [rng_bl] at hD
  refine ⟨C, _, rfl, .of hD, true, by rw [all_rep], iteF ?_⟩
  -- each is less than the next one
  refine ⟨.ref tb, rfl, .ref tb, rfl, 1, rfl, rfl, rfl, tb, xs, rfl, s1 _ _ ht1, fun c H2 s2 ec => ?_⟩
  have s12 := s1.trans s2
  refine ⟨tb, c, xs, xs.drop 1, rfl, .inr ⟨.of (s12 _ _ ht1), .of ec, ?_⟩⟩
  refine fun C2 hC2 => lc_fn (walk_zipT (xs := xs) (ys := xs.drop 1) rfl) (fun _ => .bl true) hC2 (fun H1 sm => ⟨.of (sm _ _ (s12 _ _ ht1)), .of (sm _ _ ec)⟩) (small_of (by omega)) (fun i x H3 H' Nx hi sm y hN => ?_) fun H3 s3 hD3 => ?_
  · obtain ⟨T', x1, x2, rfl, nT, rfl, e1, e2⟩ := y
    have s123 := s12.trans sm
    obtain ⟨r1, p1, rfl, ep1, hp1, hw1⟩ := (ht2.mono fun r p h => h.ts (TS.of s123)).at e1
    have e2 : (xs.drop 1)[i]? = some x2 := e2
    rw [List.getElem?_drop] at e2
    obtain ⟨r2, p2, rfl, ep2, hp2, hw2⟩ := (ht2.mono fun r p h => h.ts (TS.of s123)).at e2
    have hlt : pnLt p1 p2 := by
      have l2 : 1 + i < ps.length := (List.getElem?_eq_some_iff.mp ep2).1
      have := (List.pairwise_iff_getElem.mp hst) i (1 + i) (by omega) l2 (by omega)
      rw [(List.getElem?_eq_some_iff.mp ep1).2, (List.getElem?_eq_some_iff.mp ep2).2] at this
      exact this
    refine ⟨T', _, rfl, .of upd_same, rfl, _, _, rfl, _, _, rfl, rfl, rfl, _, rfl, _, rfl, pnD p1, pnD p2, dp_pn (hw1.ts (TS.updN nT)), dp_pn (hw2.ts (TS.updN nT)), alike_pn p1 p2, (fun z => nomatch z), depth_pn p1, ?_⟩
    rw [(dataLt_pn p1 p2).mpr hlt]
    exact hN _ (same_upd nT)
  rw [rng_bl] at hD3
  refine ⟨C2, _, rfl, .of hD3, true, by rw [all_rep], iteF ?_⟩
  have s13 := s12.trans s3
  refine ⟨fun σ' H' => ∃ v d, σ' = [some (.ref a), some (.ref tb), none, some v, some (.ref d), none, none, none, none, none] ∧ Same H H' ∧ H' d = some (.dT (ktrue ps)) ∧ ((v = .non ∧ K79.first b = none) ∨ ∃ f p, v = .ref f ∧ K79.first b = some p ∧ PnAt H' f p), ?_, fun σ' H' hM => ?_⟩
  · have fin : ∀ (v : V) (H4 : Hp) (D : Addr), Same H H4 → ((v = .non ∧ K79.first b = none) ∨ ∃ f p, v = .ref f ∧ K79.first b = some p ∧ PnAt H4 f p) → ∀ H5, Same H4 H5 → H5 D = some (.dT (ktrue ps)) →
        ∃ v' d, [some (.ref a), some (.ref tb), none, some v, some (.ref D), none, none, none, none, none] = [some (.ref a), some (.ref tb), none, some v', some (.ref d), none, none, none, none, none] ∧ Same H H5 ∧ H5 d = some (.dT (ktrue ps)) ∧ ((v' = .non ∧ K79.first b = none) ∨ ∃ f p, v' = .ref f ∧ K79.first b = some p ∧ PnAt H5 f p) := fun v H4 D s4 hv H5 s5 e5 => by
      refine ⟨v, D, rfl, s4.trans s5, e5, ?_⟩
      rcases hv with h | ⟨f, p, h1, h2, h3⟩
      · exact .inl h
      · exact .inr ⟨f, p, h1, h2, h3.ts (TS.of s5)⟩
    have ha3 := s13 _ _ ha
    refine ⟨.ref a, rfl, a, _, 1, _, rfl, rfl, .of ha3, atI_nat (j := 1) rfl, b.stop, rfl, small_of (by omega), .ref a, rfl, a, _, 0, _, rfl, rfl, .of ha3, atI_nat (j := 0) rfl, b.stop.reverse, b.start, rfl, by rw [List.length_reverse]; omega, by omega, fun e H4 s4 => ?_, fun p e f H4 s4 nf hf => ?_⟩
    · have s04 := s13.trans s4
      refine ⟨.ref tb, rfl, tb, rfl, ⟨_, .of (s04 _ _ ht1)⟩, fun D hD => K79R.dcT_tup (xs := xs) (fun i H => Same H4 H ∧ H D = some (.dT (ktrue (ps.take i)))) ⟨same_upd hD, upd_same⟩ (fun i H _ p => .of (p.1 _ _ (s04 _ _ ht1))) (fun i x H5 e p => ?_) fun H5 p => ?_⟩
      · have s05 := s04.trans p.1
        obtain ⟨r, pn, rfl, ep, hpn, hw1⟩ := (ht2.mono fun r p h => h.ts (TS.of s05)).at e
        refine ⟨rfl, iteT (B := False) ⟨_, rfl, _, pkey pn, r, rfl, hw1.key, p.2, ?_, same_upd' hD p.1, ?_⟩⟩
        · unfold ktrue knd asKn
          rw [List.length_map, List.length_map, List.length_take]
          exact small1000 (by omega)
        · rw [upd_same, ktrue_new hst.nd ep]
      · have e5 := p.2
        rw [hxl, List.take_length] at e5
        exact ⟨_, _, rfl, fin .non H4 D s04 (.inl ⟨rfl, e⟩) H5 p.1 e5⟩
    · have s04 := s13.trans s4
      refine ⟨.ref tb, rfl, tb, rfl, ⟨_, .of (s04 _ _ ht1)⟩, fun D hD => K79R.dcT_tup (xs := xs) (fun i H => Same H4 H ∧ H D = some (.dT (ktrue (ps.take i)))) ⟨same_upd hD, upd_same⟩ (fun i H _ p => .of (p.1 _ _ (s04 _ _ ht1))) (fun i x H5 e p => ?_) fun H5 p => ?_⟩
      · have s05 := s04.trans p.1
        obtain ⟨r, pn, rfl, ep, hpn, hw1⟩ := (ht2.mono fun r p h => h.ts (TS.of s05)).at e
        refine ⟨rfl, iteT (B := False) ⟨_, rfl, _, pkey pn, r, rfl, hw1.key, p.2, ?_, same_upd' hD p.1, ?_⟩⟩
        · unfold ktrue knd asKn
          rw [List.length_map, List.length_map, List.length_take]
          exact small1000 (by omega)
        · rw [upd_same, ktrue_new hst.nd ep]
      · have e5 := p.2
        rw [hxl, List.take_length] at e5
        exact ⟨_, _, rfl, fin (.ref f) H4 D s04 (.inr ⟨f, _, rfl, e, hf⟩) H5 p.1 e5⟩
  obtain ⟨v, d, rfl, sm, ed, hv⟩ := hM
  refine ⟨fun σ' H' => σ' = [some (.ref a), some (.ref tb), none, some v, some (.ref d), none, none, none, none, none] ∧ Same H H' ∧ H' d = some (.dT (ktrue ps)) ∧ ClosedT b ps ∧ ∀ H', Same H H' → Q (.bl true) H', ?_, fun σ2 H2 hM => ?_⟩
  · rcases hv with ⟨rfl, e⟩ | ⟨f, p, rfl, e, hf⟩
    · rcases q with ⟨hc, q⟩ | ⟨⟨p, e2, _⟩, _⟩
      · exact ⟨.non, rfl, rfl, false, rfl, iteF ⟨rfl, sm, ed, hc, q⟩⟩
      · rw [e] at e2
        cases e2
    · refine ⟨.ref f, rfl, rfl, true, rfl, iteT ⟨.ref f, rfl, .ref d, rfl, d, _, rfl, DGet.t (k := pkey p) ed hf.key, _, rfl, ?_⟩⟩
      rw [val_ktrue]
      rcases q with ⟨hc, q⟩ | ⟨⟨p', e2, hn⟩, q⟩
      · rw [decide_eq_true (hc.1 p e)]
        exact iteF ⟨rfl, sm, ed, hc, q⟩
      · rw [e] at e2
        have e3 := Option.some.inj e2
        subst e3
        rw [decide_eq_false hn]
        exact iteT (q _ sm)
  obtain ⟨rfl, sm, ed, hc, q⟩ := hM
  refine ⟨.ref tb, rfl, tb, rfl, ⟨_, .of (sm _ _ ht1)⟩, for_tup (xs := xs) (fun i σ H3 => ∃ y2 y5 y6 y7, σ = [some (.ref a), some (.ref tb), y2, some v, some (.ref d), y5, y6, y7, none, none] ∧ Same H H3 ∧ H3 d = some (.dT (ktrue ps)))
    ⟨none, none, none, none, rfl, sm, ed⟩ (fun i σ H3 _ p => by obtain ⟨_, _, _, _, _, p, _⟩ := p; exact .of (p _ _ ht1)) (fun i x σ H3 hx p => ?_) (fun σ H3 p => ?_)⟩
  · obtain ⟨y2, y5, y6, y7, rfl, s3, e3⟩ := p
    obtain ⟨r, p, rfl, ep, hp, hr1⟩ := (ht2.mono fun r p h => h.ts (TS.of s3)).at hx
    have gp := hgp p hp
    refine ⟨.ref a, rfl, .ref r, rfl, a, r, b, p, rfl, hb.same s3, hg, hr1, gp.len, fun o7 H7 es7 s7 n7 e7 hE7 => ?_⟩
    refine ⟨o7, rfl, ⟨_, .of e7⟩, for_list (xs := es7) (fun j σ H8 => ∃ y5 y6 y7, σ = [some (.ref a), some (.ref tb), some (.ref r), some v, some (.ref d), y5, y6, y7, none, none] ∧ Same H7 H8)
      ⟨y5, y6, y7, rfl, Same.refl _⟩ (fun i σ H _ p => by obtain ⟨_, _, _, _, p⟩ := p; exact .of (p _ _ e7)) (fun j x σ H8 hx p => ?_) (fun σ H8 p => ?_)⟩
    · obtain ⟨y5, y6, y7, rfl, s8⟩ := p
      obtain ⟨re, e, rfl, ee, he, fe, he1, he2⟩ := (hE7.mono fun r q h => h.ts (TS.of s8)).at hx
      obtain ⟨c1, c2⟩ := hc.2 p hp e he
      obtain ⟨g1, g2⟩ := next_good hg gp.mods gp.len he
      have s378 := (s3.trans s7).trans s8
      refine ⟨re, _, rfl, .of he1, rfl, _, _, rfl, _, _, rfl, _, _, rfl, rfl, ?_⟩
      refine ⟨.ref a, rfl, .ref fe, rfl, a, fe, b, e.1, rfl, hb.same s378, hg, he2, g1, g2, fun H9 s9 => ⟨_, rfl, ?_⟩⟩
      rw [c1]
      refine iteF ⟨.ref fe, rfl, .ref d, rfl, d, _, rfl, DGet.t (k := pkey e.1) (s9 _ _ (s8 _ _ (s7 _ _ e3))) (he2.ts (TS.of s9)).key, _, rfl, ?_⟩
      rw [val_ktrue, decide_eq_true c2]
      exact iteF ⟨_, _, _, rfl, s8.trans s9⟩
    · obtain ⟨y5, y6, y7, rfl, s8⟩ := p
      exact ⟨_, _, _, _, rfl, (s3.trans s7).trans s8, s8 _ _ (s7 _ _ e3)⟩
  · obtain ⟨y2, y5, y6, y7, rfl, s3, e3⟩ := p
    exact q H3 s3
end
end K79W
set_option Elab.async false
set_option linter.all false
set_option maxRecDepth 100000
set_option maxHeartbeats 2000000
/-! # check_book; _law_refused -/
namespace K79W
open PySem PySem.Spec PyProof.Rows L2 SX
section
variable {P : Program} {w : World} {K : PySem.W.Frag} {mg : Str → Option Value} {base : Heap}
/-- a def that may raise -/
structure ClX (P : Program) (w : World) (K : PySem.W.Frag) (mg : Str → Option Value) (base : Heap) (k : Nat) (x : Str) (ps : List Str) (sp : Sp) : Prop where
  ex : ∃ (f : Addr) (fd : FuncData), FnOk P w K mg base (L2.CX P w) k f fd ps sp ∧ mg x = some (.ref f) ∧ PySem.W.keepIn K (.ref f) = true ∧ Binds K fd ps []
theorem clX_of {x : Str} {st : Stmt} {N ps : List Str} {k : Nat} {sp : Sp} (D : Df K mg x st ps) (S : FnScope N ps (defScope st)) (len : ∀ vs H Q E, sp vs H Q E → vs.length = ps.length)
    (hbody : ∀ (f : Addr) (cdv : Value) (A : Around) (outer : List Env) (s : Shared) (H : Hp) (vs : List V) (Q : VK) (E : XK), Room k (A.deeper (envOfC x (defScope st) s.heap.objs.size f cdv)) → sp vs H Q E →
      ∃ t, PSs (cxOf (L2.CX P w) P w K mg base N x (defScope st) f cdv A outer s H E) (defBody st) t ∧ t { nx := fun _ H' => Q .non H', rt := Q } (start N vs) H) : ClX P w K mg base (k + 1) x ps sp := by
  obtain ⟨f, fd, F, hm, b⟩ := D.ex
  exact ⟨f, fd, F.okX S len (hbody f), hm, F.kp, b⟩
theorem passX0 {X : Cx} : Passes (L2.CX X.prog X.w) X E0 := fun _ _ _ _ _ _ _ h => by
  obtain ⟨_, _, _, _, _, _, _, _, _, _, _, _, z⟩ := h
  exact z.elim
end
section
variable {X : Cx} {k j : Nat} {x : Str} {ps : List Str} {sp : Sp} {p pos : Pos} {e : Expr} {es : List Expr} {t : TA}
/-- called where it does not raise -/
theorem pe_clX (c : ClX X.prog X.w X.K X.mg X.base k x ps sp) (hr : Room j X.A) (hk : k ≤ j) (hg : Gl X x) (ha : PA X (e :: es) t)
    (hdb : (x == ("__debug__" : Str)) = false := by decide) (he : starEach (e :: es) X.env = (false, eval e X.env) :: starEach es X.env := by rfl) (hpl : (backTo pos (starEach es X.env)).any (·.1) = false := by rfl) :
    PE X (.Call (.Name x p) (e :: es) [] pos) (tCall sp [] E0 t) := by
  obtain ⟨f, fd, F, hm, kp, b⟩ := c.ex
  exact pe_call F (hr.mono hk) hg hm kp b .nil passX0 ha hdb he hpl
/-- called within a try -/
theorem pe_clS {W : WX} (c : ClX X.prog X.w X.K X.mg X.base k x ps sp) (hr : Room j X.A) (hk : k ≤ j) (tk : Takes X W) (hg : Gl X x) (ha : PA X (e :: es) t)
    (hdb : (x == ("__debug__" : Str)) = false := by decide) (he : starEach (e :: es) X.env = (false, eval e X.env) :: starEach es X.env := by rfl) (hpl : (backTo pos (starEach es X.env)).any (·.1) = false := by rfl) :
    PE X (.Call (.Name x p) (e :: es) [] pos) (tCallS sp (WE W) t) := by
  obtain ⟨f, fd, F, hm, kp, b⟩ := c.ex
  exact pe_callS F (hr.mono hk) hg hm kp b (fun σ => passAt tk σ) ha hdb he hpl
end
section
variable {P : Program} {w : World} {K : PySem.W.Frag} {mg : Str → Option Value} {base : Heap} {C fI : Addr}
def Part (C : Addr) (H : Hp) (E : XK) (z : Str) : Prop := ∀ d H', Same H H' → H d = none → H' d = some (.xd [(("part" : Str), .str z)]) → E (.ref C) (some d) H'
def TurnsPaper (C : Addr) (H : Hp) (pa : Addr) (b : K79.Bk) (Q : VK) (E : XK) : Prop := ∃ t : List Nat, H pa = some (.tup [.str "turns", .str (S t)]) ∧ K79.Sgs b t ∧ t ≠ [] ∧ t.length ≤ 100 ∧
  ((K79.textOf b (K79.bars b t).reverse).isSome = true → ∀ H', Same H H' → Q (.str "turns") H') ∧ ((K79.textOf b (K79.bars b t).reverse).isSome = false → Part C H E "turns")
def SafePaper (C : Addr) (H : Hp) (pa : Addr) (b : K79.Bk) (Q : VK) (E : XK) : Prop := ∃ (tb : Addr) (ps : List K79.Pn), H pa = some (.tup [.str "safe", .ref tb]) ∧ TbAt H tb ps ∧ (∀ p ∈ ps, K79.GoodP b p) ∧ Strict ps ∧ ps.length ≤ 30 ∧
  ((ClosedT b ps ∧ ∀ H', Same H H' → Q (.str "safe") H') ∨ ((∃ p, K79.first b = some p ∧ p ∉ ps) ∧ Part C H E "safe"))
def spCheck (C : Addr) : Sp := fun vs H Q E => ∃ (a pa : Addr) (b : K79.Bk), vs = [.ref a, .ref pa] ∧ BkAt H a b ∧ K79.Good b ∧ (TurnsPaper C H pa b Q E ∨ SafePaper C H pa b Q E)
theorem ok_check {k : Nat} (D : Df K mg "check_book" sCheck ["book", "paper"]) (T : Tx mg) (TB : PySem.BpX.BpTxt P K mg C fI) (hm0 : mg "super" = none) (cN : Cl P w K mg base k "need_book" ["thing"] spNeed)(cD : Cl P w K mg base k "does_turn" ["book", "text"] spDoes)(cS : Cl P w K mg base k "is_safe" ["book", "table"] spSafe) : ClX P w K mg base (k + 1) "check_book" ["book", "paper"] (spCheck C) := by
  refine clX_of D scCheck (fun vs H Q E h => ?_) (fun f cdv A outer s H vs Q E hr h => ?_)
  · obtain ⟨a, pa, b, rfl, _⟩ := h
    rfl
  obtain ⟨a, pa, b, rfl, hb, hg, q⟩ := h
  refine ⟨_, (pss_cons (ps_expr (pe_cl cN hr (Nat.le_refl _) (by rfl) (pa_cons (pv 0) pa_nil)))
    (pss_cons (ps_if (PW.pt (pw_or (pt_not (pt_val (pe_callB call_isi (by rfl) T.isi (by decide +kernel) (pa_cons (pv 1) (pa_cons (pe_bltn (v := .ty "tuple") (by rfl) T.tuple (by decide +kernel) rfl) pa_nil))))) (pw_or (pt_cmpR op_ne (pe_callB call_len_seq (by rfl) T.len PySem.boot_len (pa_cons (pv 1) pa_nil)) pe_int (nomark _)) (pw_or1 (pt_not (pt_val (pe_callB call_isi (by rfl) T.isi (by decide +kernel) (pa_cons (pe_ix ix_tup (pv 1) pe_int (fun _ _ => rfl)) (pa_cons (pe_bltn (v := .ty "str") (by rfl) T.str (by decide +kernel) rfl) pa_nil))))))))) (pss_one ps_never) pss_nil)
    (pss_cons (ps_if (pt_cmpR op_notIn_seq (pe_ix ix_tup (pv 1) pe_int (fun _ _ => rfl)) (pe_tup (pa_cons (C8.pe_gc (by rfl) T.turns) (pa_cons (C8.pe_gc (by rfl) T.safe) pa_nil))) (by rfl)) (pss_one ps_never) pss_nil)
    (pss_cons (ps_set (i := 2) scCheck.nd rfl (Or.inl rfl) (pe_ifExp (pt_cmpR op_eq (pe_ix ix_tup (pv 1) pe_int (fun _ _ => rfl)) (C8.pe_gc (by rfl) T.turns) (nomark _)) (pe_cl cD hr (Nat.le_refl _) (by rfl) (pa_cons (pv 0) (pa_cons (pe_ix ix_tup (pv 1) pe_int (fun _ _ => rfl)) pa_nil))) (pe_cl cS hr (Nat.le_refl _) (by rfl) (pa_cons (pv 0) (pa_cons (pe_ix ix_tup (pv 1) pe_int (fun _ _ => rfl)) pa_nil)))))
    (pss_cons (ps_if (pt_not (pt_val (pv 2))) (pss_one (K79R.ps_raiseBp rfl TB hm0 hr (takes_of rfl rfl rfl rfl) (by exact (pa_cons (pe_ix ix_tup (pv 1) pe_int (fun _ _ => rfl)) pa_nil)))) pss_nil)
    (pss_one (ps_ret (pe_ix ix_tup (pv 1) pe_int (fun _ _ => rfl))))))))), ?_⟩
  refine ⟨.ref a, rfl, a, b, rfl, hb, hg, fun H1 s1 => ?_⟩
  rcases q with ⟨t, hp, hs, hne, hl, qT, qF⟩ | ⟨tb, ps, hp, ht, hgp, hst, hl, q⟩
  · have hp1 := s1 _ _ hp
    refine ⟨.ref pa, rfl, _, _, _, _, true, rfl, .ty "tuple", .base (.tup hp1), kit_ty (by decide +kernel), true, rfl, iteF ⟨.ref pa, rfl, pa, _, rfl, .inr (.of hp1), rfl, false, rfl, iteF ?_⟩⟩
    refine ⟨.ref pa, rfl, pa, _, 0, _, rfl, rfl, .of hp1, atI_nat (j := 0) rfl, _, _, _, _, true, rfl, .ty "str", .base (.str _), kit_ty (by decide +kernel), true, rfl, iteF ?_⟩
    refine ⟨.ref pa, rfl, pa, _, 0, _, rfl, rfl, .of hp1, atI_nat (j := 0) rfl, small_of (Nat.le_add_left 2 998), fun t2 n2 => ?_⟩
    have s2 := same_upd (o := .tup [.str "turns", .str "safe"]) n2
    refine ⟨t2, _, rfl, .inr (.of upd_same), rfl, rfl, false, rfl, iteF ?_⟩
    have hp2 := s2 _ _ hp1
    have s12 := s1.trans s2
    refine ⟨.ref pa, rfl, pa, _, 0, _, rfl, rfl, .of hp2, atI_nat (j := 0) rfl, rfl, true, rfl, iteT ?_⟩
    refine ⟨.ref a, rfl, .ref pa, rfl, pa, _, 1, _, rfl, rfl, .of hp2, atI_nat (j := 1) rfl, a, b, t, rfl, hb.same s12, hg, hs, hne, hl, fun H3 s3 => ?_⟩
    have hp3 := s3 _ _ hp2
    have s13 := s12.trans s3
    refine ⟨_, rfl, _, rfl, ?_⟩
    cases hr2 : (K79.textOf b (K79.bars b t).reverse).isSome with
    | true => exact iteF ⟨.ref pa, rfl, pa, _, 0, _, rfl, rfl, .of hp3, atI_nat (j := 0) rfl, qT hr2 H3 s13⟩
    | false =>
      refine iteT ⟨.ref pa, rfl, pa, _, 0, _, rfl, rfl, .of hp3, atI_nat (j := 0) rfl, _, rfl, fun d nd => ?_⟩
      exact qF hr2 d _ (s13.trans (same_upd nd)) (s13.free nd) upd_same
  · have hp1 := s1 _ _ hp
    refine ⟨.ref pa, rfl, _, _, _, _, true, rfl, .ty "tuple", .base (.tup hp1), kit_ty (by decide +kernel), true, rfl, iteF ⟨.ref pa, rfl, pa, _, rfl, .inr (.of hp1), rfl, false, rfl, iteF ?_⟩⟩
    refine ⟨.ref pa, rfl, pa, _, 0, _, rfl, rfl, .of hp1, atI_nat (j := 0) rfl, _, _, _, _, true, rfl, .ty "str", .base (.str _), kit_ty (by decide +kernel), true, rfl, iteF ?_⟩
    refine ⟨.ref pa, rfl, pa, _, 0, _, rfl, rfl, .of hp1, atI_nat (j := 0) rfl, small_of (Nat.le_add_left 2 998), fun t2 n2 => ?_⟩
    have s2 := same_upd (o := .tup [.str "turns", .str "safe"]) n2
    refine ⟨t2, _, rfl, .inr (.of upd_same), rfl, rfl, false, rfl, iteF ?_⟩
    have hp2 := s2 _ _ hp1
    have s12 := s1.trans s2
    refine ⟨.ref pa, rfl, pa, _, 0, _, rfl, rfl, .of hp2, atI_nat (j := 0) rfl, rfl, false, rfl, iteF ?_⟩
    refine ⟨.ref a, rfl, .ref pa, rfl, pa, _, 1, _, rfl, rfl, .of hp2, atI_nat (j := 1) rfl, a, tb, b, ps, rfl, hb.same s12, hg, ht.ts (TS.of s12), hgp, hst, hl, ?_⟩
    rcases q with ⟨hc, q⟩ | ⟨hc, q⟩
    · refine .inl ⟨hc, fun H3 s3 => ⟨_, rfl, true, rfl, iteF ?_⟩⟩
      exact ⟨.ref pa, rfl, pa, _, 0, _, rfl, rfl, .of (s3 _ _ hp2), atI_nat (j := 0) rfl, q H3 (s12.trans s3)⟩
    · refine .inr ⟨hc, fun H3 s3 => ⟨_, rfl, false, rfl, iteT ?_⟩⟩
      refine ⟨.ref pa, rfl, pa, _, 0, _, rfl, rfl, .of (s3 _ _ hp2), atI_nat (j := 0) rfl, _, rfl, fun d nd => ?_⟩
      have s13 := s12.trans s3
      exact q d _ (s13.trans (same_upd nd)) (s13.free nd) upd_same
def spRefused : Sp := fun vs H Q _ => ∃ (a pa : Addr) (b : K79.Bk), vs = [.ref a, .ref pa] ∧ BkAt H a b ∧ K79.Good b ∧
  ((∃ t : List Nat, H pa = some (.tup [.str "turns", .str (S t)]) ∧ K79.Sgs b t ∧ t ≠ [] ∧ t.length ≤ 100 ∧ K79.textOf b (K79.bars b t).reverse = none ∧ ∀ H', Same H H' → Q (.str "turns") H') ∨
   (∃ tb : Addr, H pa = some (.tup [.str "safe", .ref tb]) ∧ H tb = some (.tup []) ∧ (∃ p, K79.first b = some p) ∧ ∀ H', Same H H' → Q (.str "safe") H'))
def t_suite (C : Addr) : Addr → Value → Option Addr → L2.TS := fun a cls d => tAsg (K79R.tPart1 C a cls d (tVar 4)) (gName 2)
theorem ok_refused {k : Nat} (D : Df K mg "_law_refused" sRefused ["_law_book_so", "_law_paper"]) (T : Tx mg) (TB : PySem.BpX.BpTxt P K mg C fI) (cC : ClX P w K mg base k "check_book" ["book", "paper"] (spCheck C)) : Cl P w K mg base (k + 1) "_law_refused" ["_law_book_so", "_law_paper"] spRefused := by
  refine cl_of D scRefused (fun vs H Q E h => ?_) (fun f cdv A outer s H vs Q E hr h => ?_)
  · obtain ⟨a, pa, b, rfl, _⟩ := h
    rfl
  obtain ⟨a, pa, b, rfl, hb, hg, q⟩ := h
  refine ⟨_, (pss_cons (ps_asg (pe_tup (pa_cons pe_non (pa_cons pe_non pa_nil))) (pg_tup rfl (pgs_cons (pg_name (i := 2) scRefused.nd rfl (Or.inl rfl)) (pgs_cons (pg_name (i := 3) scRefused.nd rfl (Or.inl rfl)) pgs_nil))))
    (pss_cons (ps_try_as (i := 4) (tb := fun W => tAsg (tCallS (spCheck C) (WE W) (tCons (tVar 0) (tCons (tVar 1) tNil))) (gName 3)) (ts := t_suite C) (Wout := fun _ _ _ _ => False) rfl rfl scRefused.nd rfl rfl ⟨rfl, by decide, Or.inl TB.gC⟩ takes0
      (fun W pn xe tk _ => pss_one (ps_set (i := 3) scRefused.nd rfl (Or.inl rfl) (by exact (pe_clS cC hr (Nat.le_refl _) tk (by rfl) (pa_cons (pv 0) (pa_cons (pv 1) pa_nil))))))
      (fun a oe cls d pn hz hf => pss_one (ps_set (i := 2) scRefused.nd rfl (Or.inl rfl) (by exact (K79R.pe_part TB hz hf (pv 4))))))
    (pss_one (ps_ret (pe_ifExp (pt_cmpR op_isN (pv 3) pe_non (nomark _)) (pv 2) pe_non))))), ?_⟩
  refine ⟨small_of (Nat.le_add_left 2 998), fun t0 n0 => ⟨t0, _, rfl, .of upd_same, rfl, _, _, rfl, _, _, rfl, rfl, ?_⟩⟩
  have s0 := same_upd (o := .tup [.non, .non]) n0
  generalize (upd H t0 (.tup [.non, .non])) = H0 at s0 ⊢
  refine ⟨.ref a, rfl, .ref pa, rfl, a, pa, b, rfl, hb.same s0, hg, ?_⟩
  rcases q with ⟨t, hp, hs, hne, hl, hx, q⟩ | ⟨tb, hp, ht, ⟨p, hf⟩, q⟩
  · refine .inl ⟨t, s0 _ _ hp, hs, hne, hl, fun z => ?_, fun _ d H1 s1 n1 e1 => ⟨true, TB.te, fun _ a0 _ => ?_, fun q => Bool.noConfusion q⟩⟩
    · rw [hx] at z
      cases z
    · exact ⟨_, rfl, rfl, rfl, d, _, rfl, e1, .non, rfl, rfl, true, rfl, iteT ⟨_, rfl, q H1 (s0.trans s1)⟩⟩
  · refine .inr ⟨tb, [], s0 _ _ hp, ⟨[], s0 _ _ ht, Each.nil⟩, fun p hp => absurd hp (by simp), List.Pairwise.nil, by simp, .inr ⟨⟨p, hf, by simp⟩, fun d H1 s1 n1 e1 => ⟨true, TB.te, fun _ a0 _ => ?_, fun q => Bool.noConfusion q⟩⟩⟩
    exact ⟨_, rfl, rfl, rfl, d, _, rfl, e1, .non, rfl, rfl, true, rfl, iteT ⟨_, rfl, q H1 (s0.trans s1)⟩⟩
end
end K79W
set_option Elab.async false
set_option linter.all false
set_option maxRecDepth 100000
set_option maxHeartbeats 2000000
/-! # The law: rests, modules, texts -/
namespace K79W
open PySem PySem.Spec PyProof.Rows L2 SX
section
variable {P : Program} {w : World} {K : PySem.W.Frag} {mg : Str → Option Value} {base : Heap}
/-- a pending as the law tells it -/
def lp (p : K79.Pn) : List Nat × List Nat := if p.1 = 0 then (p.2, []) else ([], p.2)
def LpAt (H : Hp) (r : Addr) (p : K79.Pn) : Prop := H r = some (.tup [.str (S (lp p).1), .str (S (lp p).2)])
theorem LpAt.ts {H H' : Hp} {r : Addr} {p : K79.Pn} (h : LpAt H r p) (s : TS H H') : LpAt H' r p := s _ _ h
theorem LpAt.mk {H : Hp} {r : Addr} {p : K79.Pn} {x y : Str} (e : H r = some (.tup [.str x, .str y])) (e1 : x = S (lp p).1) (e2 : y = S (lp p).2) : LpAt H r p := by
  subst e1 e2
  exact e
theorem pre_take {x y : List Nat} : decide (V.str (S (x.take y.length)) = V.str (S y)) = y.isPrefixOf x := by
  rw [Bool.eq_iff_iff, decide_eq_true_iff, List.isPrefixOf_iff_prefix, List.prefix_iff_eq_take]
  exact ⟨fun h => (S_inj (V.str.inj h)).symm, fun h => by rw [← h]⟩
def spRest : Sp := fun vs H Q _ => ∃ x y : List Nat, vs = [.str (S x), .str (S y)] ∧ x.length ≤ 200 ∧ y.length ≤ 200 ∧ (K79.pend x y = none → ∀ H', Same H H' → Q .non H') ∧ ∀ p, K79.pend x y = some p → ∀ r H', Same H H' → H r = none → LpAt H' r p → Q (.ref r) H'
theorem ok_rest {k : Nat} (D : Df K mg "_law_rest" sRest ["_law_one", "_law_other"]) (T : Tx mg)  : Cl P w K mg base (k + 1) "_law_rest" ["_law_one", "_law_other"] spRest := by
  refine cl_of D scRest (fun vs H Q E h => ?_) (fun f cdv A outer s H vs Q E hr h => ?_)
  · obtain ⟨x, y, rfl, _⟩ := h
    rfl
  obtain ⟨x, y, rfl, hx, hy, q0, q1⟩ := h
  have zx : (S x).length ≤ sizeLine := by rw [S_len]; exact small_of (by omega)
  have zy : (S y).length ≤ sizeLine := by rw [S_len]; exact small_of (by omega)
  have cx : Txt.slice (S x) (some ((S y).length : Int)) none = S (x.drop y.length) := by rw [S_len, slice_from (by omega), Int.toNat_natCast]
  have cy : Txt.slice (S y) (some ((S x).length : Int)) none = S (y.drop x.length) := by rw [S_len, slice_from (by omega), Int.toNat_natCast]
  have tx : Txt.slice (S x) none (some ((S y).length : Int)) = S (x.take y.length) := by rw [S_len, slice_to (by omega), Int.toNat_natCast]
  have ty : Txt.slice (S y) none (some ((S x).length : Int)) = S (y.take x.length) := by rw [S_len, slice_to (by omega), Int.toNat_natCast]
  refine ⟨_, (pss_cons (ps_if (pt_cmpR op_eq (pe_slice C8.sl_txt (pv 0) po_none (po_some (pe_callB call_len_str (by rfl) T.len PySem.boot_len (pa_cons (pv 1) pa_nil)))) (pv 1) (nomark _)) (pss_one (ps_ret (pe_tup (pa_cons (pe_slice C8.sl_txt (pv 0) (po_some (pe_callB call_len_str (by rfl) T.len PySem.boot_len (pa_cons (pv 1) pa_nil))) po_none) (pa_cons pe_str pa_nil))))) pss_nil)
    (pss_one (ps_ret (pe_ifExp (pt_cmpR op_eq (pe_slice C8.sl_txt (pv 1) po_none (po_some (pe_callB call_len_str (by rfl) T.len PySem.boot_len (pa_cons (pv 0) pa_nil)))) (pv 0) (nomark _)) (pe_tup (pa_cons pe_str (pa_cons (pe_slice C8.sl_txt (pv 1) (po_some (pe_callB call_len_str (by rfl) T.len PySem.boot_len (pa_cons (pv 0) pa_nil))) po_none) pa_nil))) pe_non)))), ?_⟩
  refine ⟨.str (S x), rfl, .str (S y), rfl, S y, rfl, zy, _, rfl, S x, rfl, zx, .str (S y), rfl, rfl, _, rfl, ?_⟩
  rw [tx, pre_take]
  cases h1 : y.isPrefixOf x with
  | true =>
    refine iteT ⟨.str (S x), rfl, .str (S y), rfl, S y, rfl, zy, _, rfl, S x, rfl, zx, small_of (Nat.le_add_left 2 998), fun t ht => ?_⟩
    have e : K79.pend x y = some (0, x.drop y.length) := if_pos h1
    exact q1 _ e t _ (same_upd ht) ht (LpAt.mk upd_same cx rfl)
  | false =>
    refine iteF ⟨.str (S y), rfl, .str (S x), rfl, S x, rfl, zx, _, rfl, S y, rfl, zy, .str (S x), rfl, rfl, _, rfl, ?_⟩
    rw [ty, pre_take]
    cases h2 : x.isPrefixOf y with
    | true =>
      refine iteT ⟨.str (S y), rfl, .str (S x), rfl, S x, rfl, zx, _, rfl, S y, rfl, zy, small_of (Nat.le_add_left 2 998), fun t ht => ?_⟩
      have e : K79.pend x y = some (1, y.drop x.length) := by unfold K79.pend; rw [h1, h2]; rfl
      exact q1 _ e t _ (same_upd ht) ht (LpAt.mk upd_same rfl cy)
    | false =>
      refine iteF ?_
      have e : K79.pend x y = none := by unfold K79.pend; rw [h1, h2]; rfl
      exact q0 e H (Same.refl _)
def rListOf (K : PySem.W.Frag) : List V → Hp → VK → Prop := fun xs H Q => ∃ p ys, xs = [.ref p] ∧ (SqL K H p ys ∨ SqT K H p ys) ∧ ∀ l, H l = none → Q (.ref l) (upd H l (.lst ys))
theorem call_listK {X : Cx} : CallR X (.type "list") (rListOf X.K) := call_list_of
def rDictP (K : PySem.W.Frag) : List V → Hp → VK → Prop := fun xs H Q => ∃ (a : Addr) (ps : List Addr) (kvs : List (Key × V)), xs = [.ref a] ∧ SqL K H a (ps.map V.ref) ∧ Paired (fun p kv => SqT K H p [kV kv.1, kv.2]) ps kvs ∧ ∀ p, H p = none → Q (.ref p) (upd H p (.dK (mergeK [] kvs)))
theorem call_dictPK {X : Cx} (hc : X.calm = true) : CallR X (.type "dict") (rDictP X.K) := call_dictP hc
theorem paired_of {α β γ : Type} {R : α → γ → Prop} {f : β → γ} : ∀ {rs : List α} {ws : List β}, rs.length = ws.length → (∀ (i : Nat) r p, rs[i]? = some r → ws[i]? = some p → R r (f p)) → Paired R rs (ws.map f)
  | [], [], _, _ => .nil
  | [], _ :: _, h, _ => absurd h (by simp)
  | _ :: _, [], h, _ => absurd h (by simp)
  | r :: rs, p :: ws, h, hR => .cons (hR 0 r p rfl rfl) (paired_of (by simpa using h) fun i r p h1 h2 => hR (i + 1) r p h1 h2)
theorem paired_words {K : PySem.W.Frag} {H : Hp} {wa : Addr} {rs : List Addr} {ws : List K79.Wd} (h : WsR H wa rs ws) : Paired (fun p kv => SqT K H p [kV kv.1, kv.2]) rs (wdict ws) :=
  paired_of h.len fun i r p h1 h2 => by
    obtain ⟨r', e1, e2⟩ := h.wd i p h2
    rw [h1] at e1
    have e3 := Option.some.inj e1
    subst e3
    exact .of e2
theorem merge_dict {kf : K79.Wd → Str} {vf : K79.Wd → V} {ws : List K79.Wd} (nd : (ws.map kf).Nodup) : ∀ (n i : Nat), i + n = ws.length → mergeK (dict kf vf (ws.take i)) (dict kf vf (ws.drop i)) = dict kf vf ws
  | 0, i, h => by
    rw [List.drop_eq_nil_of_le (by omega), List.take_of_length_le (by omega)]
    rfl
  | n + 1, i, h => by
    have hi : i < ws.length := by omega
    rw [List.drop_eq_getElem_cons hi]
    show mergeK (putK (dict kf vf (ws.take i)) (.inr (kf ws[i])) (vf ws[i])) (dict kf vf (ws.drop (i + 1))) = _
    rw [dict_new nd (List.getElem?_eq_getElem hi)]
    exact merge_dict nd n (i + 1) (by omega)
theorem merge_words {ws : List K79.Wd} (nd : (ws.map (·.1)).Nodup) : mergeK [] (wdict ws) = wdict ws := merge_dict (nd_S1 nd) ws.length 0 (by omega)
def spMods : Sp := fun vs H Q _ => ∃ (a : Addr) (b : K79.Bk) (t : List Nat), vs = [.ref a, .str (S t)] ∧ BkAt H a b ∧ K79.Good b ∧ K79.Sgs b t ∧ t ≠ [] ∧ t.length ≤ 100 ∧ ∀ H', Same H H' → Q (.str (S (K79.bars b t))) H'
theorem ok_mods {k : Nat} (D : Df K mg "_law_modules" sModules ["_law_book_so", "_law_text"]) (T : Tx mg)  : Cl P w K mg base (k + 1) "_law_modules" ["_law_book_so", "_law_text"] spMods := by
  refine cl_of D scModules (fun vs H Q E h => ?_) (fun f cdv A outer s H vs Q E hr h => ?_)
  · obtain ⟨a, b, t, rfl, _⟩ := h
    rfl
  obtain ⟨a, b, t, rfl, hb, hg, hs, hne, hl, q⟩ := h
  have hz : (S t).length ≤ sizeLine := by rw [S_len]; exact small_of (by omega)
  have hlen := K79.bars_len hg hs
  have h4 := hg.s4
  have h5 := hg.e4
  have h6 := hg.w3
  have h7 : t.length * K79.wide b ≤ 100 * 3 := Nat.mul_le_mul hl h6
  refine ⟨_, (pss_one (ps_ret (pe_op op_add_str (pe_op op_add_str (pe_ix ix_tup (pv 0) pe_int (fun _ _ => rfl)) (pe_join pe_str (pe_lc (own := [("_law_sign", 2)]) (g := (gName 2)) (tt := tYes) rfl scModules.nd (pi_str (pv 1)) (blkOk_by (own := [("_law_sign", 2)]) (N := ["_law_book_so", "_law_text", "_law_sign"]) (sc := defScope sModules) (by decide +kernel))
      (fun _ _ _ _ _ => (pg_name (i := 2) scModules.nd rfl (Or.inl rfl))) (fun _ _ _ _ _ => pts_nil) (fun _ _ _ _ _ => (pe_dget (hu_of hr) (pe_callTy (r := rDictP K) (call_dictPK rfl) (by rfl) T.dict (by decide +kernel) (pa_cons (pe_callTy (r := rListOf K) call_listK (by rfl) T.list (by decide +kernel) (pa_cons (pe_ix (r := rIxT K) ix_tup (pv 0) pe_int (fun _ _ => rfl)) pa_nil)) pa_nil)) (pv 2) (fun _ _ => rfl)))))) (pe_ix ix_tup (pv 0) pe_int (fun _ _ => rfl))))), ?_⟩
  obtain ⟨wa, rs, ha, hw⟩ := hb
  refine ⟨.ref a, rfl, a, _, 0, _, rfl, rfl, .of ha, atI_nat (j := 0) rfl, ⟨_, rfl⟩, .str (S t), rfl, S t, rfl, fun C hC => lc_fn walk_str (fun i => .str (S (K79.look b.ws (t.getD i 0)))) hC (fun _ _ => trivial) hz (fun i x H2 H' Nx hi sm y hN => ?_) fun H2 sm hD => ?_⟩
  · obtain ⟨rfl, c, hc, rfl⟩ := y
    obtain ⟨hc1, hc2⟩ := sgs_get hs hc
    have hwm := hw.same sm
    refine ⟨rfl, .ref a, rfl, a, _, 2, _, rfl, rfl, .of (sm _ _ ha), atI_nat (j := 2) rfl, wa, _, rfl, .inr (.of hwm.tup), fun l nl => ⟨l, rs, wdict b.ws, rfl, .of upd_same, paired_words (hwm.ts (TS.updN nl)), fun d nd => ?_⟩⟩
    rw [merge_words hg.nd1]
    have hget : DGet (upd (upd H' l (.lst (rs.map V.ref))) d (.dK (wdict b.ws))) d (.str (S [c])) (some (.str (S (K79.look b.ws c)))) := by
      have z := DGet.k (k := Sum.inr (S [c])) (show (upd (upd H' l (.lst (rs.map V.ref))) d (.dK (wdict b.ws))) d = some (.dK (wdict b.ws)) from upd_same)
      rw [val_look hc1] at z
      exact z
    refine ⟨_, rfl, d, _, rfl, hget, ?_⟩
    have e : t.getD i 0 = c := by rw [List.getD_eq_getElem?_getD, hc2]; rfl
    rw [e] at hN
    exact hN _ ((same_upd nl).trans (same_upd nd))
  have ea := sm _ _ ha
  rw [S_size, rng_map t (fun s => V.str (S (K79.look b.ws s))) 0] at hD
  have ed : (t.map fun s => V.str (S (K79.look b.ws s))) = (t.map fun s => S (K79.look b.ws s)).map V.str := by rw [List.map_map]; rfl
  rw [ed] at hD
  have ef : (t.map (K79.look b.ws)).flatten = K79.flat b t := by unfold K79.flat; rw [List.flatMap_def]
  have ej : Txt.join (S []) (t.map fun s => S (K79.look b.ws s)) = S (K79.flat b t) := by rw [join_flat, K79R.join_nil, ef]
  have es : ((t.map fun s => S (K79.look b.ws s)).map (·.length)).sum = (K79.flat b t).length := by rw [← ef, List.length_flatten, join_flat, lens]
  have hfl := K79.flat_len hg hs
  refine ⟨S [], C, t.map (fun s => S (K79.look b.ws s)), rfl, rfl, .inl (.of hD), ?_, S b.start, _, rfl, congrArg V.str ej, ?_, ?_⟩
  · rw [es, S_len]
    show (K79.flat b t).length + _ * 0 ≤ _
    omega
  · rw [S_len, S_len]
    exact small_of (by omega)
  refine ⟨.ref a, rfl, a, _, 1, _, rfl, rfl, .of ea, atI_nat (j := 1) rfl, S (b.start ++ K79.flat b t), S b.stop, congrArg V.str (S_cat _ _), rfl, ?_, ?_⟩
  · rw [S_len, S_len, List.length_append]
    exact small_of (by omega)
  · rw [S_cat]
    exact q H2 sm
def txts (sg : List Nat) : Nat → List (List Nat)
  | 0 => [[]]
  | n + 1 => (txts sg n).flatMap fun t => sg.map fun s => t ++ [s]
theorem txts_mem {sg : List Nat} : ∀ {n : Nat} {t : List Nat}, t ∈ txts sg n → t.length = n ∧ ∀ s ∈ t, s ∈ sg
  | 0, t, h => by
    have e : t = [] := by simpa [txts] using h
    subst e
    exact ⟨rfl, fun s hs => absurd hs (by simp)⟩
  | n + 1, t, h => by
    obtain ⟨u, hu, h⟩ := List.mem_flatMap.mp (show t ∈ (txts sg n).flatMap _ from h)
    obtain ⟨s, hs, rfl⟩ := List.mem_map.mp h
    obtain ⟨h1, h2⟩ := txts_mem hu
    refine ⟨by rw [List.length_append, h1]; rfl, fun x hx => ?_⟩
    rcases List.mem_append.mp hx with z | z
    · exact h2 x z
    · rw [List.mem_singleton.mp z]; exact hs
theorem flat_len4 {sg : List Nat} (h : sg.length ≤ 4) (l : List (List Nat)) : (l.flatMap fun t => sg.map fun s => t ++ [s]).length ≤ l.length * 4 := by
  induction l with
  | nil => simp
  | cons t l ih =>
    rw [List.flatMap_cons, List.length_append, List.length_map, List.length_cons]
    omega
theorem txts_len {sg : List Nat} (h : sg.length ≤ 4) : ∀ n : Nat, (txts sg n).length ≤ 4 ^ n
  | 0 => Nat.le_refl _
  | n + 1 => by
    have h1 := flat_len4 h (txts sg n)
    have h2 := txts_len h n
    show ((txts sg n).flatMap _).length ≤ 4 ^ (n + 1)
    rw [Nat.pow_succ]
    omega
abbrev vsl (l : List (List Nat)) : List V := l.map fun t => .str (S t)
theorem vsl_app (l m : List (List Nat)) : vsl l ++ vsl m = vsl (l ++ m) := (List.map_append).symm
def spTexts : Sp := fun vs H Q _ => ∃ (a : Addr) (b : K79.Bk) (n : Nat), vs = [.ref a, .int (n : Nat)] ∧ BkAt H a b ∧ K79.Good b ∧ n ≤ 3 ∧ ∀ r H', Same H H' → H' r = some (.lst (vsl (txts (b.ws.map (·.1)) n))) → Q (.ref r) H'
theorem ok_texts {k : Nat} (D : Df K mg "_law_texts" sTexts ["_law_book_so", "_law_many"]) (T : Tx mg)  : Cl P w K mg base (k + 1) "_law_texts" ["_law_book_so", "_law_many"] spTexts := by
  refine cl_of D scTexts (fun vs H Q E h => ?_) (fun f cdv A outer s H vs Q E hr h => ?_)
  · obtain ⟨a, b, n, rfl, _⟩ := h
    rfl
  obtain ⟨a, b, n, rfl, hb, hg, hn, q⟩ := h
  obtain ⟨wa, rs, ha, hw⟩ := hb
  have n4 := hg.n4
  have hsg : (b.ws.map (·.1)).length ≤ 4 := by rw [List.length_map]; exact n4
  refine ⟨_, (pss_cons (ps_set (i := 2) scTexts.nd rfl (Or.inl rfl) (pe_lst (pa_cons pe_str pa_nil)))
    (pss_cons (ps_for PassesOwn.never rfl (pi_range1 (by rfl) T.range (pa_cons (pv 1) pa_nil)) (pg_name (i := 3) scTexts.nd rfl (Or.inl rfl)) (pss_cons (ps_set (i := 4) scTexts.nd rfl (Or.inl rfl) (pe_lst pa_nil))
    (pss_cons (ps_for PassesOwn.never rfl (pi_list (pv 2)) (pg_name (i := 5) scTexts.nd rfl (Or.inr rfl)) (pss_one (ps_set (i := 4) scTexts.nd rfl (Or.inl rfl) (pe_op op_cat (pv 4) (pe_lc (own := [("_law_pair", 6)]) (g := (gName 6)) (tt := tYes) rfl scTexts.nd (pi_tup (pe_ix ix_tup (pv 0) pe_int (fun _ _ => rfl))) (blkOk_by (own := [("_law_pair", 6)]) (N := ["_law_book_so", "_law_many", "_law_found", "_law_k", "_law_longer", "_law_text", "_law_pair"]) (sc := defScope sTexts) (by decide +kernel))
      (fun _ _ _ _ _ => (pg_name (i := 6) scTexts.nd rfl (Or.inl rfl))) (fun _ _ _ _ _ => pts_nil) (fun _ _ _ _ _ => (pe_op op_add_str (pv 5) (pe_ix (r := rIxT K) ix_tup (pv 6) pe_int (fun _ _ => rfl)))))))))
    (pss_one (ps_set (i := 2) scTexts.nd rfl (Or.inl rfl) (pv 4))))))
    (pss_one (ps_ret (pv 2))))), ?_⟩
  refine ⟨small_of (Nat.le_add_left 1 999), fun o no => ?_⟩
  refine ⟨.int (n : Nat), rfl, (n : Nat), rfl, by omega, by omega, ?_⟩
  rw [Int.toNat_natCast]
  refine for_range (lo := 0) (n := n) (fun i σ H3 => ∃ r y3 y4 y5, σ = [some (.ref a), some (.int (n : Nat)), some (.ref r), y3, y4, y5, none] ∧ Same H H3 ∧ H3 r = some (.lst (vsl (txts (b.ws.map (·.1)) i))))
    ⟨o, none, none, none, rfl, same_upd no, upd_same⟩ (fun i σ H3 hi p => ?_) (fun σ H3 p => ?_)
  · obtain ⟨r, y3, y4, y5, rfl, s3, er⟩ := p
    have hcnt : (txts (b.ws.map (·.1)) i).length ≤ 16 := Nat.le_trans (txts_len hsg i) (by
      have : 4 ^ i ≤ 4 ^ 2 := Nat.pow_le_pow_right (by decide) (by omega)
      exact this)
    refine ⟨Nat.zero_le _, fun o1 n1 => ?_⟩
    have s4 : Same H3 (upd H3 o1 (.lst [])) := same_upd n1
    refine ⟨.ref r, rfl, r, rfl, ⟨_, .of (s4 _ _ er)⟩, for_list (xs := vsl (txts (b.ws.map (·.1)) i)) (fun j σ H5 => ∃ o2 y5, σ = [some (.ref a), some (.int (n : Nat)), some (.ref r), some (.int (0 + (i : Nat))), some (.ref o2), y5, none] ∧ Same H3 H5 ∧
        H5 o2 = some (.lst (vsl (((txts (b.ws.map (·.1)) i).take j).flatMap fun t => (b.ws.map (·.1)).map fun s => t ++ [s]))))
      ⟨o1, y5, rfl, s4, upd_same⟩ (fun j σ H5 _ p => by obtain ⟨_, _, _, s5, _⟩ := p; exact .of (s5 _ _ er)) (fun j x σ H5 hx p => ?_) (fun σ H5 p => ?_)⟩
    · obtain ⟨o2, y5, rfl, s5, e2⟩ := p
      obtain ⟨t, ht, rfl⟩ : ∃ t, (txts (b.ws.map (·.1)) i)[j]? = some t ∧ x = .str (S t) := by
        rw [List.getElem?_map] at hx
        cases e : (txts (b.ws.map (·.1)) i)[j]? with
        | none => rw [e] at hx; cases hx
        | some t => rw [e] at hx; exact ⟨t, rfl, (Option.some.inj hx).symm⟩
      have hj : j < (txts (b.ws.map (·.1)) i).length := (List.getElem?_eq_some_iff.mp ht).1
      have htl := (txts_mem (List.mem_of_getElem? ht)).1
      have s35 := s3.trans s5
      have hw5 := hw.same s35
      refine ⟨.ref o2, rfl, .ref a, rfl, a, _, 2, _, rfl, rfl, .of (s35 _ _ ha), atI_nat (j := 2) rfl, wa, rfl, ⟨_, .of hw5.tup⟩, fun C hC => lc_fn walk_tup (fun i => .str (S (t ++ [(b.ws.map (·.1)).getD i 0]))) hC (fun H1 sm => .of (sm _ _ hw5.tup)) (by rw [hw.lenV]; exact small_of (by omega)) (fun m x H6 H' Nx hm sm y hN => ?_) fun H6 s6 hD => ?_⟩
      · obtain ⟨rfl, hx⟩ := y
        obtain ⟨rp, p, rfl, ep, hp, hwd⟩ := (hw5.same sm).at hx
        have hwd' : H' rp = some (.tup [.str (S [p.1]), .str (S p.2)]) := hwd
        have eg : (b.ws.map (·.1)).getD m 0 = p.1 := by rw [List.getD_eq_getElem?_getD, List.getElem?_map, ep]; rfl
        rw [eg] at hN
        refine ⟨rfl, .str (S t), rfl, .ref rp, rfl, rp, _, 0, _, rfl, rfl, .of hwd', atI_nat (j := 0) rfl, S t, S [p.1], rfl, rfl, ?_, ?_⟩
        · rw [S_len, S_len]
          show t.length + 1 ≤ _
          exact small_of (by omega)
        · rw [S_cat]
          exact hN _ (Same.refl _)
      have hlen4 : (rs.map V.ref).length = (b.ws.map (·.1)).length := by rw [hw.lenV, List.length_map]
      rw [hlen4, rng_map (b.ws.map (·.1)) (fun s => V.str (S (t ++ [s]))) 0] at hD
      have ed : ((b.ws.map (·.1)).map fun s => V.str (S (t ++ [s]))) = vsl ((b.ws.map (·.1)).map fun s => t ++ [s]) := by unfold vsl; rw [List.map_map, List.map_map, List.map_map]; rfl
      rw [ed] at hD
      have hfl := flat_len4 hsg ((txts (b.ws.map (·.1)) i).take j)
      rw [List.length_take] at hfl
      refine ⟨o2, C, _, _, rfl, rfl, s6 _ _ e2, hD, ?_, fun o3 n3 => ?_⟩
      · rw [List.length_map, List.length_map, List.length_map]
        exact small_of (by omega)
      · refine ⟨o3, _, rfl, (s5.trans s6).trans (same_upd n3), ?_⟩
        rw [upd_same, vsl_app, List.take_add_one, ht, List.flatMap_append]
        simp
    · obtain ⟨o2, y5, rfl, s5, e2⟩ := p
      rw [List.length_map, List.take_length] at e2
      exact ⟨.ref o2, rfl, o2, _, _, _, rfl, s3.trans s5, e2⟩
  · obtain ⟨r, y3, y4, y5, rfl, s3, er⟩ := p
    exact ⟨.ref r, rfl, q r H3 s3 er⟩
end
end K79W
set_option Elab.async false
set_option linter.all false
set_option maxRecDepth 100000
set_option maxHeartbeats 2000000
/-! # The law's own reading -/
namespace K79W
open PySem PySem.Spec PyProof.Rows L2 SX
section
variable {P : Program} {w : World} {K : PySem.W.Frag} {mg : Str → Option Value} {base : Heap}
def cand (ws : List K79.Wd) (ch : List Nat) : List Nat := (ws.filter fun p => p.2 == ch).map (·.1)
theorem cand_snoc {ws : List K79.Wd} {ch : List Nat} {j : Nat} {p : K79.Wd} (e : ws[j]? = some p) : cand (ws.take (j + 1)) ch = cand (ws.take j) ch ++ (if (p.2 == ch) = true then [p.1] else []) := by
  unfold cand
  rw [List.take_add_one, e, List.filter_append, List.map_append]
  congr 1
  cases h : (p.2 == ch) with
  | true => simp [h]
  | false => simp [h]
theorem cand_head (ws : List K79.Wd) (ch : List Nat) : (cand ws ch).head? = K79.rlook ws ch := by
  unfold cand K79.rlook
  rw [List.head?_map, List.head?_filter]
theorem cand_sub {ws : List K79.Wd} {ch : List Nat} {s : Nat} (h : s ∈ cand ws ch) : s ∈ ws.map (·.1) := by
  obtain ⟨p, hp, e⟩ := List.mem_map.mp h
  exact List.mem_map.mpr ⟨p, (List.mem_filter.mp hp).1, e⟩
abbrev ones (l : List Nat) : List V := l.map fun s => .str (S [s])
def onesD (l : List Nat) : List PyData := l.map fun s => .str (S [s])
theorem dp_ones {K : PySem.W.Frag} {H : Hp} : ∀ l : List Nat, DpAll K H (ones l) (onesD l)
  | [] => .nil
  | s :: l => .cons (.str _) (dp_ones l)
theorem ones_ok {l : List Nat} (h : SmallT l) : PyData.canLayAll0 (onesD l) = true ∧ PyData.depthAll (onesD l) ≤ 0 := by
  induction l with
  | nil => exact ⟨by simp [onesD, PyData.canLayAll0], by simp [onesD, PyData.depthAll]⟩
  | cons s l ih =>
    obtain ⟨i1, i2⟩ := ih fun c hc => h c (List.mem_cons_of_mem _ hc)
    have h1 : PyData.strOk (S [s]) = true := str_small fun c hc => by rw [List.mem_singleton.mp hc]; exact h s (List.mem_cons_self ..)
    unfold onesD at i1 i2 ⊢
    rw [List.map_cons]
    refine ⟨?_, ?_⟩
    · simp only [PyData.canLayAll0, i1, PyData.canLay0, h1]
      rfl
    · simp only [PyData.depthAll, PyData.depth]
      omega
theorem shaped_ones {l : List Nat} (h : SmallT l) : SeqAt.shaped (.list (onesD l)) = true := by
  obtain ⟨h1, h2⟩ := ones_ok h
  unfold SeqAt.shaped
  rw [Bool.and_eq_true]
  refine ⟨by simp only [PyData.canLay0, h1], decide_eq_true ?_⟩
  simp only [PyData.depth]
  omega
def spLRd : Sp := fun vs H Q _ => ∃ (a : Addr) (b : K79.Bk) (row : List Nat), vs = [.ref a, .str (S row)] ∧ BkAt H a b ∧ K79.Good b ∧ row.length ≤ 1000 ∧ b.start.length + b.stop.length ≤ row.length ∧ ∀ H', Same H H' → Q (K79R.optV (K79.textOf b row)) H'
theorem ok_lread {k : Nat} (D : Df K mg "_law_reading" sLReading ["_law_book_so", "_law_row"]) (T : Tx mg)  : Cl P w K mg base (k + 1) "_law_reading" ["_law_book_so", "_law_row"] spLRd := by
  refine cl_of D scLReading (fun vs H Q E h => ?_) (fun f cdv A outer s H vs Q E hr h => ?_)
  · obtain ⟨a, b, row, rfl, _⟩ := h
    rfl
  obtain ⟨a, b, row, rfl, hb, hg, hl, hse, q⟩ := h
  have hz : (S row).length ≤ sizeLine := by rw [S_len]; exact small_of (by omega)
  obtain ⟨wa, rs, ha, hw⟩ := hb
  have n2 := hg.n2
  have n4 := hg.n4
  have h1 := hg.s1
  have h2 := hg.s4
  have h3 := hg.e1
  have h4 := hg.e4
  have w2 := hg.w2
  have w3 := hg.w3
  obtain ⟨r0, e0, hwd0⟩ := hw.wd 0 _ (List.getElem?_eq_getElem (by omega))
  have hl0 := hg.wl _ (List.getElem_mem (show 0 < b.ws.length by omega))
  have er : (rs.map V.ref)[0]? = some (.ref r0) := by rw [List.getElem?_map, e0]; rfl
  have zs : (S b.start).length ≤ sizeLine := by rw [S_len]; exact small_of (by omega)
  have ze : (S b.stop).length ≤ sizeLine := by rw [S_len]; exact small_of (by omega)
  obtain ⟨inner, hinn⟩ : ∃ inner, inner = (row.drop b.start.length).take (row.length - b.stop.length - b.start.length) := ⟨_, rfl⟩
  have hinl : inner.length = row.length - b.start.length - b.stop.length := by
    rw [hinn, List.length_take, List.length_drop]
    omega
  have hin : Txt.slice (S row) (some ((S b.start).length : Int)) (some (((S row).length : Int) - ((S b.stop).length : Int))) = S inner := by
    rw [S_len, S_len, S_len, hinn]
    have z : ((row.length : Int) - (b.stop.length : Int)) = ((row.length - b.stop.length : Nat) : Int) := by omega
    rw [z, K79R.slice_mid (by omega) (by omega)]
  refine ⟨_, (pss_cons (ps_asg (pe_tup (pa_cons (pe_callB call_len_str (by rfl) T.len PySem.boot_len (pa_cons (pe_ix ix_tup (pv 0) pe_int (fun _ _ => rfl)) pa_nil)) (pa_cons (pe_callB call_len_str (by rfl) T.len PySem.boot_len (pa_cons (pe_ix ix_tup (pv 0) pe_int (fun _ _ => rfl)) pa_nil)) (pa_cons (pe_callB call_len_str (by rfl) T.len PySem.boot_len (pa_cons (pe_ix ix_tup (pe_ix ix_tup (pe_ix ix_tup (pv 0) pe_int (fun _ _ => rfl)) pe_int (fun _ _ => rfl)) pe_int (fun _ _ => rfl)) pa_nil)) pa_nil)))) (pg_tup rfl (pgs_cons (pg_name (i := 2) scLReading.nd rfl (Or.inl rfl)) (pgs_cons (pg_name (i := 3) scLReading.nd rfl (Or.inl rfl)) (pgs_cons (pg_name (i := 4) scLReading.nd rfl (Or.inr rfl)) pgs_nil)))))
    (C8.pss_cut (ps_asg (pe_tup (pa_cons (pe_slice C8.sl_txt (pv 1) (po_some (pv 2)) (po_some (pe_op op_sub (pe_callB call_len_str (by rfl) T.len PySem.boot_len (pa_cons (pv 1) pa_nil)) (pv 3)))) (pa_cons pe_str pa_nil))) (pg_tup rfl (pgs_cons (pg_name (i := 5) scLReading.nd rfl (Or.inr rfl)) (pgs_cons (pg_name (i := 6) scLReading.nd rfl (Or.inl rfl)) pgs_nil))))
    (pss_cons (ps_if (PW.pt (pw_or (pt_cmpR op_lt (pe_callB call_len_str (by rfl) T.len PySem.boot_len (pa_cons (pv 1) pa_nil)) (pe_op op_add (pe_op op_add (pv 2) (pv 3)) (pv 4)) (nomark _)) (pw_or (pt_cmpR op_ne (pe_slice C8.sl_txt (pv 1) po_none (po_some (pv 2))) (pe_ix ix_tup (pv 0) pe_int (fun _ _ => rfl)) (nomark _)) (pw_or1 (pt_cmpR op_ne (pe_slice C8.sl_txt (pv 1) (po_some (pe_op op_sub (pe_callB call_len_str (by rfl) T.len PySem.boot_len (pa_cons (pv 1) pa_nil)) (pv 3))) po_none) (pe_ix ix_tup (pv 0) pe_int (fun _ _ => rfl)) (nomark _)))))) (pss_one (ps_ret pe_non)) pss_nil)
    (pss_cons (ps_if (pt_cmpR op_ne (pe_op op_modN (pe_callTy call_int1 (by rfl) T.int (by decide +kernel) (pa_cons (pe_callB call_len_str (by rfl) T.len PySem.boot_len (pa_cons (pv 5) pa_nil)) pa_nil)) (pv 4)) pe_int (nomark _)) (pss_one (ps_ret pe_non)) pss_nil)
    (pss_cons (ps_for PassesOwn.never rfl (pi_range1 (by rfl) T.range (pa_cons (pe_op op_fdivN (pe_callB call_len_str (by rfl) T.len PySem.boot_len (pa_cons (pv 5) pa_nil)) (pv 4)) pa_nil)) (pg_name (i := 7) scLReading.nd rfl (Or.inr rfl)) (pss_cons (ps_setLc (i := 8) (own := [("_law_pair", 9)]) (g := (gName 9)) (tt := _) rfl scLReading.nd rfl rfl (sw_true rfl rfl rfl (by decide +kernel)) (pi_tup (pe_ix ix_tup (pv 0) pe_int (fun _ _ => rfl))) (blkOk_by (own := [("_law_pair", 9)]) (N := ["_law_book_so", "_law_row", "_law_first", "_law_last", "_law_wide_so", "_law_inner", "_law_found", "_law_k", "_law_some", "_law_pair"]) (sc := defScope sLReading) (by decide +kernel))
      (fun _ _ _ _ _ => (pg_name (i := 9) scLReading.nd rfl (Or.inl rfl))) (fun _ _ _ _ _ => pts_one (pt_cmpR op_eq (pe_ix (r := rIxT K) ix_tup (pv 9) pe_int (fun _ _ => rfl)) (pe_slice C8.sl_txt (pv 5) (po_some (pe_op op_mul (pv 4) (pv 7))) (po_some (pe_op op_add (pe_op op_mul (pv 4) (pv 7)) (pv 4)))) (nomark _))) (fun _ _ _ _ _ => (pe_ix (r := rIxT K) ix_tup (pv 9) pe_int (fun _ _ => rfl))))
    (pss_cons (ps_if (pt_cmpR (op_eqD hr.units) (pv 8) (pe_lst pa_nil) (nomark _)) (pss_one (ps_ret pe_non)) pss_nil)
    (pss_one (ps_set (i := 6) scLReading.nd rfl (Or.inl rfl) (pe_op op_add_str (pv 6) (pe_ix ix_list (pv 8) pe_int (fun _ _ => rfl))))))))
    (pss_one (ps_ret (pv 6)))))))), ?_⟩
  refine ⟨.ref a, rfl, a, _, 0, _, rfl, rfl, .of ha, atI_nat (j := 0) rfl, S b.start, rfl, zs, .ref a, rfl, a, _, 1, _, rfl, rfl, .of ha, atI_nat (j := 1) rfl, S b.stop, rfl, ze,
    .ref a, rfl, a, _, 2, _, rfl, rfl, .of ha, atI_nat (j := 2) rfl, wa, _, 0, _, rfl, rfl, .of hw.tup, atI_nat (j := 0) er, r0, _, 1, _, rfl, rfl, .of hwd0, atI_nat (j := 1) rfl, S _, rfl, small_of (by rw [S_len]; omega), small_of (Nat.le_add_left 3 997), fun t0 n0 => ?_⟩
  refine ⟨t0, _, rfl, .of upd_same, rfl, _, _, rfl, _, _, rfl, _, _, rfl, rfl, ?_⟩
  refine ⟨fun σ' H' => σ' = [some (.ref a), some (.str (S row)), some (.int (b.start.length : Nat)), some (.int (b.stop.length : Nat)), some (.int (K79.wide b : Nat)), some (.str (S inner)), some (.str (S [])), none, none, none] ∧ Same H H', ?_, fun σ' H' hM => ?_⟩
  · refine ⟨.str (S row), rfl, _, rfl, _, rfl, .str (S row), rfl, S row, rfl, hz, _, rfl, _, _, rfl, rfl, _, rfl, S row, rfl, hz, small_of (Nat.le_add_left 2 998), fun t1 n1 => ⟨t1, _, rfl, .of upd_same, rfl, _, _, rfl, _, _, rfl, rfl, ?_, (same_upd n0).trans (same_upd n1)⟩⟩
    rw [hin, S_len, S_len, S_len, hl0]
    rfl
  obtain ⟨rfl, s1⟩ := hM
  have ha1 := s1 _ _ ha
  have hw1 := hw.same s1
  refine ⟨.str (S row), rfl, S row, rfl, hz, _, rfl, _, rfl, _, _, rfl, rfl, _, rfl, _, _, rfl, rfl, _, _, rfl, rfl, _, rfl, ite2 (fun hc => ?_) (fun hc => ?_)⟩
  · have hc := of_decide_eq_true hc
    rw [S_len] at hc
    have e : K79.textOf b row = none := by
      unfold K79.textOf
      rw [if_neg]
      unfold K79.fits
      rw [decide_eq_false (by omega), Bool.false_and]
      exact Bool.false_ne_true
    rw [e] at q
    exact q H' s1
  have hc : b.start.length + b.stop.length + K79.wide b ≤ row.length := by
    have z : ¬ (((S row).length : Int) < ((b.start.length : Nat) : Int) + ((b.stop.length : Nat) : Int) + ((K79.wide b : Nat) : Int)) := fun z => hc (decide_eq_true z)
    rw [S_len] at z
    omega
  have et : Txt.slice (S row) none (some ((b.start.length : Nat) : Int)) = S (row.take b.start.length) := by rw [slice_to (by omega), Int.toNat_natCast]
  have ef : Txt.slice (S row) (some (((S row).length : Int) - ((b.stop.length : Nat) : Int))) none = S (row.drop (row.length - b.stop.length)) := by
    rw [slice_from (by rw [S_len]; omega), S_len]
    congr 2
    omega
  have hfit : K79.fits b row = (decide ((row.length - b.start.length - b.stop.length) % K79.wide b = 0) && (row.take b.start.length == b.start && row.drop (row.length - b.stop.length) == b.stop)) := by
    unfold K79.fits
    rw [decide_eq_true hc, Bool.true_and]
  refine ⟨.str (S row), rfl, _, rfl, _, rfl, S row, rfl, hz, .ref a, rfl, a, _, 0, _, rfl, rfl, .of ha1, atI_nat (j := 0) rfl, rfl, _, rfl, ?_⟩
  rw [et]
  refine ite2 (fun hx => ?_) (fun hx => ?_)
  · have e : K79.textOf b row = none := by
      unfold K79.textOf
      rw [if_neg]
      rw [hfit]
      cases z : (row.take b.start.length == b.start) with
      | true =>
        rw [beq_iff_eq.mp z] at hx
        rw [decide_eq_true rfl] at hx
        cases hx
      | false => rw [Bool.false_and, Bool.and_false]; exact Bool.false_ne_true
    rw [e] at q
    exact q H' s1
  have hx1 : (row.take b.start.length == b.start) = true := by
    by_cases z : row.take b.start.length = b.start
    · exact beq_iff_eq.mpr z
    · exact absurd (show (!decide (V.str (S (row.take b.start.length)) = V.str (S b.start))) = true by rw [decide_eq_false (fun y => z (S_inj (V.str.inj y)))]; rfl) hx
  refine ⟨.str (S row), rfl, .str (S row), rfl, S row, rfl, hz, _, rfl, _, _, rfl, rfl, _, rfl, S row, rfl, hz, .ref a, rfl, a, _, 1, _, rfl, rfl, .of ha1, atI_nat (j := 1) rfl, rfl, _, rfl, ?_⟩
  rw [ef]
  refine ite2 (fun hy => ?_) (fun hy => ?_)
  · have e : K79.textOf b row = none := by
      unfold K79.textOf
      rw [if_neg]
      rw [hfit]
      cases z : (row.drop (row.length - b.stop.length) == b.stop) with
      | true =>
        rw [beq_iff_eq.mp z] at hy
        rw [decide_eq_true rfl] at hy
        cases hy
      | false => rw [Bool.and_false, Bool.and_false]; exact Bool.false_ne_true
    rw [e] at q
    exact q H' s1
  have hy1 : (row.drop (row.length - b.stop.length) == b.stop) = true := by
    by_cases z : row.drop (row.length - b.stop.length) = b.stop
    · exact beq_iff_eq.mpr z
    · exact absurd (show (!decide (V.str (S (row.drop (row.length - b.stop.length))) = V.str (S b.stop))) = true by rw [decide_eq_false (fun y => z (S_inj (V.str.inj y)))]; rfl) hy
  have zi : (S inner).length ≤ sizeLine := by rw [S_len]; exact small_of (by omega)
  refine ⟨.str (S inner), rfl, S inner, rfl, zi, .inl ⟨_, rfl, .int (K79.wide b : Nat), rfl, _, _, rfl, rfl, (by show ((K79.wide b : Nat) : Int) ≠ 0; omega), rfl, _, rfl, ?_⟩⟩
  rw [S_len, hinl]
  refine ite2 (fun hd => ?_) (fun hd => ?_)
  · have hd : ¬ (row.length - b.start.length - b.stop.length) % K79.wide b = 0 := fun z => by
      have z2 : (((row.length - b.start.length - b.stop.length : Nat) : Int).fmod (K79.wide b : Nat)) = 0 := by
        rw [Int.fmod_eq_emod_of_nonneg _ (by omega)]
        omega
      have hd : (!decide (V.int (((row.length - b.start.length - b.stop.length : Nat) : Int).fmod (K79.wide b : Nat)) = V.int 0)) = true := hd
      rw [z2] at hd
      exact absurd hd (by decide)
    have e : K79.textOf b row = none := by
      unfold K79.textOf
      rw [if_neg]
      rw [hfit, decide_eq_false hd, Bool.false_and]
      exact Bool.false_ne_true
    rw [e] at q
    exact q H' s1
  have hd : (row.length - b.start.length - b.stop.length) % K79.wide b = 0 := by
    by_cases z : (row.length - b.start.length - b.stop.length) % K79.wide b = 0
    · exact z
    · exfalso
      refine hd ?_
      have z2 : (((row.length - b.start.length - b.stop.length : Nat) : Int).fmod (K79.wide b : Nat)) ≠ 0 := by
        rw [Int.fmod_eq_emod_of_nonneg _ (by omega)]
        omega
      simpa using z2
  have hf : K79.fits b row = true := by rw [hfit, decide_eq_true hd, hx1, hy1]; rfl
  have hmk : K79.textOf b row = K79.upTo (K79.signAt b row) (K79.many b row) := by
    unfold K79.textOf
    rw [if_pos hf]
  have hmn : row.length - b.start.length - b.stop.length = K79.wide b * K79.many b row := by
    unfold K79.many
    exact (Nat.mul_div_cancel' (Nat.dvd_of_mod_eq_zero hd)).symm
  have hnm : K79.many b row ≤ row.length := by
    have : K79.many b row ≤ K79.wide b * K79.many b row := Nat.le_mul_of_pos_left _ (by omega)
    omega
  have hdiv : (((S inner).length : Int)).fdiv (K79.wide b : Nat) = (K79.many b row : Nat) := by
    rw [S_len, hinl, Int.fdiv_eq_ediv_of_nonneg _ (by omega)]
    unfold K79.many
    rfl
  refine ⟨.str (S inner), rfl, S inner, rfl, zi, .int (K79.wide b : Nat), rfl, _, _, rfl, rfl, ⟨by omega, by omega⟩, (K79.many b row : Nat), congrArg (fun z => [V.int z]) hdiv, by omega, by omega, ?_⟩
  rw [Int.toNat_natCast]
  refine for_range (lo := 0) (n := K79.many b row) (fun i σ H3 => ∃ t y7 y8, σ = [some (.ref a), some (.str (S row)), some (.int (b.start.length : Nat)), some (.int (b.stop.length : Nat)), some (.int (K79.wide b : Nat)), some (.str (S inner)), some (.str (S t)), y7, y8, none] ∧ Same H H3 ∧ K79.upTo (K79.signAt b row) i = some t)
    ⟨[], none, none, rfl, s1, rfl⟩ (fun i σ H3 hi p => ?_) (fun σ H3 p => ?_)
  · obtain ⟨t, y7, y8, rfl, s3, et⟩ := p
    have hiw : i * K79.wide b + K79.wide b ≤ inner.length := by
      have := Nat.mul_le_mul_left (K79.wide b) (show i + 1 ≤ K79.many b row by omega)
      rw [hinl, hmn]
      rw [Nat.mul_add, Nat.mul_one, Nat.mul_comm] at this
      exact this
    have hch : (inner.drop (i * K79.wide b)).take (K79.wide b) = K79.chunk b row i := by
      unfold K79.chunk
      rw [hinn, List.drop_take, List.drop_drop, List.take_take, Nat.min_eq_left (by omega)]
    have hsl : Txt.slice (S inner) (some (((K79.wide b : Nat) : Int) * (0 + (i : Nat)))) (some (((K79.wide b : Nat) : Int) * (0 + (i : Nat)) + (K79.wide b : Nat))) = S (K79.chunk b row i) := by
      have z1 : (((K79.wide b : Nat) : Int) * (0 + (i : Nat))) = ((i * K79.wide b : Nat) : Int) := by rw [Int.zero_add, Int.mul_comm]; push_cast; rfl
      rw [z1]
      have z2 : (((i * K79.wide b : Nat) : Int) + (K79.wide b : Nat)) = ((i * K79.wide b + K79.wide b : Nat) : Int) := by push_cast; rfl
      rw [z2, K79R.slice_mid (by omega) (by omega), Nat.add_sub_cancel_left, hch]
    have hw3 := hw.same s3
    have ha3 := s3 _ _ ha
    refine ⟨.ref a, rfl, a, _, 2, _, rfl, rfl, .of ha3, atI_nat (j := 2) rfl, wa, rfl, ⟨_, .of hw3.tup⟩, fun C hC => lc_it walk_tup (fun j H => Same H3 H ∧ H C = some (.lst (ones (cand (b.ws.take j) (K79.chunk b row i))))) ⟨same_upd hC, upd_same⟩ (fun j H _ p => .of (p.1 _ _ hw3.tup)) (fun j x H5 H6 hj p y => ?_) fun H5 p => ?_⟩
    · obtain ⟨rfl, hx⟩ := y
      obtain ⟨rp, p', rfl, ep, hp, hwd⟩ := (hw3.same p.1).at hx
      have hwd' : H6 rp = some (.tup [.str (S [p'.1]), .str (S p'.2)]) := hwd
      have hwb : ((K79.wide b : Nat) : Int) < 2 ^ 64 := by omega
      have hwb0 : -(2 ^ 64 : Int) < ((K79.wide b : Nat) : Int) := by omega
      refine ⟨rfl, .ref rp, rfl, rp, _, 1, _, rfl, rfl, .of hwd', atI_nat (j := 1) rfl, .str (S inner), rfl, _, rfl, _, rfl, _, _, rfl, rfl, .inl ⟨hwb0, hwb⟩, _, rfl, _, rfl, _, rfl, _, _, rfl, rfl, .inl ⟨hwb0, hwb⟩, _, rfl, _, _, rfl, rfl, _, rfl, S inner, rfl, zi, rfl, _, rfl, ?_⟩
      rw [hsl]
      have hc : decide (V.str (S p'.2) = V.str (S (K79.chunk b row i))) = (p'.2 == K79.chunk b row i) := by
        rw [Bool.eq_iff_iff, decide_eq_true_iff, beq_iff_eq]
        exact ⟨fun h => S_inj (V.str.inj h), fun h => by rw [h]⟩
      rw [hc]
      have hsn := cand_snoc (ch := K79.chunk b row i) ep
      cases hcc : (p'.2 == K79.chunk b row i) with
      | false =>
        rw [hcc, if_neg Bool.false_ne_true, List.append_nil] at hsn
        refine iteF ⟨p.1, ?_⟩
        rw [hsn]
        exact p.2
      | true =>
        rw [hcc, if_pos rfl] at hsn
        have hcl : (cand (b.ws.take j) (K79.chunk b row i)).length ≤ 4 := by
          unfold cand
          rw [List.length_map]
          refine Nat.le_trans (List.length_filter_le _ _) ?_
          rw [List.length_take]
          omega
        refine iteT ⟨.ref rp, rfl, rp, _, 0, _, rfl, rfl, .of hwd', atI_nat (j := 0) rfl, _, p.2, ?_, same_upd' hC p.1, ?_⟩
        · rw [List.length_map]
          exact small1000 (by omega)
        · rw [upd_same, hsn]
          show some (HO.lst (ones _ ++ [V.str (S [p'.1])])) = some (HO.lst (ones (_ ++ [p'.1])))
          unfold ones
          rw [List.map_append]
          rfl
    · obtain ⟨s5, e5⟩ := p
      rw [hw3.lenV, List.take_length] at e5
      obtain ⟨cs, hcs⟩ : ∃ cs, cs = cand b.ws (K79.chunk b row i) := ⟨_, rfl⟩
      have hhead := cand_head b.ws (K79.chunk b row i)
      have hsm : SmallT cs := fun c hc => by
        rw [hcs] at hc
        obtain ⟨p, hp, e⟩ := List.mem_map.mp (cand_sub hc)
        rcases hg.sg p hp with z | z | z | z | z <;> omega
      rw [← hcs] at hhead e5
      refine ⟨.ref C, rfl, Nat.zero_le _, fun z nz => ⟨.list (onesD cs), .list [], .lst (.of ((same_upd nz) _ _ e5)) (dp_ones cs), .lst (.of upd_same) .nil, shaped_ones hsm, shaped_nil, _, rfl, ?_⟩⟩
      have s6 : Same H5 (upd H5 z (.lst [])) := same_upd nz
      cases cs with
      | nil =>
        refine iteT ?_
        have hk : K79.rlook b.ws (K79.chunk b row i) = none := hhead.symm
        have e : K79.textOf b row = none := by rw [hmk, K79.upTo_none (i := i) hk hi]
        rw [e] at q
        exact q _ ((s3.trans s5).trans s6)
      | cons s cs =>
        refine iteF ?_
        have hk : K79.rlook b.ws (K79.chunk b row i) = some s := hhead.symm
        have hlen := K79.upTo_len et
        refine ⟨.str (S t), rfl, .ref C, rfl, C, _, 0, _, rfl, rfl, .of (s6 _ _ e5), atI_nat (j := 0) rfl, S t, S [s], rfl, rfl, ?_, ?_⟩
        · rw [S_len, S_len]
          show t.length + 1 ≤ _
          exact small_of (by omega)
        · rw [S_cat]
          exact ⟨t ++ [s], _, _, rfl, (s3.trans s5).trans s6, K79.upTo_succ et hk⟩
  · obtain ⟨t, y7, y8, rfl, s3, et⟩ := p
    rw [hmk, et] at q
    exact ⟨.str (S t), rfl, q H3 s3⟩
end
end K79W
set_option Elab.async false
set_option linter.all false
set_option maxRecDepth 100000
set_option maxHeartbeats 2000000
/-! # The law's own search -/
namespace K79W
open PySem PySem.Spec PyProof.Rows L2 SX
section
variable {P : Program} {w : World} {K : PySem.W.Frag} {mg : Str → Option Value} {base : Heap}
def Sided (p : K79.Pn) : Prop := (p.1 = 0 ∨ p.1 = 1) ∧ (p.1 = 1 → p.2 ≠ [])
theorem lp_inj {p q : K79.Pn} (hp : Sided p) (hq : Sided q) (h : lp p = lp q) : p = q := by
  obtain ⟨s, t⟩ := p
  obtain ⟨s', t'⟩ := q
  obtain ⟨h1, h2⟩ := hp
  obtain ⟨h3, h4⟩ := hq
  have h1 : s = 0 ∨ s = 1 := h1
  have h3 : s' = 0 ∨ s' = 1 := h3
  rcases h1 with rfl | rfl
  · rcases h3 with rfl | rfl
    · have e : t = t' := (Prod.mk.inj h).1
      rw [e]
    · have e : [] = t' := (Prod.mk.inj h).2
      exact absurd e.symm (h4 rfl)
  · rcases h3 with rfl | rfl
    · have e : t = [] := (Prod.mk.inj h).2
      exact absurd e (h2 rfl)
    · have e : t = t' := (Prod.mk.inj h).2
      rw [e]
theorem lp_grown {p : K79.Pn} (h : p.1 = 0 ∨ p.1 = 1) (x y : List Nat) : K79.pend ((lp p).1 ++ x) ((lp p).2 ++ y) = K79.grown p x y := by
  obtain ⟨s, t⟩ := p
  have h : s = 0 ∨ s = 1 := h
  rcases h with rfl | rfl <;> rfl
theorem lp_end {p : K79.Pn} (h : p.1 = 0 ∨ p.1 = 1) (b : K79.Bk) : decide (V.str (S ((lp p).1 ++ b.start.reverse)) = V.str (S ((lp p).2 ++ b.stop))) = K79.isEnd b p := by
  unfold K79.isEnd
  rw [← lp_grown h, Bool.eq_iff_iff, decide_eq_true_iff, beq_iff_eq, K79.pend_zero]
  exact ⟨fun z => S_inj (V.str.inj z), fun z => by rw [z]⟩
theorem lp_len {p : K79.Pn} (h : p.2.length ≤ 3) : (lp p).1.length ≤ 3 ∧ (lp p).2.length ≤ 3 := by
  unfold lp
  split
  · exact ⟨h, Nat.zero_le _⟩
  · exact ⟨Nat.zero_le _, h⟩
theorem lp_mods {p : K79.Pn} (h : K79.Mods p.2) : SmallT (lp p).1 ∧ SmallT (lp p).2 := by
  have hn : SmallT [] := fun c hc => absurd hc (by simp)
  unfold lp
  split
  · exact ⟨mods_small h, hn⟩
  · exact ⟨hn, mods_small h⟩
theorem good_sided {b : K79.Bk} {p : K79.Pn} (h : K79.GoodP b p) : Sided p := ⟨h.side, h.ne⟩
def lkey (p : K79.Pn) : List Key := [.inr (S (lp p).1), .inr (S (lp p).2)]
theorem lkey_inj {p q : K79.Pn} (hp : Sided p) (hq : Sided q) (h : lkey p = lkey q) : p = q := by
  have h1 := S_inj (Sum.inr.inj (List.cons.inj h).1)
  have h2 := S_inj (Sum.inr.inj (List.cons.inj (List.cons.inj h).2).1)
  exact lp_inj hp hq (Prod.ext h1 h2)
theorem LpAt.key {H : Hp} {r : Addr} {p : K79.Pn} (h : LpAt H r p) : H r = some (.tup ((lkey p).map kV)) := h
def lknd (k : K79.Kn) : List (List Key × V) := k.map fun q => (lkey q.1, .bl true)
theorem val_lknd {p : K79.Pn} (hp : Sided p) : ∀ {k : K79.Kn}, (∀ q ∈ K79.keys k, Sided q) → (valV (lknd k) (lkey p)).isSome = decide (p ∈ K79.keys k)
  | [], _ => rfl
  | q :: k, h => by
    have ih := val_lknd hp (k := k) fun x hx => h x (List.mem_cons_of_mem _ hx)
    have hq := h q.1 (List.mem_cons_self ..)
    by_cases e : q.1 = p
    · rw [show lknd (q :: k) = (lkey q.1, .bl true) :: lknd k from rfl, valV_pos (by show lkey q.1 = lkey p; rw [e])]
      rw [decide_eq_true (show p ∈ K79.keys (q :: k) from by rw [← e]; exact List.mem_cons_self ..)]
      rfl
    · rw [show lknd (q :: k) = (lkey q.1, .bl true) :: lknd k from rfl, valV_neg (fun z => e (lkey_inj hq hp z)), ih]
      have : p ∈ K79.keys (q :: k) ↔ p ∈ K79.keys k := by
        unfold K79.keys
        rw [List.map_cons, List.mem_cons]
        exact ⟨fun h => h.elim (fun z => absurd z.symm e) id, .inr⟩
      rw [Bool.eq_iff_iff, decide_eq_true_iff, decide_eq_true_iff]
      exact this.symm
theorem put_lknd {k : K79.Kn} {q : K79.Pn × List Nat} (hq : Sided q.1) (hk : ∀ q ∈ K79.keys k, Sided q) (h : q.1 ∉ K79.keys k) : putK (lknd k) (lkey q.1) (.bl true) = lknd (k ++ [q]) := by
  have hv : valV (lknd k) (lkey q.1) = none := by
    have := val_lknd hq hk
    rw [decide_eq_false h] at this
    cases e : valV (lknd k) (lkey q.1) with
    | none => rfl
    | some _ => rw [e] at this; cases this
  rw [putK_new _ hv]
  unfold lknd
  rw [List.map_append]
  rfl
def lpD (q : K79.Pn × List Nat) : PyData := .tuple [.str (S (lp q.1).1), .str (S (lp q.1).2)]
theorem dp_lp {K : PySem.W.Frag} {H : Hp} {r : Addr} {q : K79.Pn × List Nat} (h : LpAt H r q.1) : Dp K H (.ref r) (lpD q) := .tup (.of h) (.cons (.str _) (.cons (.str _) .nil))
theorem lps_ok {es : List (K79.Pn × List Nat)} (h : ∀ q ∈ es, K79.Mods q.1.2) : PyData.canLayAll0 (es.map lpD) = true ∧ PyData.depthAll (es.map lpD) ≤ 1 := by
  induction es with
  | nil => exact ⟨by simp [PyData.canLayAll0], by simp [PyData.depthAll]⟩
  | cons q es ih =>
    obtain ⟨i1, i2⟩ := ih fun x hx => h x (List.mem_cons_of_mem _ hx)
    obtain ⟨h1, h2⟩ := lp_mods (h q (List.mem_cons_self ..))
    rw [List.map_cons]
    refine ⟨?_, ?_⟩
    · simp only [PyData.canLayAll0, i1, lpD, PyData.canLay0, str_small h1, str_small h2]
      rfl
    · simp only [PyData.depthAll, lpD, PyData.depth]
      omega
theorem shaped_lps {es : List (K79.Pn × List Nat)} (h : ∀ q ∈ es, K79.Mods q.1.2) : SeqAt.shaped (.list (es.map lpD)) = true := by
  obtain ⟨h1, h2⟩ := lps_ok h
  unfold SeqAt.shaped
  rw [Bool.and_eq_true]
  refine ⟨by simp only [PyData.canLay0, h1], decide_eq_true ?_⟩
  simp only [PyData.depth]
  omega
/-! the edges, pair by pair -/
def pre (b : K79.Bk) (p : K79.Pn) (i : Nat) : List K79.Edge := (b.ws.take i).flatMap fun u => nx1 p u b.ws
theorem pre_all (b : K79.Bk) (p : K79.Pn) : pre b p b.ws.length = K79.nexts b p := by
  unfold pre
  rw [List.take_length]
  rfl
theorem pre_split {b : K79.Bk} {p : K79.Pn} {i j : Nat} {u : K79.Wd} (e : b.ws[i]? = some u) : ∃ rest, K79.nexts b p = (pre b p i ++ nx1 p u (b.ws.take j)) ++ rest := by
  refine ⟨nx1 p u (b.ws.drop j) ++ (b.ws.drop (i + 1)).flatMap (fun u => nx1 p u b.ws), ?_⟩
  have h1 : nx1 p u b.ws = nx1 p u (b.ws.take j) ++ nx1 p u (b.ws.drop j) := by
    unfold nx1
    rw [← List.filterMap_append, List.take_append_drop]
  have h2 : K79.nexts b p = pre b p (i + 1) ++ (b.ws.drop (i + 1)).flatMap (fun u => nx1 p u b.ws) := by
    unfold pre
    rw [← List.flatMap_append, List.take_append_drop]
    rfl
  have h3 : pre b p (i + 1) = pre b p i ++ nx1 p u b.ws := nx_snoc e
  rw [h2, h3, h1, List.append_assoc, List.append_assoc, List.append_assoc]
theorem run_stop2 {S' E X : Type} {f : S' → E → Except X S'} {as bs : List E} {e : E} {s s' : S'} {x : X} (h : K79.run f as s = .ok s') (h2 : f s' e = .error x) : K79.run f ((as ++ [e]) ++ bs) s = .error x := by
  refine K79.run_err ?_
  rw [K79.run_snoc h, h2]
def spFewest : Sp := fun vs H Q _ => ∃ (a : Addr) (b : K79.Bk), vs = [.ref a] ∧ BkAt H a b ∧ K79.Good b ∧ (∀ t, K79.search b = some (.error t) → ∀ H', Same H H' → Q (.int (t.length : Nat)) H') ∧ ∀ k, K79.search b = some (.ok k) → ∀ H', Same H H' → Q .non H'
theorem ok_fewest {k : Nat} (D : Df K mg "_law_fewest" sFewest ["_law_book_so"]) (T : Tx mg) (cR : Cl P w K mg base k "_law_rest" ["_law_one", "_law_other"] spRest) : Cl P w K mg base (k + 1) "_law_fewest" ["_law_book_so"] spFewest := by
  refine cl_of D scFewest (fun vs H Q E h => ?_) (fun f cdv A outer s H vs Q E hr h => ?_)
  · obtain ⟨a, b, rfl, _⟩ := h
    rfl
  obtain ⟨a, b, rfl, hb, hg, q0, q1⟩ := h
  obtain ⟨wa, rs, ha, hw⟩ := id hb
  have h2 := hg.s4
  have h4 := hg.e4
  have hu0 := Nat.lt_of_succ_lt (hu_of hr)
  refine ⟨_, (pss_cons (ps_set (i := 1) scFewest.nd rfl (Or.inl rfl) (pe_cl cR hr (Nat.le_refl _) (by rfl) (pa_cons (K79R.pe_revS (pe_ix ix_tup (pv 0) pe_int (fun _ _ => rfl))) (pa_cons (pe_ix ix_tup (pv 0) pe_int (fun _ _ => rfl)) pa_nil))))
    (pss_cons (ps_par3 (i := 2) (j := 3) (l := 4) rfl scFewest.nd rfl rfl rfl (by decide) (by decide) (by decide) rfl rfl rfl (pa_cons (pe_ifExp (pt_cmpR op_isN (pv 1) pe_non (nomark _)) (pe_lst pa_nil) (pe_lst (pa_cons (pv 1) pa_nil))) (pa_cons (K79R.pe_or2 (K79R.pe_dispT hu0 (pps_cons (pv 1) pe_bl pps_nil)) (K79R.pe_dispN (pps_cons (pv 1) pe_bl pps_nil))) (pa_cons pe_int pa_nil))) (by rfl))
    (pss_cons (ps_while PassesOwn.never (pt_cmpR (op_neD hr.units) (pv 2) (pe_lst pa_nil) (nomark _)) (pss_cons (ps_par (i := 5) (j := 4) (by rfl) scFewest.nd rfl rfl (by decide) rfl rfl (pa_cons (pe_lst pa_nil) (pa_cons (pe_op op_add (pv 4) pe_int) pa_nil)) (by rfl))
    (pss_cons (ps_for PassesOwn.never rfl (pi_list (pv 2)) (pg_tup rfl (pgs_cons (pg_name (i := 6) scFewest.nd rfl (Or.inl rfl)) (pgs_cons (pg_name (i := 7) scFewest.nd rfl (Or.inl rfl)) pgs_nil))) (pss_one (ps_for PassesOwn.never rfl (pi_tup (pe_ix ix_tup (pv 0) pe_int (fun _ _ => rfl))) (pg_name (i := 8) scFewest.nd rfl (Or.inl rfl)) (pss_one (ps_for PassesOwn.never rfl (pi_tup (pe_ix ix_tup (pv 0) pe_int (fun _ _ => rfl))) (pg_name (i := 9) scFewest.nd rfl (Or.inl rfl)) (pss_cons (ps_set (i := 10) scFewest.nd rfl (Or.inl rfl) (pe_cl cR hr (Nat.le_refl _) (by rfl) (pa_cons (pe_op op_add_str (pv 6) (K79R.pe_revS (pe_ix ix_tup (pv 8) pe_int (fun _ _ => rfl)))) (pa_cons (pe_op op_add_str (pv 7) (pe_ix ix_tup (pv 9) pe_int (fun _ _ => rfl))) pa_nil))))
    (pss_cons (ps_if (PW.pt (pw_and (pt_cmpR op_notN (pv 10) pe_non (nomark _)) (pw_and1 (pt_cmpR op_eq (pe_op op_add_str (pe_ix ix_tup (pv 10) pe_int (fun _ _ => rfl)) (K79R.pe_revS (pe_ix ix_tup (pv 0) pe_int (fun _ _ => rfl)))) (pe_op op_add_str (pe_ix ix_tup (pv 10) pe_int (fun _ _ => rfl)) (pe_ix ix_tup (pv 0) pe_int (fun _ _ => rfl))) (nomark _))))) (pss_one (ps_ret (pv 4))) pss_nil)
    (pss_one (ps_if (PW.pt (pw_and (pt_cmpR op_notN (pv 10) pe_non (nomark _)) (pw_and1 (pt_cmp (pc_dnotin (hu_of hr) (pv 10) (pv 3)))))) (pss_cons (ps_dput (hu_of hr) (pv 3) (pv 10) pe_bl rfl)
    (pss_one (ps_expr (pe_bm PySem.F.plainAttrs_list PySem.F.slot_list_append PySem.F.type_list_append mt_append (pv 5) (pa_cons (pv 10) pa_nil))))) pss_nil)))))))))
    (pss_one (ps_set (i := 2) scFewest.nd rfl (Or.inl rfl) (pv 5))))))
    (pss_one (ps_ret pe_non))))), ?_⟩
  refine ⟨.ref a, rfl, a, _, 1, _, rfl, rfl, .of ha, atI_nat (j := 1) rfl, b.stop, rfl, small_of (by omega), .ref a, rfl, a, _, 0, _, rfl, rfl, .of ha, atI_nat (j := 0) rfl, b.stop.reverse, b.start, rfl, by rw [List.length_reverse]; omega, by omega, fun e H1 s1 => ?_, fun p e f H1 s1 nf hf => ?_⟩
  -- neither begins with the other: no layer
  · have es : K79.search b = some (.ok []) := by
      unfold K79.search
      rw [show K79.first b = none from e]
    refine ⟨.non, rfl, rfl, true, rfl, iteT ⟨Nat.zero_le _, fun l nl => .inr fun kd nk => ⟨.non, rfl, rfl, upd_same, .ref l, .ref kd, _, rfl, ?_⟩⟩⟩
    have sl : Same H (upd H1 l (.lst [])) := s1.trans (same_upd nl)
    have nkl : l ≠ kd := ne_of_none upd_same nk
    have sk : Same H (upd (upd (upd H1 l (.lst [])) kd (K79R.leafO P w kd)) kd (K79R.anyO kd)) := same_upd' (sl.free nk) (same_upd' (sl.free nk) sl)
    have el : (upd (upd (upd H1 l (.lst [])) kd (K79R.leafO P w kd)) kd (K79R.anyO kd)) l = some (.lst []) := by rw [upd_ne nkl, upd_ne nkl, upd_same]
    refine ⟨fun m σ H3 => σ = [some (.ref a), some .non, some (.ref l), some (.ref kd), some (.int 0), none, none, none, none, none, none] ∧ Same H H3 ∧ H3 l = some (.lst []), ⟨0, rfl, sk, el⟩, fun m σ H3 hW => ?_⟩
    obtain ⟨rfl, s3, el3⟩ := hW
    refine ⟨.ref l, rfl, Nat.zero_le _, fun z nz => ⟨.list [], .list [], .lst (.of ((same_upd nz) _ _ el3)) .nil, .lst (.of upd_same) .nil, shaped_nil, shaped_nil, _, rfl, iteF ?_⟩⟩
    exact q1 [] es _ (s3.trans (same_upd nz))
  have hf0 : K79.first b = some p := e
  have hp0 : Sided p := good_sided ((K79.Path.first hf0).good hg)
  refine ⟨.ref f, rfl, rfl, false, rfl, iteF ⟨.ref f, rfl, small_of (Nat.le_add_left 1 999), fun l nl => .inl fun kd nk => ?_⟩⟩
  have sl : Same H1 (upd H1 l (.lst [.ref f])) := same_upd nl
  have el0 : (upd H1 l (.lst [.ref f])) l = some (.lst [.ref f]) := upd_same
  have hf2 := hf.ts (TS.of sl)
  have nlk : l ≠ kd := ne_of_none el0 nk
  generalize (upd H1 l (.lst [.ref f])) = HL at sl el0 hf2 nk ⊢
  refine ⟨.ref f, rfl, lkey p, f, rfl, upd_same, by rw [upd_ne (ne_of_none hf2 nk)]; exact hf2, .ref l, .ref kd, _, rfl, ?_⟩
  have nkd : H kd = none := (s1.trans sl).free nk
  have sK : Same H (upd (upd HL kd (.dT [])) kd (.dT [(lkey p, .bl true)])) := same_upd' nkd (same_upd' nkd (s1.trans sl))
  have tK : TS HL (upd (upd HL kd (.dT [])) kd (.dT [(lkey p, .bl true)])) := (TS.updN nk).trans (TS.updT upd_same)
  have eK : (upd (upd HL kd (.dT [])) kd (.dT [(lkey p, .bl true)])) kd = some (.dT (lknd [(p, [])])) := upd_same
  have eL1 : (upd (upd HL kd (.dT [])) kd (.dT [(lkey p, .bl true)])) l = some (.lst [.ref f]) := by rw [upd_ne nlk, upd_ne nlk]; exact el0
  generalize (upd (upd HL kd (.dT [])) kd (.dT [(lkey p, .bl true)])) = HK at sK tK eK eL1 ⊢
  have hInit : ∃ r, K79.search b = some r := K79.search_ends hg
  obtain ⟨R, hR⟩ := hInit
  have hR2 : K79.searchF b K79.fuel [(p, [])] [(p, [])] = some R := by
    have := hR
    unfold K79.search at this
    rw [hf0] at this
    exact this
  refine ⟨fun m σ H3 => ∃ k lay l xs y5 y6 y7 y8 y9 y10 d, σ = [some (.ref a), some (.ref f), some (.ref l), some (.ref kd), some (.int ((d : Nat) : Int)), y5, y6, y7, y8, y9, y10] ∧ Same H H3 ∧ H3 kd = some (.dT (lknd k)) ∧ H3 l = some (.lst xs) ∧ Each (fun r q => LpAt H3 r q.1) xs lay ∧ K79.SInv b d k lay ∧ d + m ≤ 40 ∧ K79.searchF b m k lay = some R,
    ⟨K79.fuel, [(p, [])], [(p, [])], l, [.ref f], none, none, none, none, none, none, 0, rfl, sK, eK, eL1, ?_, K79.SInv.start hg hf0, by decide, hR2⟩, fun m σ H3 hW => ?_⟩
  · have hit : LpAt HK f (p, ([] : List Nat)).1 := hf2.ts tK
    exact Each.nil.snoc hit
  obtain ⟨k, lay, l, xs, y5, y6, y7, y8, y9, y10, d, rfl, s3, eK3, eL, hE, I, hdm, hS⟩ := hW
  have hml : ∀ q ∈ lay, K79.Mods q.1.2 := fun q hq => by
    obtain ⟨f, hf⟩ := I.path q (I.lay q hq).1
    exact (hf.good hg).mods
  refine ⟨.ref l, rfl, Nat.zero_le _, fun z nz => ⟨.list (lay.map lpD), .list [], .lst (.of ((same_upd nz) _ _ eL)) (dpAll_each (hE.mono fun r q h => dp_lp (h.ts (TS.updN nz)))), .lst (.of upd_same) .nil, shaped_lps hml, shaped_nil, _, rfl, ?_⟩⟩
  have s4 : Same H3 (upd H3 z (.lst [])) := same_upd nz
  by_cases hl : lay = []
  · subst hl
    refine iteF ?_
    have hk : some (Except.ok k) = some R := by
      have e2 : K79.searchF b m k [] = some (.ok k) := by cases m <;> rfl
      rw [← e2, hS]
    have hk2 := Option.some.inj hk
    subst hk2
    exact q1 k hR _ (s3.trans s4)
  have hcond : (!PyData.eqv (.list (lay.map lpD)) (.list [])) = true := by
    rw [eqv_nil (fun z => hl (List.map_eq_nil_iff.mp z))]
    rfl
  refine ite2 (fun _ => ?_) (fun z => absurd hcond z)
  obtain ⟨m', rfl⟩ : ∃ m', m = m' + 1 := by
    cases m with
    | zero => cases lay with
      | nil => exact absurd rfl hl
      | cons x r => cases hS
    | succ m' => exact ⟨m', rfl⟩
  have hS2 : (match K79.layerStep b k lay with | .error t => some (.error t) | .ok st => K79.searchF b m' st.1 st.2) = some R := by
    cases lay with
    | nil => exact absurd rfl hl
    | cons x r => exact hS
  refine ⟨fun σ' H' => ∃ m2, m2 < m' + 1 ∧ (∃ k lay l xs y5 y6 y7 y8 y9 y10 d, σ' = [some (.ref a), some (.ref f), some (.ref l), some (.ref kd), some (.int ((d : Nat) : Int)), y5, y6, y7, y8, y9, y10] ∧ Same H H' ∧ H' kd = some (.dT (lknd k)) ∧ H' l = some (.lst xs) ∧ Each (fun r q => LpAt H' r q.1) xs lay ∧ K79.SInv b d k lay ∧ d + m2 ≤ 40 ∧ K79.searchF b m2 k lay = some R), fun _ _ h => h, ?_⟩
  refine ⟨Nat.zero_le _, fun fo nfo => ⟨_, rfl, _, _, rfl, rfl, .ref fo, .int (((d + 1 : Nat)) : Int), rfl, ?_⟩⟩
  have s5 : Same (upd H3 z (.lst [])) (upd (upd H3 z (.lst [])) fo (.lst [])) := same_upd nfo
  have s35 : Same H3 (upd (upd H3 z (.lst [])) fo (.lst [])) := s4.trans s5
  have nfoH : H fo = none := s3.free (s4.free nfo)
  have nlfo : l ≠ fo := ne_of_none (s4 _ _ eL) nfo
  have nkfo : kd ≠ fo := ne_of_none (s4 _ _ eK3) nfo
  have efo : (upd (upd H3 z (.lst [])) fo (.lst [])) fo = some (.lst []) := upd_same
  generalize (upd (upd H3 z (.lst [])) fo (.lst [])) = H5 at s5 s35 efo ⊢
  refine ⟨.ref l, rfl, l, rfl, ⟨_, .of (s35 _ _ eL)⟩, for_list (xs := xs) (fun i σ H6 => ∃ y6 y7 y8 y9 y10 st, σ = [some (.ref a), some (.ref f), some (.ref l), some (.ref kd), some (.int (((d + 1 : Nat)) : Int)), some (.ref fo), y6, y7, y8, y9, y10] ∧ Same H H6 ∧ TS H3 H6 ∧ H6 l = some (.lst xs) ∧ H6 kd = some (.dT (lknd st.1)) ∧
      (∃ fs, H6 fo = some (.lst fs) ∧ Each (fun r q => LpAt H6 r q.1) fs st.2) ∧ K79.run (K79.item b) (lay.take i) (k, []) = .ok st)
    ⟨y6, y7, y8, y9, y10, (k, []), rfl, s3.trans s35, TS.of s35, s35 _ _ eL, s35 _ _ eK3, ⟨[], efo, Each.nil⟩, rfl⟩ (fun i σ H _ p => by obtain ⟨_, _, _, _, _, _, _, _, _, p, _⟩ := p; exact .of p) (fun i x σ H6 hx p => ?_) (fun σ H6 p => ?_)⟩
  · obtain ⟨y6, y7, y8, y9, y10, st, rfl, s6, t6, eL6, eK6, ⟨fs, eF6, hF6⟩, hrun⟩ := p
    obtain ⟨r, q, rfl, eq, hq, hr1⟩ := (hE.mono fun r q h => LpAt.ts h t6).at hx
    obtain ⟨⟨fq, hPq⟩, hlq⟩ := I.items q hq
    have gq := hPq.good hg
    have sq := good_sided gq
    obtain ⟨ll1, ll2⟩ := lp_len gq.len
    have hL : K79.LInv b d k st := ((K79.run_items hg (l := lay.take i) (fun q hq => I.items q (List.mem_of_mem_take hq)) I.linv).1 st hrun).1
    have hr1' : H6 r = some (.tup [.str (S (lp q.1).1), .str (S (lp q.1).2)]) := hr1
    refine ⟨r, _, rfl, .of hr1', rfl, _, _, rfl, _, _, rfl, rfl, ?_⟩
    refine ⟨.ref a, rfl, a, _, 2, _, rfl, rfl, .of (s6 _ _ ha), atI_nat (j := 2) rfl, wa, rfl, ⟨_, .of (s6 _ _ hw.tup)⟩,
      for_tup (xs := rs.map V.ref) (fun iu σ H8 => ∃ y8 y9 y10 st2, σ = [some (.ref a), some (.ref f), some (.ref l), some (.ref kd), some (.int (((d + 1 : Nat)) : Int)), some (.ref fo), some (.str (S (lp q.1).1)), some (.str (S (lp q.1).2)), y8, y9, y10] ∧ Same H H8 ∧ TS H6 H8 ∧ H8 l = some (.lst xs) ∧ H8 kd = some (.dT (lknd st2.1)) ∧
        (∃ fs, H8 fo = some (.lst fs) ∧ Each (fun r q => LpAt H8 r q.1) fs st2.2) ∧ K79.run (K79.edge b q.2) (pre b q.1 iu) st = .ok st2)
      ⟨y8, y9, y10, st, rfl, s6, TS.refl _, eL6, eK6, ⟨fs, eF6, hF6⟩, rfl⟩ (fun i σ H8 _ p => by obtain ⟨_, _, _, _, _, p, _⟩ := p; exact .of (p _ _ hw.tup)) (fun iu x σ H8 hx p => ?_) (fun σ H8 p => ?_)⟩
    · obtain ⟨y8, y9, y10, st2, rfl, s8, t8, eL8, eK8, hFs8, hrun2⟩ := p
      obtain ⟨ru, u, rfl, eu, hu, hwu⟩ := (hw.same s8).at hx
      have lu := hg.wl u hu
      refine ⟨.ref a, rfl, a, _, 2, _, rfl, rfl, .of (s8 _ _ ha), atI_nat (j := 2) rfl, wa, rfl, ⟨_, .of (s8 _ _ hw.tup)⟩,
        for_tup (xs := rs.map V.ref) (fun jv σ H9 => ∃ y9 y10 st3, σ = [some (.ref a), some (.ref f), some (.ref l), some (.ref kd), some (.int (((d + 1 : Nat)) : Int)), some (.ref fo), some (.str (S (lp q.1).1)), some (.str (S (lp q.1).2)), some (.ref ru), y9, y10] ∧ Same H H9 ∧ TS H8 H9 ∧ H9 l = some (.lst xs) ∧ H9 kd = some (.dT (lknd st3.1)) ∧
          (∃ fs, H9 fo = some (.lst fs) ∧ Each (fun r q => LpAt H9 r q.1) fs st3.2) ∧ K79.run (K79.edge b q.2) (pre b q.1 iu ++ nx1 q.1 u (b.ws.take jv)) st = .ok st3)
        ⟨y9, y10, st2, rfl, s8, TS.refl _, eL8, eK8, hFs8, by rw [show nx1 q.1 u (b.ws.take 0) = [] from rfl, List.append_nil]; exact hrun2⟩ (fun i σ H9 _ p => by obtain ⟨_, _, _, _, p, _⟩ := p; exact .of (p _ _ hw.tup)) (fun jv x σ H9 hx p => ?_) (fun σ H9 p => ?_)⟩
      · obtain ⟨y9, y10, st3, rfl, s9, t9, eL9, eK9, ⟨fs9, eF9, hF9⟩, hrun3⟩ := p
        obtain ⟨rv, v, rfl, ev, hv, hwv⟩ := (hw.same s9).at hx
        have lv := hg.wl v hv
        have w3 := hg.w3
        have hwu9 : H9 ru = some (.tup [.str (S [u.1]), .str (S u.2)]) := t9 _ _ hwu
        have hwv9 : H9 rv = some (.tup [.str (S [v.1]), .str (S v.2)]) := hwv
        have hsub : ∀ e ∈ pre b q.1 iu ++ nx1 q.1 u (b.ws.take jv), e ∈ K79.nexts b q.1 := fun e he => by
          obtain ⟨rest, hr⟩ := pre_split (p := q.1) (j := jv) eu
          rw [hr]
          exact List.mem_append_left _ he
        have hL3 : K79.LInv b d k st3 := ((K79.run_edges hg ⟨fq, hPq⟩ hlq hsub hL).1 st3 hrun3).1
        have hsm := linv_small hg hL3
        have hsd : ∀ p ∈ K79.keys st3.1, Sided p := fun p hp => by
          obtain ⟨q', hq', e⟩ := List.mem_map.mp hp
          obtain ⟨f', hf'⟩ := hL3.path q' hq'
          rw [← e]
          exact good_sided (hf'.good hg)
        have hgr := lp_grown sq.1 u.2.reverse v.2
        refine ⟨.str (S (lp q.1).1), rfl, .ref ru, rfl, ru, _, 1, _, rfl, rfl, .of hwu9, atI_nat (j := 1) rfl, u.2, rfl, small_of (by omega), S (lp q.1).1, S u.2.reverse, rfl, rfl, (by rw [S_len, S_len, List.length_reverse]; exact small_of (by omega)),
          .str (S (lp q.1).2), rfl, .ref rv, rfl, rv, _, 1, _, rfl, rfl, .of hwv9, atI_nat (j := 1) rfl, S (lp q.1).2, S v.2, rfl, rfl, (by rw [S_len, S_len]; exact small_of (by omega)), (lp q.1).1 ++ u.2.reverse, (lp q.1).2 ++ v.2, ?_, by rw [List.length_append, List.length_reverse]; omega, by rw [List.length_append]; omega, fun e H10 s10 => ?_, fun z e r' H10 s10 nr' hr' => ?_⟩
        · rw [S_cat, S_cat]
          rfl
        · rw [hgr] at e
          refine ⟨.non, rfl, rfl, false, rfl, iteF ⟨.non, rfl, rfl, false, rfl, iteF ?_⟩⟩
          refine ⟨_, _, st3, rfl, s9.trans s10, t9.trans (TS.of s10), s10 _ _ eL9, s10 _ _ eK9, ⟨fs9, s10 _ _ eF9, hF9.mono fun r q h => LpAt.ts h (TS.of s10)⟩, ?_⟩
          rw [nx1_snoc ev, e, List.append_nil]
          exact hrun3
        · rw [hgr] at e
          have hn : ((z, u.1, v.1) : K79.Edge) ∈ K79.nexts b q.1 := K79.mem_nexts.mpr ⟨u, hu, v, hv, e, rfl, rfl⟩
          have hPe := hPq.step hg hn
          have ge := hPe.good hg
          have ge : K79.GoodP b z := ge
          have sz := good_sided ge
          obtain ⟨lz1, lz2⟩ := lp_len ge.len
          have hr1z : H10 r' = some (.tup [.str (S (lp z).1), .str (S (lp z).2)]) := hr'
          have s910 := s9.trans s10
          have ha10 := s910 _ _ ha
          refine ⟨.ref r', rfl, rfl, true, rfl, iteT ?_⟩
          refine ⟨.ref r', rfl, r', _, 0, _, rfl, rfl, .of hr1z, atI_nat (j := 0) rfl, .ref a, rfl, a, _, 0, _, rfl, rfl, .of ha10, atI_nat (j := 0) rfl, b.start, rfl, small_of (by omega), _, _, rfl, rfl, (by rw [S_len, S_len, List.length_reverse]; exact small_of (by omega)),
            .ref r', rfl, r', _, 1, _, rfl, rfl, .of hr1z, atI_nat (j := 1) rfl, .ref a, rfl, a, _, 1, _, rfl, rfl, .of ha10, atI_nat (j := 1) rfl, _, _, rfl, rfl, (by rw [S_len, S_len]; exact small_of (by omega)), rfl, _, rfl, ?_⟩
          rw [S_cat, S_cat, lp_end sz.1 b]
          have hsn : pre b q.1 iu ++ nx1 q.1 u (b.ws.take (jv + 1)) = (pre b q.1 iu ++ nx1 q.1 u (b.ws.take jv)) ++ [(z, u.1, v.1)] := by
            rw [nx1_snoc ev, e, List.append_assoc]
          cases hend : K79.isEnd b z with
          | true =>
            refine iteT ⟨_, rfl, ?_⟩
            have hx1 : K79.edge b q.2 st3 (z, u.1, v.1) = .error (u.1 :: q.2) := by unfold K79.edge; rw [if_pos hend]
            have hx3 : K79.item b st q = .error (u.1 :: q.2) := by
              obtain ⟨rest, hrst⟩ := pre_split (p := q.1) (j := jv + 1) eu
              unfold K79.item
              rw [hrst, hsn]
              exact run_stop2 hrun3 hx1
            have hx4 : K79.layerStep b k lay = .error (u.1 :: q.2) := run_stop eq hrun hx3
            rw [hx4] at hS2
            have hR3 : R = .error (u.1 :: q.2) := (Option.some.inj hS2).symm
            rw [hR3] at hR
            have hq0 := q0 _ hR _ s910
            rw [List.length_cons, hlq] at hq0
            exact hq0
          | false =>
            have hend' : ¬ K79.isEnd b z = true := by rw [hend]; exact Bool.false_ne_true
            have eK10 := s10 _ _ eK9
            have eF10 := s10 _ _ eF9
            have eL10 := s10 _ _ eL9
            refine iteF ⟨.ref r', rfl, rfl, true, rfl, iteT ⟨.ref r', rfl, .ref kd, rfl, kd, _, rfl, DGet.t (k := lkey z) eK10 hr'.key, _, rfl, ?_⟩⟩
            rw [val_lknd sz hsd]
            by_cases hin : z ∈ K79.keys st3.1
            · rw [decide_eq_true hin]
              refine iteF ?_
              have hx1 : K79.edge b q.2 st3 (z, u.1, v.1) = .ok st3 := by unfold K79.edge; rw [if_neg hend', if_pos hin]
              refine ⟨_, _, st3, rfl, s910, t9.trans (TS.of s10), eL10, eK10, ⟨fs9, eF10, hF9.mono fun r q h => LpAt.ts h (TS.of s10)⟩, ?_⟩
              rw [hsn, K79.run_snoc hrun3, hx1]
            · rw [decide_eq_false hin]
              refine iteT ?_
              have hx1 : K79.edge b q.2 st3 (z, u.1, v.1) = .ok (st3.1 ++ [(z, u.1 :: q.2)], st3.2 ++ [(z, u.1 :: q.2)]) := by unfold K79.edge; rw [if_neg hend', if_neg hin]
              refine ⟨.ref kd, rfl, .ref r', rfl, kd, _, rfl, DPut.t (k := lkey z) eK10 hr'.key (by unfold lknd; rw [List.length_map]; exact small1000 (by omega)), ?_⟩
              have hput : putK (lknd st3.1) (lkey z) (V.bl true) = lknd (st3.1 ++ [(z, u.1 :: q.2)]) := put_lknd (q := (z, u.1 :: q.2)) sz hsd hin
              rw [hput]
              have s11 : Same H (upd H10 kd (.dT (lknd (st3.1 ++ [(z, u.1 :: q.2)])))) := same_upd' nkd s910
              have t11 : TS H10 (upd H10 kd (.dT (lknd (st3.1 ++ [(z, u.1 :: q.2)])))) := TS.updT eK10
              have eK11 : (upd H10 kd (.dT (lknd (st3.1 ++ [(z, u.1 :: q.2)])))) kd = some (.dT (lknd (st3.1 ++ [(z, u.1 :: q.2)]))) := upd_same
              have nlk : l ≠ kd := ne_of eL10 eK10 (by intro z; cases z)
              have eL11 : (upd H10 kd (.dT (lknd (st3.1 ++ [(z, u.1 :: q.2)])))) l = some (.lst xs) := by rw [upd_ne nlk]; exact eL10
              have eF11 : (upd H10 kd (.dT (lknd (st3.1 ++ [(z, u.1 :: q.2)])))) fo = some (.lst fs9) := by rw [upd_ne nkfo.symm]; exact eF10
              generalize (upd H10 kd (.dT (lknd (st3.1 ++ [(z, u.1 :: q.2)])))) = H11 at s11 t11 eK11 eL11 eF11 ⊢
              have hcnt : fs9.length ≤ 30 := by
                have := hL3.cnt
                have := hF9.1
                omega
              refine ⟨.ref fo, rfl, .inl ⟨rfl, _, .of eF11⟩, .ref r', rfl, fo, _, _, rfl, rfl, eF11, small1000 (by omega), ?_⟩
              have t12 : TS H11 (upd H11 fo (.lst (fs9 ++ [.ref r']))) := TS.updL eF11
              have tall : TS H10 (upd H11 fo (.lst (fs9 ++ [.ref r']))) := t11.trans t12
              refine ⟨_, _, (st3.1 ++ [(z, u.1 :: q.2)], st3.2 ++ [(z, u.1 :: q.2)]), rfl, same_upd' nfoH s11, (t9.trans (TS.of s10)).trans tall, by rw [upd_ne nlfo]; exact eL11, by rw [upd_ne nkfo]; exact eK11, ⟨_, upd_same, ?_⟩, ?_⟩
              · have hsn2 := (hF9.mono fun r q h => LpAt.ts h ((TS.of s10).trans tall)).snoc (e := (z, u.1 :: q.2)) (r := r') (hr'.ts tall)
                exact hsn2
              · rw [hsn, K79.run_snoc hrun3, hx1]
      · obtain ⟨y9, y10, st3, rfl, s9, t9, eL9, eK9, hFs9, hrun3⟩ := p
        rw [hw.lenV, List.take_length] at hrun3
        refine ⟨_, _, _, st3, rfl, s9, t8.trans t9, eL9, eK9, hFs9, ?_⟩
        rw [show pre b q.1 (iu + 1) = pre b q.1 iu ++ nx1 q.1 u b.ws from nx_snoc eu]
        exact hrun3
    · obtain ⟨y8, y9, y10, st2, rfl, s8, t8, eL8, eK8, hFs8, hrun2⟩ := p
      rw [hw.lenV, pre_all] at hrun2
      exact ⟨_, _, _, _, _, st2, rfl, s8, t6.trans t8, eL8, eK8, hFs8, run_turn eq hrun hrun2⟩
  · obtain ⟨y6, y7, y8, y9, y10, st, rfl, s6, t6, eL6, eK6, ⟨fs, eF6, hF6⟩, hrun⟩ := p
    rw [hE.1, List.take_length] at hrun
    have hrun : K79.layerStep b k lay = .ok st := hrun
    rw [hrun] at hS2
    exact ⟨.ref fo, rfl, m', Nat.lt_succ_self _, st.1, st.2, fo, fs, _, _, _, _, _, _, d + 1, rfl, s6, eK6, eF6, hF6, (I.next hg hrun).1, by omega, hS2⟩
end
end K79W
set_option Elab.async false
set_option linter.all false
set_option maxRecDepth 100000
set_option maxHeartbeats 2000000
/-! # The law: the drawing -/
namespace K79W
open PySem PySem.Spec PyProof.Rows L2 SX
section
variable {P : Program} {w : World} {K : PySem.W.Frag} {mg : Str → Option Value} {base : Heap}
theorem big0 {i : Int} (h0 : 0 ≤ i) (h : i < 100000) : (-(2 ^ 64 : Int) < i) ∧ i < 2 ^ 64 := ⟨by omega, by omega⟩
def spMix : Sp := fun vs H Q _ => ∃ (c : Int) (sp : Nat), vs = [.int c, .int (sp : Nat)] ∧ sp ≤ 1000 ∧ ∀ r : Int, 0 ≤ r → Q (.int r) H
theorem ok_mix {k : Nat} (D : Df K mg "_law_mix" sMix ["_law_cell", "_law_spot"]) (T : Tx mg)  : Cl P w K mg base (k + 1) "_law_mix" ["_law_cell", "_law_spot"] spMix := by
  refine cl_of D scMix (fun vs H Q E h => ?_) (fun f cdv A outer s H vs Q E hr h => ?_)
  · obtain ⟨c, sp, rfl, _⟩ := h
    rfl
  obtain ⟨c, sp, rfl, hs, q⟩ := h
  refine ⟨_, (pss_cons (ps_set (i := 2) scMix.nd rfl (Or.inl rfl) (pe_op op_mod (pe_callTy call_int1 (by rfl) T.int (by decide +kernel) (pa_cons (pe_op op_add (pe_op op_add (pe_op op_mul (pv 0) pe_int) (pe_op op_mul (pv 1) pe_int)) pe_int) pa_nil)) pe_int))
    (pss_cons (ps_set (i := 3) scMix.nd rfl (Or.inl rfl) (pe_op op_mod (pe_callTy call_int1 (by rfl) T.int (by decide +kernel) (pa_cons (pe_op op_add (pe_op op_add (pe_op op_mul (pv 2) pe_int) (pv 0)) (pv 1)) pa_nil)) pe_int))
    (pss_one (ps_ret (pe_op op_mod (pe_callTy call_int1 (by rfl) T.int (by decide +kernel) (pa_cons (pe_op op_add (pe_op op_mul (pv 3) pe_int) (pe_op op_mul (pe_op op_mul (pv 1) (pv 1)) pe_int)) pa_nil)) pe_int))))), ?_⟩
  have b1 : (-(2 ^ 64 : Int) < 40503) ∧ (40503 : Int) < 2 ^ 64 := by decide
  have b2 : (-(2 ^ 64 : Int) < 69069) ∧ (69069 : Int) < 2 ^ 64 := by decide
  have b3 : (-(2 ^ 64 : Int) < 48271) ∧ (48271 : Int) < 2 ^ 64 := by decide
  have b4 : (-(2 ^ 64 : Int) < 16807) ∧ (16807 : Int) < 2 ^ 64 := by decide
  have b5 : (-(2 ^ 64 : Int) < 7919) ∧ (7919 : Int) < 2 ^ 64 := by decide
  have bs : (-(2 ^ 64 : Int) < ((sp : Nat) : Int)) ∧ ((sp : Nat) : Int) < 2 ^ 64 := big0 (by omega) (by omega)
  have pm : (0 : Int) < 2147483647 := by decide
  refine ⟨_, rfl, _, _, rfl, rfl, .inr b1, _, rfl, _, _, rfl, rfl, .inr b2, _, _, rfl, rfl, _, _, rfl, rfl, .inl ⟨_, rfl, _, _, rfl, rfl, pm, ?_⟩⟩
  refine ⟨_, rfl, _, _, rfl, rfl, .inr b3, _, rfl, _, _, rfl, rfl, _, rfl, _, _, rfl, rfl, .inl ⟨_, rfl, _, _, rfl, rfl, pm, ?_⟩⟩
  refine ⟨_, rfl, _, _, rfl, rfl, .inr b4, _, rfl, _, rfl, _, _, rfl, rfl, .inl bs, _, _, rfl, rfl, .inr b5, _, _, rfl, rfl, .inl ⟨_, rfl, _, _, rfl, rfl, pm, ?_⟩⟩
  exact q _ (Int.emod_nonneg _ (by decide))
/-- the state of the drawing -/
def stD (c l : Addr) (sp : Nat) : List (Key × V) := [(.inr "cells", .ref c), (.inr "left", .ref l), (.inr "spot", .int (sp : Nat))]
structure StAt (H : Hp) (m c l : Addr) (sp : Nat) : Prop where
  m : H m = some (.dK (stD c l sp))
  cl : c ≠ l
  ex : ∃ cells lefts : List Int, H c = some (.lst (cells.map V.int)) ∧ H l = some (.lst (lefts.map V.int)) ∧ cells.length = lefts.length ∧ 0 < cells.length ∧ cells.length ≤ 100
theorem StAt.same {H H' : Hp} {m c l : Addr} {sp : Nat} (h : StAt H m c l sp) (s : Same H H') : StAt H' m c l sp := by
  obtain ⟨cells, lefts, h1, h2, h3⟩ := h.ex
  exact ⟨s _ _ h.m, h.cl, cells, lefts, s _ _ h1, s _ _ h2, h3⟩
/-- all stands but the state -/
def SB (m l : Addr) (H H' : Hp) : Prop := ∀ b o, b ≠ m → b ≠ l → H b = some o → H' b = some o
theorem SB.of {m l : Addr} {H H' : Hp} (s : Same H H') : SB m l H H' := fun b o _ _ e => s b o e
theorem SB.refl (m l : Addr) (H : Hp) : SB m l H H := fun _ _ _ _ e => e
theorem SB.trans {m l : Addr} {H H1 H2 : Hp} (a : SB m l H H1) (b : SB m l H1 H2) : SB m l H H2 := fun c o h1 h2 e => b c o h1 h2 (a c o h1 h2 e)
theorem SB.upd {m l : Addr} {H : Hp} {o : HO} : SB m l H (L2.upd H m o) := fun b x h1 _ e => by rw [upd_ne h1]; exact e
theorem SB.updL {m l : Addr} {H : Hp} {o : HO} : SB m l H (L2.upd H l o) := fun b x _ h2 e => by rw [upd_ne h2]; exact e
theorem get_cells {H : Hp} {m c l : Addr} {sp : Nat} (h : H m = some (.dK (stD c l sp))) : DGet H m (.str "cells") (some (.ref c)) := DGet.k (k := Sum.inr "cells") h
theorem get_left {H : Hp} {m c l : Addr} {sp : Nat} (h : H m = some (.dK (stD c l sp))) : DGet H m (.str "left") (some (.ref l)) := DGet.k (k := Sum.inr "left") h
theorem get_spot {H : Hp} {m c l : Addr} {sp : Nat} (h : H m = some (.dK (stD c l sp))) : DGet H m (.str "spot") (some (.int (sp : Nat))) := DGet.k (k := Sum.inr "spot") h
theorem put_spot {c l : Addr} {sp : Nat} : putK (stD c l sp) (Sum.inr "spot") (.int ((sp : Nat) + 1)) = stD c l (sp + 1) := rfl
def spDraw : Sp := fun vs H Q _ => ∃ (m c l : Addr) (sp lim : Nat), vs = [.ref m, .int (lim : Nat)] ∧ StAt H m c l sp ∧ 0 < lim ∧ lim ≤ 100 ∧ sp ≤ 900 ∧ ∀ (r : Nat) H', r < lim → SB m l H H' → StAt H' m c l (sp + 1) → Q (.int (r : Nat)) H'
theorem ok_draw {k : Nat} (D : Df K mg "_law_draw" sDraw ["_law_m", "_law_limit"]) (T : Tx mg) (cM : Cl P w K mg base k "_law_mix" ["_law_cell", "_law_spot"] spMix) : Cl P w K mg base (k + 1) "_law_draw" ["_law_m", "_law_limit"] spDraw := by
  refine cl_of D scDraw (fun vs H Q E h => ?_) (fun f cdv A outer s H vs Q E hr h => ?_)
  · obtain ⟨m, c, l, sp, lim, rfl, _⟩ := h
    rfl
  obtain ⟨m, c, l, sp, lim, rfl, hS, hl0, hl1, hsp, q⟩ := h
  obtain ⟨hm, hcl, cells, lefts, hc, hl, hlen, hpos, h100⟩ := hS
  refine ⟨_, (pss_cons (ps_set (i := 2) scDraw.nd rfl (Or.inl rfl) (pe_dget (hu_of hr) (pv 0) pe_str (fun _ _ => rfl)))
    (pss_cons (ps_dput (hu_of hr) (pv 0) pe_str (pe_op op_add (pv 2) pe_int) rfl)
    (pss_cons (ps_set (i := 3) scDraw.nd rfl (Or.inl rfl) (pe_op op_mod (pe_callTy call_int1 (by rfl) T.int (by decide +kernel) (pa_cons (pv 2) pa_nil)) (pe_callB call_len_seq (by rfl) T.len PySem.boot_len (pa_cons (pe_dget (hu_of hr) (pv 0) pe_str (fun _ _ => rfl)) pa_nil))))
    (pss_cons (ps_set (i := 4) scDraw.nd rfl (Or.inl rfl) (pe_ix ix_list (pe_dget (hu_of hr) (pv 0) pe_str (fun _ _ => rfl)) (pv 3) (fun _ _ => rfl)))
    (pss_cons (ps_if (pt_cmpR op_gt (pv 4) pe_int (nomark _)) (pss_cons (ps_asg (pe_op op_fdivN (pv 4) (pv 1)) (pg_sub (pe_dget (hu_of hr) (pv 0) pe_str (fun _ _ => rfl)) (pv 3) set_list))
    (pss_one (ps_ret (pe_op op_mod (pe_callTy call_int1 (by rfl) T.int (by decide +kernel) (pa_cons (pv 4) pa_nil)) (pv 1))))) pss_nil)
    (pss_one (ps_ret (pe_op op_mod (pe_callTy call_int1 (by rfl) T.int (by decide +kernel) (pa_cons (pe_op op_fdivN (pe_cl cM hr (Nat.le_refl _) (by rfl) (pa_cons (pe_ix ix_list (pe_dget (hu_of hr) (pv 0) pe_str (fun _ _ => rfl)) (pv 3) (fun _ _ => rfl)) (pa_cons (pv 2) pa_nil))) pe_int) pa_nil)) (pv 1))))))))), ?_⟩
  refine ⟨.ref m, rfl, m, _, rfl, get_spot hm, ?_⟩
  refine ⟨_, rfl, _, _, rfl, rfl, .ref m, rfl, m, _, rfl, DPut.k (k := Sum.inr "spot") hm (small1000 (by show 3 ≤ 1000; decide)), ?_⟩
  have hmc : m ≠ c := ne_of hm hc (by intro z; cases z)
  have hml : m ≠ l := ne_of hm hl (by intro z; cases z)
  have m1 : (upd H m (.dK (putK (stD c l sp) (Sum.inr "spot") (.int ((sp : Nat) + 1))))) m = some (.dK (stD c l (sp + 1))) := upd_same
  have c1 : (upd H m (.dK (putK (stD c l sp) (Sum.inr "spot") (.int ((sp : Nat) + 1))))) c = some (.lst (cells.map V.int)) := by rw [upd_ne hmc.symm]; exact hc
  have l1 : (upd H m (.dK (putK (stD c l sp) (Sum.inr "spot") (.int ((sp : Nat) + 1))))) l = some (.lst (lefts.map V.int)) := by rw [upd_ne hml.symm]; exact hl
  have s1 : SB m l H (upd H m (.dK (putK (stD c l sp) (Sum.inr "spot") (.int ((sp : Nat) + 1))))) := SB.upd
  generalize (upd H m (.dK (putK (stD c l sp) (Sum.inr "spot") (.int ((sp : Nat) + 1))))) = H1 at m1 c1 l1 s1 ⊢
  refine ⟨_, rfl, .inl ⟨_, rfl, .ref m, rfl, m, _, rfl, get_cells m1, c, _, rfl, .inl (.of c1), _, _, rfl, rfl, (by show (0 : Int) < ((cells.map V.int).length : Nat); rw [List.length_map]; omega), ?_⟩⟩
  have hix : ((sp : Nat) : Int) % ((cells.map V.int).length : Nat) = ((sp % cells.length : Nat) : Int) := by rw [List.length_map]; rfl
  have hlt : sp % cells.length < cells.length := Nat.mod_lt _ hpos
  have hgl : (lefts.map V.int)[sp % cells.length]? = some (.int lefts[sp % cells.length]) := by
    rw [List.getElem?_map, List.getElem?_eq_getElem (by omega)]
    rfl
  have hgc : (cells.map V.int)[sp % cells.length]? = some (.int cells[sp % cells.length]) := by
    rw [List.getElem?_map, List.getElem?_eq_getElem (by omega)]
    rfl
  rw [show ((fun i j : Int => V.int (i % j)) ((sp : Nat) : Int) (((cells.map V.int).length : Nat) : Int)) = V.int ((sp % cells.length : Nat) : Int) from congrArg V.int hix]
  refine ⟨.ref m, rfl, m, _, rfl, get_left m1, _, rfl, l, _, _, _, rfl, rfl, .of l1, atI_nat hgl, ?_⟩
  have hlim : ((lim : Nat) : Int) ≠ 0 ∧ ((lim : Nat) : Int).natAbs < 1073741824 := ⟨by omega, by omega⟩
  refine ⟨_, rfl, _, _, rfl, rfl, _, rfl, ite2 (fun hg => ?_) (fun hg => ?_)⟩
  · refine ⟨_, rfl, _, rfl, _, _, rfl, rfl, hlim, .ref m, rfl, m, _, rfl, get_left m1, _, rfl, l, _, _, sp % cells.length, rfl, rfl, l1, ?_, ?_⟩
    · unfold ixN
      rw [if_pos (by omega), if_pos (by rw [List.length_map]; omega), Int.toNat_natCast]
    refine ⟨_, rfl, .inl ⟨_, rfl, _, rfl, _, _, rfl, rfl, (by show (0 : Int) < (lim : Nat); omega), ?_⟩⟩
    have hr0 := Int.emod_nonneg lefts[sp % cells.length] hlim.1
    have hr1 := Int.emod_lt_of_pos lefts[sp % cells.length] (show (0 : Int) < (lim : Nat) by omega)
    obtain ⟨r, hr2⟩ : ∃ r : Nat, lefts[sp % cells.length] % ((lim : Nat) : Int) = (r : Nat) := ⟨(lefts[sp % cells.length] % ((lim : Nat) : Int)).toNat, by omega⟩
    rw [hr2] at hr1
    refine (congrArg (fun z => Q (V.int z) _) hr2).mpr ?_
    refine q r _ (by omega) (s1.trans SB.updL) ⟨by rw [upd_ne hml]; exact m1, hcl, cells, lefts.set (sp % cells.length) (lefts[sp % cells.length].fdiv (lim : Nat)), by rw [upd_ne hcl]; exact c1, ?_, by rw [List.length_set]; exact hlen, hpos, h100⟩
    rw [upd_same, List.map_set]
  · refine ⟨.ref m, rfl, m, _, rfl, get_cells m1, _, rfl, c, _, _, _, rfl, rfl, .of c1, atI_nat hgc, _, rfl, _, sp, rfl, by omega, fun r0 hr0 => ⟨_, _, rfl, rfl, ⟨by decide, by decide⟩, .inl ⟨_, rfl, _, rfl, _, _, rfl, rfl, (by show (0 : Int) < (lim : Nat); omega), ?_⟩⟩⟩
    have hr1 := Int.emod_nonneg (r0.fdiv 97) hlim.1
    have hr2 := Int.emod_lt_of_pos (r0.fdiv 97) (show (0 : Int) < (lim : Nat) by omega)
    obtain ⟨r, hr3⟩ : ∃ r : Nat, (r0.fdiv 97) % ((lim : Nat) : Int) = (r : Nat) := ⟨((r0.fdiv 97) % ((lim : Nat) : Int)).toNat, by omega⟩
    rw [hr3] at hr2
    refine (congrArg (fun z => Q (V.int z) _) hr3).mpr ?_
    exact q r _ (by omega) s1 ⟨m1, hcl, cells, lefts, c1, l1, hlen, hpos, h100⟩
end
end K79W
set_option Elab.async false
set_option linter.all false
set_option maxRecDepth 100000
set_option maxHeartbeats 2000000
/-! # The law: the state's beginning, a drawn book -/
namespace K79W
open PySem PySem.Spec PyProof.Rows L2 SX
section
variable {P : Program} {w : World} {K : PySem.W.Frag} {mg : Str → Option Value} {base : Heap}
theorem dp_ints {K : PySem.W.Frag} {H : Hp} : ∀ l : List Int, DpAll K H (l.map V.int) (l.map PyData.int)
  | [] => .nil
  | s :: l => .cons (.int _) (dp_ints l)
theorem ints_ok : ∀ l : List Int, PyData.canLayAll0 (l.map PyData.int) = true ∧ PyData.depthAll (l.map PyData.int) ≤ 0
  | [] => ⟨by simp [PyData.canLayAll0], by simp [PyData.depthAll]⟩
  | s :: l => by
    obtain ⟨i1, i2⟩ := ints_ok l
    rw [List.map_cons]
    refine ⟨?_, ?_⟩
    · simp only [PyData.canLayAll0, i1, PyData.canLay0]
      rfl
    · simp only [PyData.depthAll, PyData.depth]
      omega
theorem shaped_ints (l : List Int) : SeqAt.shaped (.list (l.map PyData.int)) = true := by
  obtain ⟨h1, h2⟩ := ints_ok l
  unfold SeqAt.shaped
  rw [Bool.and_eq_true]
  refine ⟨by simp only [PyData.canLay0, h1], decide_eq_true ?_⟩
  simp only [PyData.depth]
  omega
def great (x : Int) : Int := if (10 : Int) ^ (18 : Int).toNat ≤ x then x else 0
def spBegun (K : PySem.W.Frag) : Sp := fun vs H Q _ => ∃ (a : Addr) (ns : List Int), vs = [.ref a] ∧ SqL K H a (ns.map V.int) ∧ ns.length ≤ 63 ∧ ∀ m c l H', Same H H' → StAt H' m c l 0 → Q (.ref m) H'
theorem ok_begun {k : Nat} (D : Df K mg "_law_begun" sBegun ["_law_script"]) (T : Tx mg)  : Cl P w K mg base (k + 1) "_law_begun" ["_law_script"] (spBegun K) := by
  refine cl_of D scBegun (fun vs H Q E h => ?_) (fun f cdv A outer s H vs Q E hr h => ?_)
  · obtain ⟨a, ns, rfl, _⟩ := h
    rfl
  obtain ⟨a, ns, rfl, hS, hn, q⟩ := h
  refine ⟨_, (C8.pss_cut (ps_set (i := 1) scBegun.nd rfl (Or.inl rfl) (pe_ifExp (pt_cmpR (op_neD hr.units) (pv 0) (pe_lst pa_nil) (nomark _)) (pe_callTy call_list_of (by rfl) T.list (by decide +kernel) (pa_cons (pv 0) pa_nil)) (pe_lst (pa_cons pe_int pa_nil))))
    (pss_one (ps_ret (pe_disp (pps_cons pe_str (pv 1) (pps_cons pe_str (pe_lc (own := [("_law_cell", 2)]) (g := (gName 2)) (tt := tYes) rfl scBegun.nd (pi_list (pv 1)) (blkOk_by (own := [("_law_cell", 2)]) (N := ["_law_script", "_law_some", "_law_cell"]) (sc := defScope sBegun) (by decide +kernel))
      (fun _ _ _ _ _ => (pg_name (i := 2) scBegun.nd rfl (Or.inl rfl))) (fun _ _ _ _ _ => pts_nil) (fun _ _ _ _ _ => (pe_ifExp (pt_cmpR op_ge (pv 2) (pe_op op_pow pe_int pe_int) (nomark _)) (pv 2) pe_int))) (pps_cons pe_str pe_int pps_nil))) (by rfl) (by rfl) (fun z => by cases z) (by decide))))), ?_⟩
  refine ⟨fun σ' H' => ∃ c cells, σ' = [some (.ref a), some (.ref c), none] ∧ Same H H' ∧ H' c = some (.lst ((cells : List Int).map V.int)) ∧ 0 < cells.length ∧ cells.length ≤ 100, ?_, fun σ' H' hM => ?_⟩
  · refine ⟨.ref a, rfl, Nat.zero_le _, fun z nz => ?_⟩
    have s1 : Same H (upd H z (.lst [])) := same_upd nz
    have hS1 := s1.seq hS
    have e1 : (upd H z (.lst [])) z = some (.lst []) := upd_same
    generalize (upd H z (.lst [])) = H1 at s1 hS1 e1 ⊢
    refine ⟨.list (ns.map PyData.int), .list [], .lst hS1 (dp_ints ns), .lst (.of e1) .nil, shaped_ints ns, shaped_nil, _, rfl, ?_⟩
    by_cases hne : ns = []
    · subst hne
      exact iteF ⟨small_of (Nat.le_add_left 1 999), fun c nc => ⟨c, [0], rfl, s1.trans (same_upd nc), upd_same, by decide, by decide⟩⟩
    · have hcond : (!PyData.eqv (.list (ns.map PyData.int)) (.list [])) = true := by
        rw [eqv_nil (fun z => hne (List.map_eq_nil_iff.mp z))]
        rfl
      refine ite2 (fun _ => ?_) (fun z => absurd hcond z)
      exact ⟨_, rfl, a, _, rfl, .inl hS1, fun c nc => ⟨c, ns, rfl, s1.trans (same_upd nc), upd_same, List.length_pos_iff.mpr hne, by omega⟩⟩
  obtain ⟨c, cells, rfl, s1, ec, hp, h100⟩ := hM
  refine fun m nm => ⟨_, rfl, .ref c, rfl, c, rfl, ⟨_, .of ((same_upd nm) _ _ ec)⟩, fun l nl => lc_fn walk_list (fun i => .int (great (cells.getD i 0))) nl (fun H1 sm => .of (sm _ _ ((same_upd nm) _ _ ec))) (by rw [List.length_map]; exact small_of (by omega)) (fun i x H1 H2 Nx hi sm y hN => ?_) fun H1 sm hD => ?_⟩
  · obtain ⟨rfl, hx⟩ := y
    rw [List.length_map] at hi
    have hx : (cells.map V.int)[i]? = some x := hx
    rw [List.getElem?_map, List.getElem?_eq_getElem hi] at hx
    have hx := Option.some.inj hx
    subst hx
    have eg : cells.getD i 0 = cells[i] := by rw [List.getD_eq_getElem?_getD, List.getElem?_eq_getElem hi]; rfl
    rw [eg] at hN
    refine ⟨rfl, _, rfl, _, _, rfl, rfl, ⟨by decide, by decide, by decide⟩, _, _, rfl, rfl, _, rfl, ite2 (fun hc => ⟨_, rfl, ?_⟩) (fun hc => ?_)⟩
    · have e : great cells[i] = cells[i] := if_pos (of_decide_eq_true hc)
      rw [e] at hN
      exact hN _ (Same.refl _)
    · have e : great cells[i] = 0 := if_neg (fun z => hc (decide_eq_true z))
      rw [e] at hN
      exact hN _ (Same.refl _)
  have em : H1 m = some (.dK []) := sm _ _ upd_same
  have s3 : Same H H1 := s1.trans ((same_upd nm).trans sm)
  have ec1 : H1 c = some (.lst (cells.map V.int)) := sm _ _ ((same_upd nm) _ _ ec)
  have nlm : l ≠ m := fun z => by rw [z, upd_same] at nl; cases nl
  have nlc : c ≠ l := ne_of_none ((same_upd nm) _ _ ec) nl
  have ncm : c ≠ m := ne_of_none ec nm
  refine ⟨em, stD c l 0, rfl, (by show 3 ≤ 15; decide), ?_⟩
  have el : H1 l = some (.lst ((cells.map great).map V.int)) := by
    rw [hD, List.length_map, rng_map cells (fun x => V.int (great x)) 0, List.map_map]
    rfl
  refine q m c l _ (same_upd' (s1.free nm) s3) ⟨?_, nlc, cells, cells.map great, by rw [upd_ne ncm]; exact ec1, by rw [upd_ne nlm]; exact el, by rw [List.length_map], hp, h100⟩
  rw [upd_same]
  rfl
/-! a drawn book -/
theorem SB.ts {m c l : Addr} {sp : Nat} {H H' : Hp} (s : SB m l H H') (h : StAt H m c l sp) : TS H H' := fun b xs e => by
  obtain ⟨_, _, _, hl, _⟩ := h.ex
  exact s b _ (fun z => by rw [z, h.m] at e; cases e) (fun z => by rw [z, hl] at e; cases e) e
theorem SB.free {m c l : Addr} {sp : Nat} {H H1 : Hp} (s : SB m l H H1) (h : StAt H1 m c l sp) {p : Addr} (hp : H1 p = none) : H p = none := by
  obtain ⟨_, _, _, hl, _⟩ := h.ex
  cases e : H p with
  | none => rfl
  | some o =>
    by_cases z : p = m
    · rw [z, h.m] at hp; cases hp
    · by_cases z2 : p = l
      · rw [z2, hl] at hp; cases hp
      · rw [s p o z z2 e] at hp; cases hp
theorem SB.updN {m l : Addr} {H H1 : Hp} {p : Addr} {o : HO} (s : SB m l H H1) (hp : H p = none) : SB m l H (L2.upd H1 p o) := fun b x h1 h2 e => by
  rw [upd_ne (ne_of_none e hp)]
  exact s b x h1 h2 e
theorem StAt.ne {H : Hp} {m c l : Addr} {sp : Nat} (h : StAt H m c l sp) {p : Addr} (hp : H p = none) : p ≠ m ∧ p ≠ l ∧ p ≠ c := by
  obtain ⟨_, _, hc, hl, _⟩ := h.ex
  refine ⟨fun z => ?_, fun z => ?_, fun z => ?_⟩
  · rw [z, h.m] at hp; cases hp
  · rw [z, hl] at hp; cases hp
  · rw [z, hc] at hp; cases hp
theorem StAt.upd {H : Hp} {m c l : Addr} {sp : Nat} (h : StAt H m c l sp) {p : Addr} {o : HO} (hm : p ≠ m) (hl : p ≠ l) (hc : p ≠ c) : StAt (L2.upd H p o) m c l sp := by
  obtain ⟨cells, lefts, h1, h2, h3⟩ := h.ex
  exact ⟨by rw [upd_ne hm.symm]; exact h.m, h.cl, cells, lefts, by rw [upd_ne hc.symm]; exact h1, by rw [upd_ne hl.symm]; exact h2, h3⟩
def rowsM : Nat → List (List Nat)
  | 0 => [[]]
  | n + 1 => (rowsM n).map (fun r => r ++ [48]) ++ (rowsM n).map (fun r => r ++ [49])
def sgs : List Nat := [48, 65, 90, 57]
structure Dr (w i : Nat) (ws : List K79.Wd) (rows : List (List Nat)) : Prop where
  nd : (ws.map (·.2) ++ rows).Nodup
  ml : ∀ x ∈ ws.map (·.2) ++ rows, K79.Mods x ∧ x.length = w
  sg : ws.map (·.1) = sgs.take i
  ln : rows.length + i = 2 ^ w
theorem Dr.start {w : Nat} (h : w = 2 ∨ w = 3) : Dr w 0 [] (rowsM w) := by
  have md : ∀ l : List Nat, (∀ c ∈ l, c = 48 ∨ c = 49) → K79.Mods l := fun l h => h
  rcases h with rfl | rfl
  · exact ⟨by decide, by intro x hx; have : (∀ c ∈ x, c = 48 ∨ c = 49) ∧ x.length = 2 := by revert x; decide
                         exact ⟨md x this.1, this.2⟩, rfl, rfl⟩
  · exact ⟨by decide, by intro x hx; have : (∀ c ∈ x, c = 48 ∨ c = 49) ∧ x.length = 3 := by revert x; decide
                         exact ⟨md x this.1, this.2⟩, rfl, rfl⟩
theorem perm_pick {α : Type} {l : List α} {j : Nat} (h : j < l.length) : (l[j] :: l.eraseIdx j).Perm l := by
  rw [List.eraseIdx_eq_take_drop_succ]
  have e : l = l.take j ++ l[j] :: l.drop (j + 1) := by
    rw [← List.drop_eq_getElem_cons h, List.take_append_drop]
  have h2 : (l[j] :: (l.take j ++ l.drop (j + 1))).Perm (l.take j ++ l[j] :: l.drop (j + 1)) := List.perm_middle.symm
  rw [← e] at h2
  exact h2
theorem Dr.step {w i : Nat} {ws : List K79.Wd} {rows : List (List Nat)} (d : Dr w i ws rows) {j s : Nat} (hj : j < rows.length) (hs : sgs[i]? = some s) : Dr w (i + 1) (ws ++ [(s, rows[j])]) (rows.eraseIdx j) := by
  have hp : ((ws ++ [(s, rows[j])]).map (·.2) ++ rows.eraseIdx j).Perm (ws.map (·.2) ++ rows) := by
    rw [List.map_append, List.append_assoc]
    exact (perm_pick hj).append_left _
  refine ⟨hp.nodup_iff.mpr d.nd, fun x hx => d.ml x (hp.mem_iff.mp hx), ?_, ?_⟩
  · rw [List.map_append, d.sg, List.take_add_one, hs]
    rfl
  · have := d.ln
    rw [List.length_eraseIdx_of_lt hj]
    omega
theorem sgs_nd : sgs.Nodup := by decide
/-- the drawn book is good -/
theorem good_of {w i : Nat} {ws : List K79.Wd} {rows : List (List Nat)} (d : Dr w i ws rows) (hw : w = 2 ∨ w = 3) (h2 : 2 ≤ i) (h4 : i ≤ 4) {st en : List Nat} (hs : K79.Mods st ∧ 1 ≤ st.length ∧ st.length ≤ 4) (he : K79.Mods en ∧ 1 ≤ en.length ∧ en.length ≤ 4) : K79.Good ⟨st, en, ws⟩ := by
  have hlen : ws.length = i := by
    have := congrArg List.length d.sg
    rw [List.length_map, List.length_take] at this
    rw [this]
    exact Nat.min_eq_left h4
  have hml : ∀ p ∈ ws, K79.Mods p.2 ∧ p.2.length = w := fun p hp => d.ml p.2 (List.mem_append_left _ (List.mem_map.mpr ⟨p, hp, rfl⟩))
  have hwide : K79.wide ⟨st, en, ws⟩ = w := by
    unfold K79.wide
    cases ws with
    | nil => exact absurd hlen (by simp; omega)
    | cons p r => exact (hml p (List.mem_cons_self ..)).2
  refine ⟨hs.2.1, hs.2.2, he.2.1, he.2.2, hs.1, he.1, by rw [hlen]; exact h2, by rw [hlen]; exact h4, fun p hp => (hml p hp).1, by rw [hwide]; omega, by rw [hwide]; omega, fun p hp => by rw [hwide]; exact (hml p hp).2, ?_, (List.nodup_append.mp d.nd).1, fun p hp => ?_⟩
  · rw [d.sg]
    exact sgs_nd.sublist (List.take_sublist _ _)
  · have hm : p.1 ∈ sgs.take i := by rw [← d.sg]; exact List.mem_map.mpr ⟨p, hp, rfl⟩
    have hm := List.mem_of_mem_take hm
    unfold sgs at hm
    simp at hm
    omega
theorem Each.refs {R : Addr → K79.Wd → Prop} {xs : List V} {es : List K79.Wd} (h : Each R xs es) : ∃ rs : List Addr, xs = rs.map V.ref ∧ rs.length = es.length ∧ ∀ (i : Nat) (e : K79.Wd), es[i]? = some e → ∃ r : Addr, rs[i]? = some r ∧ R r e := by
  have key : ∀ i : Nat, i < xs.length → ∃ r : Addr, xs[i]? = some (.ref r) := fun i hi => by
    obtain ⟨r, h1, _⟩ := h.2 i _ (List.getElem?_eq_getElem (by rw [← h.1]; exact hi))
    exact ⟨r, h1⟩
  have e1 : xs = (xs.map fun v => match v with | .ref a => a | _ => 0).map V.ref := by
    apply List.ext_getElem?
    intro i
    by_cases hi : i < xs.length
    · obtain ⟨r, hr⟩ := key i hi
      rw [List.getElem?_map, List.getElem?_map, hr]
      rfl
    · rw [List.getElem?_eq_none (by omega), List.getElem?_eq_none (by rw [List.length_map, List.length_map]; omega)]
  refine ⟨_, e1, by rw [List.length_map]; exact h.1, fun i e he => ?_⟩
  obtain ⟨r, h1, h2⟩ := h.2 i e he
  refine ⟨r, ?_, h2⟩
  rw [List.getElem?_map, h1]
  rfl
theorem rowsM_len : ∀ n : Nat, (rowsM n).length = 2 ^ n
  | 0 => rfl
  | n + 1 => by
    show ((rowsM n).map _ ++ (rowsM n).map _).length = _
    rw [List.length_append, List.length_map, List.length_map, rowsM_len n, Nat.pow_succ]
    omega
theorem seq_nat {j n : Nat} (h : j < n) : seqIndex? (j : Int) n = some j := by
  unfold seqIndex?
  have h0 : ¬ ((j : Int) < 0) := by omega
  have h1 : (0 : Int) ≤ (j : Int) := by omega
  have h2 : (j : Int) < (n : Int) := by omega
  simp only [h0, if_false, h1, h2, decide_true, Bool.and_self, if_true, Int.toNat_natCast]
theorem erase_vsl (rows : List (List Nat)) (j : Nat) : (vsl rows).eraseIdx j = vsl (rows.eraseIdx j) := by
  unfold vsl
  rw [List.eraseIdx_eq_take_drop_succ, List.eraseIdx_eq_take_drop_succ, List.map_append, List.map_take, List.map_drop]
def rJoin (K : PySem.W.Frag) : V → List V → Hp → VK → Prop := fun x xs H Q => ∃ a p, ∃ ys : List Str, x = .str a ∧ xs = [.ref p] ∧ (SqL K H p (ys.map V.str) ∨ SqT K H p (ys.map V.str)) ∧ (ys.map (·.length)).sum + ys.length * a.length ≤ 16777216 ∧ Q (.str (Txt.join a ys)) H
theorem pe_joinK {X : Cx} {K : PySem.W.Frag} {o e : Expr} {to te : TE} {apos pos : Pos} (hK : X.K = K) (ho : PE X o to) (he : PE X e te) (hs : starEach [e] X.env = [(false, eval e X.env)] := by rfl) (hbase : attributeBase o "join" X.env (eval o X.env) = eval o X.env := by rfl) (hline : (apos.endLine == pos.line) = true := by rfl) :
    PE X (.Call (.Attribute o "join" apos) [e] [] pos) (tM1 (rJoin K) to te) := by
  subst hK
  exact pe_join ho he hs hbase hline
def scAgain : Scope := { kind := .function, names := [((".0" : Str), .local), (("_law_again" : Str), .local), (("range" : Str), .globalImplicit), (("_law_draw" : Str), .globalImplicit), (("_law_m" : Str), .cell)], isGenerator := false, isCoroutine := false }
def spBook : Sp := fun vs H Q _ => ∃ (m c l : Addr) (sp : Nat), vs = [.ref m, .int 4] ∧ StAt H m c l sp ∧ sp ≤ 800 ∧ ∀ a b sp' H', SB m l H H' → BkAt H' a b → K79.Good b → StAt H' m c l sp' → sp' ≤ sp + 20 → Q (.ref a) H'
theorem ok_book {k : Nat} (D : Df K mg "_law_book" sBook ["_law_m", "_law_most"]) (T : Tx mg) (cD : Cl P w K mg base k "_law_draw" ["_law_m", "_law_limit"] spDraw) : Cl P w K mg base (k + 1) "_law_book" ["_law_m", "_law_most"] (spBook) := by
  refine cl_of D scBook (fun vs H Q E h => ?_) (fun f cdv A outer s H vs Q E hr h => ?_)
  · obtain ⟨m, c, l, sp, rfl, _⟩ := h
    rfl
  obtain ⟨m, c, l, sp, rfl, hS, hsp, q⟩ := h
  refine ⟨_, (pss_cons (ps_set (i := 2) scBook.nd rfl (Or.inl rfl) (pe_op op_add pe_int (pe_cl cD hr (Nat.le_refl _) (by rfl) (pa_cons (pv 0) (pa_cons pe_int pa_nil)))))
    (pss_cons (ps_par (i := 3) (j := 4) (by rfl) scBook.nd rfl rfl (by decide) rfl rfl (pa_cons (pe_lst (pa_cons pe_str pa_nil)) (pa_cons (pe_lst pa_nil) pa_nil)) (by rfl))
    (C8.pss_cut (ps_for PassesOwn.never rfl (pi_range1 (by rfl) T.range (pa_cons (pv 2) pa_nil)) (pg_name (i := 5) scBook.nd rfl (Or.inl rfl)) (pss_one (ps_set (i := 3) scBook.nd rfl (Or.inl rfl) (pe_op op_cat (pe_lc (own := [("_law_row", 7)]) (g := (gName 7)) (tt := tYes) rfl scBook.nd (pi_list (pv 3)) (blkOk_by (own := [("_law_row", 7)]) (N := ["_law_m", "_law_most", "_law_wide_so", "_law_rows", "_law_some", "_law_k", "_law_ends", "_law_row", "_law_again"]) (sc := defScope sBook) (by decide +kernel))
      (fun _ _ _ _ _ => (pg_name (i := 7) scBook.nd rfl (Or.inl rfl))) (fun _ _ _ _ _ => pts_nil) (fun _ _ _ _ _ => (pe_op op_add_str (pv 7) pe_str))) (pe_lc (own := [("_law_row", 7)]) (g := (gName 7)) (tt := tYes) rfl scBook.nd (pi_list (pv 3)) (blkOk_by (own := [("_law_row", 7)]) (N := ["_law_m", "_law_most", "_law_wide_so", "_law_rows", "_law_some", "_law_k", "_law_ends", "_law_row", "_law_again"]) (sc := defScope sBook) (by decide +kernel))
      (fun _ _ _ _ _ => (pg_name (i := 7) scBook.nd rfl (Or.inl rfl))) (fun _ _ _ _ _ => pts_nil) (fun _ _ _ _ _ => (pe_op op_add_str (pv 7) pe_str)))))))
    (C8.pss_cut (ps_for PassesOwn.never rfl (pi_range1 (by rfl) T.range (pa_cons (pe_op op_add pe_int (pe_cl cD hr (Nat.le_refl _) (by rfl) (pa_cons (pv 0) (pa_cons (pe_op op_sub (pe_callB (call_min2 rfl) (by rfl) T.min (by decide +kernel) (pa_cons (pv 1) (pa_cons (pe_callB call_len_seq (by rfl) T.len PySem.boot_len (pa_cons (pv 3) pa_nil)) pa_nil))) pe_int) pa_nil)))) pa_nil)) (pg_name (i := 5) scBook.nd rfl (Or.inl rfl)) (pss_one (ps_expr (pe_bm PySem.F.plainAttrs_list PySem.F.slot_list_append PySem.F.type_list_append mt_append (pv 4) (pa_cons (pe_tup (pa_cons (pe_ix ix_str pe_str (pv 5) (fun _ _ => rfl)) (pa_cons (pe_bm PySem.F.plainAttrs_list PySem.F.slot_list_pop PySem.F.type_list_pop mt_popAt (pv 3) (pa_cons (pe_cl cD hr (Nat.le_refl _) (by rfl) (pa_cons (pv 0) (pa_cons (pe_callB call_len_seq (by rfl) T.len PySem.boot_len (pa_cons (pv 3) pa_nil)) pa_nil))) pa_nil)) pa_nil))) pa_nil)))))
    (pss_cons (ps_setLc (i := 6) (own := [("_law_again", 8)]) (g := (gName 8)) (tt := tYes) rfl scBook.nd rfl rfl (sw_true rfl rfl rfl (by decide +kernel)) (pi_range1 (by rfl) T.range (pa_cons pe_int pa_nil)) (blkOk_by (own := [("_law_again", 8)]) (N := ["_law_m", "_law_most", "_law_wide_so", "_law_rows", "_law_some", "_law_k", "_law_ends", "_law_row", "_law_again"]) (sc := defScope sBook) (by decide +kernel))
      (fun _ _ _ _ _ => (pg_name (i := 8) scBook.nd rfl (Or.inl rfl))) (fun _ _ _ _ _ => pts_nil) (fun _ _ _ _ _ => (pe_joinK (K := K) rfl pe_str (pe_lc (own := [("_law_k", 5)]) (g := (gName 5)) (tt := tYes) rfl scBook.nd (pi_range1 (by rfl) T.range (pa_cons (pe_op op_add pe_int (pe_cl cD hr (Nat.le_refl _) (by rfl) (pa_cons (pv 0) (pa_cons pe_int pa_nil)))) pa_nil)) (blkOk_by (own := [("_law_k", 5)]) (N := ["_law_m", "_law_most", "_law_wide_so", "_law_rows", "_law_some", "_law_k", "_law_ends", "_law_row", "_law_again"]) (sc := scAgain) (by decide +kernel))
      (fun _ _ _ _ _ => (pg_name (i := 5) scBook.nd rfl (Or.inl rfl))) (fun _ _ _ _ _ => pts_nil) (fun _ _ _ _ _ => (pe_ix (r := rIxS) ix_str pe_str (pe_cl cD hr (Nat.le_refl _) (by rfl) (pa_cons (pv 0) (pa_cons pe_int pa_nil))) (fun _ _ => rfl)))))))
    (pss_one (ps_ret (pe_tup (pa_cons (pe_ix ix_list (pv 6) pe_int (fun _ _ => rfl)) (pa_cons (pe_ix ix_list (pv 6) pe_int (fun _ _ => rfl)) (pa_cons (pe_callTy call_tuple_of (by rfl) T.tuple (by decide +kernel) (pa_cons (pv 4) pa_nil)) pa_nil))))))))))), ?_⟩
  obtain ⟨nm, nl, nc⟩ : (∃ o, H m = some o) ∧ (∃ o, H l = some o) ∧ True := by
    obtain ⟨_, _, _, hl, _⟩ := hS.ex
    exact ⟨⟨_, hS.m⟩, ⟨_, hl⟩, trivial⟩
  refine ⟨.ref m, rfl, m, c, l, sp, 2, rfl, hS, by decide, by decide, by omega, fun r0 H1 hr0 b1 hS1 => ⟨_, _, rfl, rfl, ?_⟩⟩
  obtain ⟨wd, hwd⟩ : ∃ wd : Nat, wd = 2 + r0 := ⟨_, rfl⟩
  have hw : wd = 2 ∨ wd = 3 := by omega
  have ewd : (2 : Int) + (r0 : Nat) = (wd : Nat) := by omega
  rw [show ((fun i j : Int => V.int (i + j)) 2 ((r0 : Nat) : Int)) = V.int ((wd : Nat) : Int) from congrArg V.int ewd]
  refine ⟨small_of (Nat.le_add_left 1 999), fun r nr => ⟨Nat.zero_le _, fun o no => ⟨.ref r, .ref o, rfl, ?_⟩⟩⟩
  have hSr := hS1.ne nr
  have bH2 : SB m l H (upd H1 r (.lst [.str ""])) := b1.updN (b1.free hS1 nr)
  have hS2 : StAt (upd H1 r (.lst [.str ""])) m c l (sp + 1) := hS1.upd hSr.1 hSr.2.1 hSr.2.2
  have er2 : (upd H1 r (.lst [.str ""])) r = some (.lst [.str ""]) := upd_same
  have nrH := b1.free hS1 nr
  generalize (upd H1 r (.lst [.str ""])) = H2 at bH2 hS2 er2 no ⊢
  have hSo := hS2.ne no
  have noH := bH2.free hS2 no
  have nro : r ≠ o := ne_of_none er2 no
  have bH3 : SB m l H (upd H2 o (.lst [])) := bH2.updN noH
  have hS3 : StAt (upd H2 o (.lst [])) m c l (sp + 1) := hS2.upd hSo.1 hSo.2.1 hSo.2.2
  have er3 : (upd H2 o (.lst [])) r = some (.lst (vsl (rowsM 0))) := by rw [upd_ne nro]; exact er2
  have eo3 : (upd H2 o (.lst [])) o = some (.lst []) := upd_same
  generalize (upd H2 o (.lst [])) = H3 at bH3 hS3 er3 eo3 ⊢
  refine ⟨fun σ' H' => ∃ r y5, σ' = [some (.ref m), some (.int 4), some (.int (wd : Nat)), some (.ref r), some (.ref o), y5, none, none, none] ∧ SB m l H H' ∧ StAt H' m c l (sp + 1) ∧ H' r = some (.lst (vsl (rowsM wd))) ∧ H' o = some (.lst []) ∧ H r = none ∧ r ≠ o, ?_, fun σ' H' hM => ?_⟩
  · refine ⟨_, rfl, (wd : Nat), rfl, by omega, by omega, ?_⟩
    rw [Int.toNat_natCast]
    refine for_range (lo := 0) (n := wd) (fun i σ H4 => ∃ r y5, σ = [some (.ref m), some (.int 4), some (.int (wd : Nat)), some (.ref r), some (.ref o), y5, none, none, none] ∧ SB m l H H4 ∧ StAt H4 m c l (sp + 1) ∧ H4 r = some (.lst (vsl (rowsM i))) ∧ H4 o = some (.lst []) ∧ H r = none ∧ r ≠ o)
      ⟨r, none, rfl, bH3, hS3, er3, eo3, nrH, nro⟩ (fun i σ H4 hi p => ?_) (fun σ H4 p => p)
    obtain ⟨r, y5, rfl, b4, hS4, er, eo, nrH, nro⟩ := p
    have hcnt : (rowsM i).length ≤ 8 := by
      rw [rowsM_len]
      have : 2 ^ i ≤ 2 ^ 3 := Nat.pow_le_pow_right (by decide) (by omega)
      exact this
    have hrow : ∀ t ∈ rowsM i, t.length ≤ 10 := by
      have aux : ∀ n, ∀ t ∈ rowsM n, t.length = n := fun n => by
        induction n with
        | zero => intro t ht; have : t = [] := by simpa [rowsM] using ht
                  rw [this]; rfl
        | succ n ih => intro t ht
                       rcases List.mem_append.mp (show t ∈ (rowsM n).map (fun r => r ++ [48]) ++ (rowsM n).map (fun r => r ++ [49]) from ht) with z | z
                       · obtain ⟨u, hu, rfl⟩ := List.mem_map.mp z
                         rw [List.length_append, ih u hu]; rfl
                       · obtain ⟨u, hu, rfl⟩ := List.mem_map.mp z
                         rw [List.length_append, ih u hu]; rfl
      intro t ht
      rw [aux i t ht]
      omega
    have half : ∀ (ch : Nat), ((List.range (vsl (rowsM i)).length).map fun j => V.str (S ((rowsM i).getD j [] ++ [ch]))) = vsl ((rowsM i).map fun r => r ++ [ch]) := fun ch => by
      rw [List.length_map, rng_map (rowsM i) (fun t => V.str (S (t ++ [ch]))) []]
      unfold vsl
      rw [List.map_map]
      rfl
    have item : ∀ (ch : Nat) (j : Nat) (x : V), (vsl (rowsM i))[j]? = some x → ∃ t, x = .str (S t) ∧ (rowsM i).getD j [] = t ∧ t.length ≤ 10 := fun ch j x hx => by
      rw [List.getElem?_map] at hx
      cases e : (rowsM i)[j]? with
      | none => rw [e] at hx; cases hx
      | some t =>
        rw [e] at hx
        exact ⟨t, (Option.some.inj hx).symm, by rw [List.getD_eq_getElem?_getD, e]; rfl, hrow t (List.mem_of_getElem? e)⟩
    refine ⟨.ref r, rfl, r, rfl, ⟨_, .of er⟩, fun C1 nC1 => lc_fn walk_list (fun j => .str (S ((rowsM i).getD j [] ++ [48]))) nC1 (fun H1 sm => .of (sm _ _ er)) (by rw [List.length_map]; exact small_of (by omega)) (fun j x H5 H' Nx hj sm y hN => ?_) fun H5 s5 e5 => ?_⟩
    · obtain ⟨rfl, hx⟩ := y
      obtain ⟨t, rfl, e, hl⟩ := item 48 j x hx
      rw [e] at hN
      refine ⟨rfl, _, rfl, S t, S [48], rfl, rfl, (by rw [S_len, S_len]; show t.length + 1 ≤ _; exact small_of (by omega)), ?_⟩
      rw [S_cat]
      exact hN _ (Same.refl _)
    refine ⟨.ref r, rfl, r, rfl, ⟨_, .of (s5 _ _ er)⟩, fun C2 nC2 => lc_fn walk_list (fun j => .str (S ((rowsM i).getD j [] ++ [49]))) nC2 (fun H1 sm => .of (sm _ _ (s5 _ _ er))) (by rw [List.length_map]; exact small_of (by omega)) (fun j x H6 H' Nx hj sm y hN => ?_) fun H6 s6 e6 => ?_⟩
    · obtain ⟨rfl, hx⟩ := y
      obtain ⟨t, rfl, e, hl⟩ := item 49 j x hx
      rw [e] at hN
      refine ⟨rfl, _, rfl, S t, S [49], rfl, rfl, (by rw [S_len, S_len]; show t.length + 1 ≤ _; exact small_of (by omega)), ?_⟩
      rw [S_cat]
      exact hN _ (Same.refl _)
    rw [half 48] at e5
    rw [half 49] at e6
    have s56 := s5.trans s6
    refine ⟨C1, C2, _, _, rfl, rfl, s6 _ _ e5, e6, ?_, fun p np => ?_⟩
    · rw [List.length_map, List.length_map, List.length_map, List.length_map]
      exact small_of (by omega)
    · have hS6 := hS4.same s56
      have b6 : SB m l H H6 := b4.trans (SB.of s56)
      have hSp := hS6.ne np
      have npH := b6.free hS6 np
      refine ⟨p, _, rfl, b6.updN npH, hS6.upd hSp.1 hSp.2.1 hSp.2.2, ?_, ?_, npH, (ne_of_none (s56 _ _ eo) np).symm⟩
      · rw [upd_same, vsl_app]
        rfl
      · rw [upd_ne (ne_of_none (s56 _ _ eo) np)]
        exact s56 _ _ eo
  obtain ⟨r, y5, rfl, b4, hS4, er, eo, nrH, nro⟩ := hM
  -- the words
  have hdr0 : Dr wd 0 [] (rowsM wd) := Dr.start hw
  have hln0 : (rowsM wd).length = 4 ∨ (rowsM wd).length = 8 := by
    rw [rowsM_len]
    rcases hw with z | z <;> rw [z]
    · exact .inl rfl
    · exact .inr rfl
  refine ⟨fun σ' H' => ∃ i y5 xs ws rows sp', σ' = [some (.ref m), some (.int 4), some (.int (wd : Nat)), some (.ref r), some (.ref o), y5, none, none, none] ∧ SB m l H H' ∧ StAt H' m c l sp' ∧ sp' ≤ sp + 6 ∧ H' o = some (.lst xs) ∧ Each (WdAt H') xs ws ∧ Dr wd i ws rows ∧ 2 ≤ i ∧ i ≤ 4, ?_, fun σ' H' hM => ?_⟩
  · refine ⟨.ref m, rfl, _, rfl, .ref r, rfl, r, _, rfl, .inl (.of er), _, _, rfl, _, _, rfl, rfl, m, c, l, sp + 1, 3, ?_, hS4, by decide, by decide, by omega, fun r1 H5 hr1 b5 hS5 => ⟨_, _, rfl, rfl, ((2 + r1 : Nat) : Int), ?_, by omega, by omega, ?_⟩⟩
    · have z : ¬ (((vsl (rowsM wd)).length : Nat) : Int) < 4 := by rw [List.length_map]; omega
      show [V.ref m, V.int ((if (((vsl (rowsM wd)).length : Nat) : Int) < 4 then (((vsl (rowsM wd)).length : Nat) : Int) else 4) - 1)] = [V.ref m, V.int 3]
      rw [if_neg z]
      rfl
    · show [V.int (2 + ((r1 : Nat) : Int))] = [V.int ((2 + r1 : Nat) : Int)]
      congr 2
    rw [Int.toNat_natCast]
    have er5 : H5 r = some (.lst (vsl (rowsM wd))) := b5 _ _ (hS.ne nrH).1 (hS.ne nrH).2.1 er
    have eo5 : H5 o = some (.lst []) := b5 _ _ (hS.ne noH).1 (hS.ne noH).2.1 eo
    refine for_range (lo := 0) (n := 2 + r1) (fun i σ H6 => ∃ y5 xs ws rows, σ = [some (.ref m), some (.int 4), some (.int (wd : Nat)), some (.ref r), some (.ref o), y5, none, none, none] ∧ SB m l H H6 ∧ StAt H6 m c l (sp + 2 + i) ∧ H6 r = some (.lst (vsl rows)) ∧ H6 o = some (.lst xs) ∧ Each (WdAt H6) xs ws ∧ Dr wd i ws rows)
      ⟨y5, [], [], rowsM wd, rfl, b4.trans b5, hS5, er5, eo5, Each.nil, hdr0⟩ (fun i σ H6 hi p => ?_) (fun σ H6 p => ?_)
    · obtain ⟨y5, xs, ws, rows, rfl, b6, hS6, er6, eo6, hE, hD⟩ := p
      have hpow : 2 ^ wd = 4 ∨ 2 ^ wd = 8 := by rw [← rowsM_len]; exact hln0
      have hrl := hD.ln
      have hsi : ∃ sg, sgs[i]? = some sg := ⟨sgs[i]'(by show i < 4; omega), List.getElem?_eq_getElem (by show i < 4; omega)⟩
      obtain ⟨sg, hsg⟩ := hsi
      have hat : atI ("0AZ9" : Str).cps.toList (0 + ((i : Nat) : Int)) = some sg := by
        rw [Int.zero_add]
        exact atI_nat (show ("0AZ9" : Str).cps.toList[i]? = some sg from hsg)
      have hlv : (vsl rows).length = rows.length := List.length_map _
      refine ⟨.ref o, rfl, .inl ⟨rfl, _, .of eo6⟩, _, rfl, _, _, sg, rfl, rfl, (by show 4 ≤ sizeLine; decide), hat, ?_⟩
      refine ⟨.ref r, rfl, .inl ⟨rfl, _, .of er6⟩, .ref m, rfl, .ref r, rfl, r, _, rfl, .inl (.of er6), m, c, l, sp + 2 + i, (vsl rows).length, rfl, hS6, by rw [hlv]; omega, by rw [hlv]; omega, by omega, fun jj H7 hj b7 hS7 => ?_⟩
      rw [hlv] at hj
      have nem := (hS.ne nrH)
      have neo := (hS.ne noH)
      have er7 : H7 r = some (.lst (vsl rows)) := b7 _ _ nem.1 nem.2.1 er6
      have eo7 : H7 o = some (.lst xs) := b7 _ _ neo.1 neo.2.1 eo6
      have hyj : (vsl rows)[jj]? = some (.str (S rows[jj])) := by rw [List.getElem?_map, List.getElem?_eq_getElem hj]; rfl
      refine ⟨r, _, (jj : Nat), jj, _, rfl, rfl, er7, by omega, by omega, seq_nat (by rw [hlv]; exact hj), hyj, ?_⟩
      rw [erase_vsl]
      have b8 : SB m l H (upd H7 r (.lst (vsl (rows.eraseIdx jj)))) := (b6.trans b7).updN nrH
      have hS8 : StAt (upd H7 r (.lst (vsl (rows.eraseIdx jj)))) m c l (sp + 2 + i + 1) := hS7.upd nem.1 nem.2.1 nem.2.2
      have er8 : (upd H7 r (.lst (vsl (rows.eraseIdx jj)))) r = some (.lst (vsl (rows.eraseIdx jj))) := upd_same
      have eo8 : (upd H7 r (.lst (vsl (rows.eraseIdx jj)))) o = some (.lst xs) := by rw [upd_ne nro.symm]; exact eo7
      have t8 : TS H6 (upd H7 r (.lst (vsl (rows.eraseIdx jj)))) := (b7.ts hS6).trans (TS.updL er7)
      generalize (upd H7 r (.lst (vsl (rows.eraseIdx jj)))) = H8 at b8 hS8 er8 eo8 t8 ⊢
      refine ⟨small_of (Nat.le_add_left 2 998), fun t nt => ?_⟩
      have hSt := hS8.ne nt
      have ntH := b8.free hS8 nt
      have b9 : SB m l H (upd H8 t (.tup [.str ⟨#[sg]⟩, .str (S rows[jj])])) := b8.updN ntH
      have hS9 : StAt (upd H8 t (.tup [.str ⟨#[sg]⟩, .str (S rows[jj])])) m c l (sp + 2 + i + 1) := hS8.upd hSt.1 hSt.2.1 hSt.2.2
      have et9 : (upd H8 t (.tup [.str ⟨#[sg]⟩, .str (S rows[jj])])) t = some (.tup [.str (S [sg]), .str (S rows[jj])]) := upd_same
      have er9 : (upd H8 t (.tup [.str ⟨#[sg]⟩, .str (S rows[jj])])) r = some (.lst (vsl (rows.eraseIdx jj))) := by rw [upd_ne (ne_of_none er8 nt)]; exact er8
      have eo9 : (upd H8 t (.tup [.str ⟨#[sg]⟩, .str (S rows[jj])])) o = some (.lst xs) := by rw [upd_ne (ne_of_none eo8 nt)]; exact eo8
      have t9 : TS H8 (upd H8 t (.tup [.str ⟨#[sg]⟩, .str (S rows[jj])])) := TS.updN nt
      generalize (upd H8 t (.tup [.str ⟨#[sg]⟩, .str (S rows[jj])])) = H9 at b9 hS9 et9 er9 eo9 t9 ⊢
      have hxl : xs.length ≤ 4 := by
        have h1 := hE.1
        have h2 := congrArg List.length hD.sg
        rw [List.length_map, List.length_take] at h2
        have h3 : sgs.length = 4 := rfl
        omega
      refine ⟨o, _, _, rfl, rfl, eo9, small1000 (by omega), ?_⟩
      have t10 : TS H9 (upd H9 o (.lst (xs ++ [.ref t]))) := TS.updL eo9
      have hwt : WdAt (upd H9 o (.lst (xs ++ [.ref t]))) t (sg, rows[jj]) := t10 _ _ et9
      have hDs := hD.step hj hsg
      refine ⟨_, _, _, _, rfl, b9.updN noH, hS9.upd neo.1 neo.2.1 neo.2.2, by rw [upd_ne nro]; exact er9, upd_same, (hE.mono fun r p h => ((t8.trans t9).trans t10) _ _ h).snoc hwt, hDs⟩
    · obtain ⟨y5, xs, ws, rows, rfl, b6, hS6, er6, eo6, hE, hD⟩ := p
      exact ⟨2 + r1, _, xs, ws, rows, _, rfl, b6, hS6, by omega, eo6, hE, hD, by omega, by omega⟩
  obtain ⟨i, y5, xs, ws, rows, sp6, rfl, b6, hS6, hsp6, eo6, hE6, hD, hi2, hi4⟩ := hM
  have nem := (hS.ne nrH)
  have neo := (hS.ne noH)
  -- the ends
  refine ⟨2, rfl, by decide, by decide, fun E nE => lc_range (lo := 0) (n := 2) (fun i H7 => ∃ ts sp', ts.length = i ∧ (∀ t ∈ ts, K79.Mods t ∧ 1 ≤ t.length ∧ t.length ≤ 4) ∧ SB m l H H7 ∧ StAt H7 m c l sp' ∧ sp' ≤ sp + 6 + 5 * i ∧ H7 E = some (.lst (vsl ts)) ∧ H7 o = some (.lst xs) ∧ Each (WdAt H7) xs ws)
    ?_ (fun i H7 hi p => ?_) (fun H7 p => ?_)⟩
  · have hSE := hS6.ne nE
    have nEH := b6.free hS6 nE
    have nEo : o ≠ E := ne_of_none eo6 nE
    exact ⟨[], sp6, rfl, fun t ht => absurd ht (by simp), b6.updN nEH, hS6.upd hSE.1 hSE.2.1 hSE.2.2, by omega, upd_same, by rw [upd_ne nEo]; exact eo6, hE6.mono fun r p h => (TS.updN nE) _ _ h⟩
  · obtain ⟨ts, sp7, hts, hmt, b7, hS7, hsp7, eE, eo7, hE7⟩ := p
    have nEm : E ≠ m ∧ E ≠ l ∧ E ≠ c := hS6.ne nE
    have nEH := b6.free hS6 nE
    have nEo : o ≠ E := ne_of_none eo6 nE
    refine ⟨rfl, iteT (B := False) ⟨⟨_, rfl⟩, .ref m, rfl, m, c, l, sp7, 4, rfl, hS7, by decide, by decide, by omega, fun r4 H8 hr4 b8 hS8 => ⟨_, _, rfl, rfl, ((1 + r4 : Nat) : Int), ?_, by omega, by omega, fun D nD => ?_⟩⟩⟩
    · show [V.int (1 + ((r4 : Nat) : Int))] = [V.int ((1 + r4 : Nat) : Int)]
      congr 2
    rw [Int.toNat_natCast]
    have nDm := hS8.ne nD
    have eE8 : H8 E = some (.lst (vsl ts)) := b8 _ _ nEm.1 nEm.2.1 eE
    have nDE : E ≠ D := ne_of_none eE8 nD
    have nDH8 : H8 D = none := nD
    refine lc_range (lo := 0) (n := 1 + r4) (fun j H9 => ∃ (t : List Nat) (sp9 : Nat), K79.Mods t ∧ t.length = j ∧ SB m l H8 H9 ∧ StAt H9 m c l sp9 ∧ sp9 = sp7 + 1 + j ∧ H9 D = some (.lst (ones t)))
      ⟨[], sp7 + 1, mods_nil, rfl, (SB.refl m l H8).updN nD, hS8.upd nDm.1 nDm.2.1 nDm.2.2, rfl, upd_same⟩ (fun j H9 hj p => ?_) (fun H9 p => ?_)
    · obtain ⟨t, sp9, hm9, hl9, b9, hS9, hsp9, eD9⟩ := p
      refine ⟨rfl, iteT (B := False) ⟨.ref m, rfl, m, c, l, sp9, 2, rfl, hS9, by decide, by decide, by omega, fun bt H10 hbt b10 hS10 => ?_⟩⟩
      obtain ⟨ch, hch, hc01⟩ : ∃ ch, ("01" : Str).cps.toList[bt]? = some ch ∧ (ch = 48 ∨ ch = 49) := by
        have : bt = 0 ∨ bt = 1 := by omega
        rcases this with rfl | rfl
        · exact ⟨48, rfl, .inl rfl⟩
        · exact ⟨49, rfl, .inr rfl⟩
      have eD10 : H10 D = some (.lst (ones t)) := b10 _ _ nDm.1 nDm.2.1 eD9
      refine ⟨_, _, ch, rfl, rfl, (by show 2 ≤ sizeLine; decide), atI_nat hch, _, eD10, ?_, t ++ [ch], sp9 + 1, ?_, ?_, (b9.trans b10).updN nD, hS10.upd nDm.1 nDm.2.1 nDm.2.2, by omega, ?_⟩
      · rw [List.length_map]
        exact small1000 (by omega)
      · exact K79.mods_app hm9 fun x hx => by rw [List.mem_singleton.mp hx]; exact hc01
      · rw [List.length_append, hl9]
        rfl
      · rw [upd_same]
        show some (HO.lst (ones t ++ [V.str (S [ch])])) = some (HO.lst (ones (t ++ [ch])))
        unfold ones
        rw [List.map_append]
        rfl
    · obtain ⟨t, sp9, hm9, hl9, b9, hS9, hsp9, eD9⟩ := p
      have eD9' := eD9
      unfold ones at eD9'
      rw [ones_str] at eD9'
      have eE9 : H9 E = some (.lst (vsl ts)) := b9 _ _ nEm.1 nEm.2.1 eE8
      have t79 : TS H7 H9 := (b8.ts hS7).trans (b9.ts hS8)
      have eo9 : H9 o = some (.lst xs) := b9 _ _ neo.1 neo.2.1 (b8 _ _ neo.1 neo.2.1 eo7)
      refine ⟨S [], D, t.map fun s => S [s], rfl, rfl, .inl (.of eD9'), ?_, ?_⟩
      · rw [sum_ones]
        show t.length + _ * 0 ≤ _
        omega
      rw [join_ones]
      refine ⟨_, eE9, ?_, ts ++ [t], sp9, ?_, ?_, ((b7.trans b8).trans b9).updN nEH, hS9.upd nEm.1 nEm.2.1 nEm.2.2, by omega, ?_, by rw [upd_ne nEo]; exact eo9, hE7.mono fun r p h => (t79.trans (TS.updL eE9)) _ _ h⟩
      · rw [List.length_map]
        exact small1000 (by omega)
      · rw [List.length_append, hts]
        rfl
      · intro x hx
        rcases List.mem_append.mp hx with z | z
        · exact hmt x z
        · rw [List.mem_singleton.mp z]
          exact ⟨hm9, by omega, by omega⟩
      · rw [upd_same]
        show some (HO.lst (vsl ts ++ vsl [t])) = some (HO.lst (vsl (ts ++ [t])))
        rw [vsl_app]
  · obtain ⟨ts, sp7, hts, hmt, b7, hS7, hsp7, eE, eo7, hE7⟩ := p
    match ts, hts with
    | [st, en], _ =>
      have ht0 := hmt st (by simp)
      have ht1 := hmt en (by simp)
      have hgood := good_of hD hw hi2 hi4 ht0 ht1
      refine ⟨.ref E, rfl, E, _, 0, _, rfl, rfl, .of eE, atI_nat (j := 0) rfl, .ref E, rfl, E, _, 1, _, rfl, rfl, .of eE, atI_nat (j := 1) rfl, .ref o, rfl, o, xs, rfl, .inl ⟨.of eo7, fun t nt => ⟨small_of (Nat.le_add_left 3 997), fun a na => ?_⟩⟩⟩
      obtain ⟨rs, rfl, hrl, hr⟩ := hE7.refs
      have s8 : Same H7 (upd H7 t (.tup (rs.map V.ref))) := same_upd nt
      have ntH := b7.free hS7 nt
      have hSt := hS7.ne nt
      have b8 : SB m l H (upd H7 t (.tup (rs.map V.ref))) := b7.updN ntH
      have hS8 : StAt (upd H7 t (.tup (rs.map V.ref))) m c l sp7 := hS7.same s8
      have et : (upd H7 t (.tup (rs.map V.ref))) t = some (.tup (rs.map V.ref)) := upd_same
      generalize (upd H7 t (.tup (rs.map V.ref))) = H8 at s8 b8 hS8 et na ⊢
      have s9 : Same H8 (upd H8 a (.tup [.str (S st), .str (S en), .ref t])) := same_upd na
      have naH := b8.free hS8 na
      have hws : WsR (upd H8 a (.tup [.str (S st), .str (S en), .ref t])) t rs ws := ⟨s9 _ _ et, hrl, fun i p e => by
        obtain ⟨r, h1, h2⟩ := hr i p e
        exact ⟨r, h1, s9 _ _ (s8 _ _ h2)⟩⟩
      exact q a ⟨st, en, ws⟩ sp7 _ (b8.updN naH) ⟨t, rs, upd_same, hws⟩ hgood (hS8.same s9) (by omega)
end
end K79W
set_option Elab.async false
set_option linter.all false
set_option maxRecDepth 100000
set_option maxHeartbeats 2000000
/-! # The law: all is told of a book -/
namespace K79W
open PySem PySem.Spec PyProof.Rows L2 SX
section
variable {P : Program} {w : World} {K : PySem.W.Frag} {mg : Str → Option Value} {base : Heap}
theorem ne_str (x : Str) : (!decide (V.str x = V.str x)) = false := by rw [decide_eq_true rfl]; rfl
def Due (b : K79.Bk) (dv : V) : Prop := ∀ u f, K79.Sgs b u → u ≠ [] → K79.textOf b (K79.bars b u).reverse = some f → ∃ n : Nat, dv = .int (n : Nat) ∧ n ≤ u.length
inductive Cs (b : K79.Bk) (H : Hp) (dv : V) (r : Addr) : Prop
  | turns (t : List Nat) (e : dv = .int (t.length : Nat)) (F : K79.Found b K79.fuel 0 t) (h : H r = some (.tup [.str "turns", .str (S t)])) (hs : K79.search b = some (.error t))
  | safe (k : K79.Kn) (tb : Addr) (ps : List K79.Pn) (e : dv = .non) (hs : K79.search b = some (.ok k)) (h : H r = some (.tup [.str "safe", .ref tb])) (ht : TbAt H tb ps) (st : Strict ps) (mem : ∀ p, p ∈ ps ↔ p ∈ K79.keys k)
theorem Cs.same {b : K79.Bk} {H H' : Hp} {dv : V} {r : Addr} (h : Cs b H dv r) (s : Same H H') : Cs b H' dv r := by
  cases h with
  | turns t e F h hs => exact .turns t e F (s _ _ h) hs
  | safe k tb ps e hs h ht st mem => exact .safe k tb ps e hs (s _ _ h) (ht.ts (TS.of s)) st mem
theorem closedT_of {b : K79.Bk} {k : K79.Kn} {ps : List K79.Pn} (C : K79.Closed b k) (mem : ∀ p, p ∈ ps ↔ p ∈ K79.keys k) : ClosedT b ps :=
  ⟨fun p hp => (mem p).mpr (C.fst p hp), fun p hp e he => by
    obtain ⟨h1, h2⟩ := C.exp p ((mem p).mp hp) e he
    exact ⟨h1, (mem _).mpr h2⟩⟩
theorem ps_small {b : K79.Bk} {k : K79.Kn} {ps : List K79.Pn} (C : K79.Closed b k) (st : Strict ps) (mem : ∀ p, p ∈ ps ↔ p ∈ K79.keys k) : ps.length ≤ 30 := by
  have h := K79.nodup_len ps K79.univ st.nd fun p hp => (C.good p ((mem p).mp hp)).univ
  rwa [K79.univ_len] at h
theorem found_len {b : K79.Bk} {t : List Nat} (F : K79.Found b K79.fuel 0 t) : t.length ≤ 40 := by
  have := F.len
  simpa [K79.fuel] using this
/-- the answer of check_book on the paper said -/
theorem said_ok {C : Addr} {b : K79.Bk} {H : Hp} {dv : V} {r : Addr} {Q : VK} (hg : K79.Good b) (h : Cs b H dv r) (q : ∀ z H', ((dv = .non ∧ z = ("safe" : Str)) ∨ (dv ≠ .non ∧ z = "turns")) → (∃ y, H r = some (.tup [.str z, y])) → Same H H' → Q (.str z) H') : TurnsPaper C H r b Q E0 ∨ SafePaper C H r b Q E0 := by
  cases h with
  | turns t e F h hs =>
    subst e
    obtain ⟨f, hf⟩ := F.trn
    have := found_len F
    exact .inl ⟨t, h, F.sg, F.ne, by omega, fun _ H' s => q "turns" H' (.inr ⟨(fun z => nomatch z), rfl⟩) ⟨_, h⟩ s, fun z => by rw [hf] at z; cases z⟩
  | safe k tb ps e hs h ht st mem =>
    have C := K79.search_closed hg hs
    exact .inr ⟨tb, ps, h, ht, fun p hp => C.good p ((mem p).mp hp), st, ps_small C st mem, .inl ⟨closedT_of C mem, fun H' s => q "safe" H' (.inl ⟨e, rfl⟩) ⟨_, h⟩ s⟩⟩
theorem text_small {b : K79.Bk} {row : List Nat} (hg : K79.Good b) (h : row.length ≤ 1000) : ∀ l, K79.textOf b row = some l → l.length ≤ 10000 ∧ ∀ c ∈ l, c < 1000 := fun l e => by
  obtain ⟨h1, h2, h3⟩ := K79.textOf_some hg e
  refine ⟨?_, sgs_small hg h1⟩
  have hl := K79.bars_len hg h1
  have w2 := hg.w2
  have : l.length ≤ l.length * K79.wide b := Nat.le_mul_of_pos_right _ (by omega)
  rw [← h3] at hl
  omega
def spRight : Sp := fun vs H Q _ => ∃ (a : Addr) (b : K79.Bk), vs = [.ref a] ∧ BkAt H a b ∧ K79.Good b ∧ ∀ H', Same H H' → Q (.bl true) H'
theorem ok_right {C : Addr} {k : Nat} (D : Df K mg "_law_right" sRight ["_law_book_so"]) (T : Tx mg) (cF : Cl P w K mg base k "_law_fewest" ["_law_book_so"] (spFewest))(cP : Cl P w K mg base k "book_paper" ["book"] (spPaper))(cC : ClX P w K mg base k "check_book" ["book", "paper"] (spCheck C))(cT : Cl P w K mg base k "turned" ["book", "text"] (spTurned))(cR : Cl P w K mg base k "_law_refused" ["_law_book_so", "_law_paper"] (spRefused))(cX : Cl P w K mg base k "_law_texts" ["_law_book_so", "_law_many"] (spTexts))(cM : Cl P w K mg base k "_law_modules" ["_law_book_so", "_law_text"] (spMods))(cL : Cl P w K mg base k "_law_reading" ["_law_book_so", "_law_row"] (spLRd))(cB : Cl P w K mg base k "bars" ["book", "text"] (spBars))(cG : Cl P w K mg base k "reading" ["book", "string"] (spReading)) : Cl P w K mg base (k + 1) "_law_right" ["_law_book_so"] (spRight) := by
  refine cl_of D scRight (fun vs H Q E h => ?_) (fun f cdv A outer s H vs Q E hr h => ?_)
  · obtain ⟨a, b, rfl, _⟩ := h
    rfl
  obtain ⟨a, b, rfl, hb, hg, q⟩ := h
  refine ⟨_, (C8.pss_cut (ps_par (i := 1) (j := 2) (by rfl) scRight.nd rfl rfl (by decide) rfl rfl (pa_cons (pe_cl cF hr (Nat.le_refl _) (by rfl) (pa_cons (pv 0) pa_nil)) (pa_cons (pe_cl cP hr (Nat.le_refl _) (by rfl) (pa_cons (pv 0) pa_nil)) pa_nil)) (by rfl))
    (C8.pss_cut (ps_if (PW.pt (pw_or (pt_cmpR op_ne (pe_clX cC hr (Nat.le_refl _) (by rfl) (pa_cons (pv 0) (pa_cons (pv 2) pa_nil))) (pe_ifExp (pt_cmpR op_isN (pv 1) pe_non (nomark _)) pe_str pe_str) (nomark _)) (pw_or1 (pt_cmpR op_ne (pe_ix ix_tup (pv 2) pe_int (fun _ _ => rfl)) (pe_clX cC hr (Nat.le_refl _) (by rfl) (pa_cons (pv 0) (pa_cons (pv 2) pa_nil))) (nomark _))))) (pss_one (ps_ret pe_bl)) pss_nil)
    (C8.pss_cut (ps_if (PW.pt (pw_and (pt_cmpR op_notN (pv 1) pe_non (nomark _)) (pw_and1 (PW.pt (pw_or (pt_cmpR op_ne (pe_callB call_len_str (by rfl) T.len PySem.boot_len (pa_cons (pe_ix ix_tup (pv 2) pe_int (fun _ _ => rfl)) pa_nil)) (pv 1) (nomark _)) (pw_or1 (pt_cmpR op_isN (pe_cl cT hr (Nat.le_refl _) (by rfl) (pa_cons (pv 0) (pa_cons (pe_ix ix_tup (pv 2) pe_int (fun _ _ => rfl)) pa_nil))) pe_non (nomark _)))))))) (pss_one (ps_ret pe_bl)) pss_nil)
    (C8.pss_cut (ps_if (PW.pt (pw_and (pt_cmpR op_notN (pv 1) pe_non (nomark _)) (pw_and1 (pt_cmpR op_ne (pe_cl cR hr (Nat.le_refl _) (by rfl) (pa_cons (pv 0) (pa_cons (pe_tup (pa_cons pe_str (pa_cons (pe_tup pa_nil) pa_nil))) pa_nil))) pe_str (nomark _))))) (pss_one (ps_ret pe_bl)) pss_nil)
    (pss_cons (ps_for PassesOwn.never rfl (pi_tup (pe_tup (pa_cons pe_int (pa_cons pe_int (pa_cons pe_int pa_nil))))) (pg_name (i := 3) scRight.nd rfl (Or.inl rfl)) (pss_one (ps_for PassesOwn.never rfl (pi_list (pe_cl cX hr (Nat.le_refl _) (by rfl) (pa_cons (pv 0) (pa_cons (pv 3) pa_nil)))) (pg_name (i := 4) scRight.nd rfl (Or.inl rfl)) (pss_cons (ps_set (i := 5) scRight.nd rfl (Or.inl rfl) (pe_cl cM hr (Nat.le_refl _) (by rfl) (pa_cons (pv 0) (pa_cons (pv 4) pa_nil))))
    (pss_cons (ps_set (i := 6) scRight.nd rfl (Or.inl rfl) (pe_cl cL hr (Nat.le_refl _) (by rfl) (pa_cons (pv 0) (pa_cons (K79R.pe_revS (pv 5)) pa_nil))))
    (pss_cons (ps_if (PW.pt (pw_or (pt_cmpR op_ne (pe_cl cB hr (Nat.le_refl _) (by rfl) (pa_cons (pv 0) (pa_cons (pv 4) pa_nil))) (pv 5) (nomark _)) (pw_or1 (pt_cmpR op_ne (pe_cl cG hr (Nat.le_refl _) (by rfl) (pa_cons (pv 0) (pa_cons (pv 5) pa_nil))) (pv 4) (nomark _))))) (pss_one (ps_ret pe_bl)) pss_nil)
    (pss_cons (ps_if (pt_cmpR op_ne (pe_callB K79R.call_reprO (by rfl) T.repr (by decide +kernel) (pa_cons (pe_cl cT hr (Nat.le_refl _) (by rfl) (pa_cons (pv 0) (pa_cons (pv 4) pa_nil))) pa_nil)) (pe_callB K79R.call_reprO (by rfl) T.repr (by decide +kernel) (pa_cons (pv 6) pa_nil)) (nomark _)) (pss_one (ps_ret pe_bl)) pss_nil)
    (pss_cons (ps_if (pt_cmpR op_ne (pe_callB K79R.call_reprO (by rfl) T.repr (by decide +kernel) (pa_cons (pe_cl cG hr (Nat.le_refl _) (by rfl) (pa_cons (pv 0) (pa_cons (pe_slice C8.sl_txt (pv 5) (po_some pe_int) po_none) pa_nil))) pa_nil)) (pe_callB K79R.call_reprO (by rfl) T.repr (by decide +kernel) (pa_cons (pe_cl cL hr (Nat.le_refl _) (by rfl) (pa_cons (pv 0) (pa_cons (pe_slice C8.sl_txt (pv 5) (po_some pe_int) po_none) pa_nil))) pa_nil)) (nomark _)) (pss_one (ps_ret pe_bl)) pss_nil)
    (pss_cons (ps_if (PW.pt (pw_and (pt_cmpR op_isN (pv 6) pe_non (nomark _)) (pw_and1 (pt_cmpR op_ne (pe_cl cR hr (Nat.le_refl _) (by rfl) (pa_cons (pv 0) (pa_cons (pe_tup (pa_cons pe_str (pa_cons (pv 4) pa_nil))) pa_nil))) pe_str (nomark _))))) (pss_one (ps_ret pe_bl)) pss_nil)
    (pss_one (ps_if (PW.pt (pw_and (pt_cmpR op_notN (pv 6) pe_non (nomark _)) (pw_and1 (PW.pt (pw_or (pt_cmpR op_isN (pv 1) pe_non (nomark _)) (pw_or1 (pt_cmpR op_gt (pv 1) (pv 3) (nomark _)))))))) (pss_one (ps_ret pe_bl)) pss_nil)))))))))))
    (pss_one (ps_ret pe_bl))))))), ?_⟩
  have MID : True := trivial
  refine ⟨fun σ' H' => ∃ dv r, σ' = [some (.ref a), some dv, some (.ref r), none, none, none, none] ∧ Same H H' ∧ Cs b H' dv r, ?_, fun σ' H0 hM => ?_⟩
  · refine ⟨.ref a, rfl, a, b, rfl, hb, hg, fun t ht H1 s1 => ?_, fun k hk H1 s1 => ?_⟩
    · refine ⟨.ref a, rfl, a, b, rfl, hb.same s1, hg, fun t2 ht2 r H2 s2 er => ?_, fun k hk => (by rw [ht] at hk; cases hk)⟩
      have et : t = t2 := by
        rw [ht] at ht2
        have := Option.some.inj ht2
        cases this
        rfl
      subst et
      exact ⟨_, _, rfl, _, _, rfl, s1.trans s2, .turns t rfl (K79.search_found hg ht) er ht⟩
    · refine ⟨.ref a, rfl, a, b, rfl, hb.same s1, hg, fun t2 ht2 => (by rw [hk] at ht2; cases ht2), fun k2 hk2 r tb ps H2 s2 er ht st mem => ?_⟩
      have ek : k = k2 := by
        rw [hk] at hk2
        have := Option.some.inj hk2
        cases this
        rfl
      subst ek
      exact ⟨_, _, rfl, _, _, rfl, s1.trans s2, .safe k tb ps rfl hk er ht st mem⟩
  obtain ⟨dv, r, rfl, s1, hC⟩ := hM
  -- the paper is taken, with its word
  refine ⟨fun σ' H' => σ' = [some (.ref a), some dv, some (.ref r), none, none, none, none] ∧ Same H H' ∧ Cs b H' dv r, ?_, fun σ' K1 hM => ?_⟩
  · refine ⟨.ref a, rfl, .ref r, rfl, a, r, b, rfl, hb.same s1, hg, said_ok hg hC fun z H2 hz hy s2 => ?_⟩
    obtain ⟨y, hy⟩ := hy
    have s12 := s1.trans s2
    have hC2 := hC.same s2
    have hy2 := s2 _ _ hy
    have fin : ∀ σ0 : L2.St, σ0 = [some (.ref a), some dv, some (.ref r), none, none, none, none] → ∀ (z2 : Str) H3, Same H2 H3 → z2 = z → (!decide (V.str z = V.str z2)) = false ∧ Same H H3 ∧ Cs b H3 dv r := fun σ0 _ z2 H3 s3 e => ⟨by rw [e]; exact ne_str z, s12.trans s3, hC2.same s3⟩
    rcases hz with ⟨e1, e2⟩ | ⟨e1, e2⟩
    · subst e1 e2
      refine ⟨.non, rfl, rfl, true, rfl, iteT ⟨rfl, false, rfl, iteF ?_⟩⟩
      refine ⟨.ref r, rfl, r, _, 0, _, rfl, rfl, .of hy2, atI_nat (j := 0) rfl, .ref a, rfl, .ref r, rfl, a, r, b, rfl, hb.same s12, hg, said_ok hg hC2 fun z3 H3 hz3 hy3 s3 => ?_⟩
      rcases hz3 with ⟨_, e3⟩ | ⟨e3, _⟩
      · subst e3
        exact ⟨rfl, false, rfl, iteF ⟨rfl, s12.trans s3, hC2.same s3⟩⟩
      · exact absurd rfl e3
    · subst e2
      refine ⟨dv, rfl, ?_⟩
      have hn : decide (dv = V.non) = false := decide_eq_false e1
      cases hC with
      | safe k tb ps e => exact absurd e e1
      | turns t e F h hs =>
        subst e
        refine ⟨rfl, false, rfl, iteF ⟨rfl, false, rfl, iteF ?_⟩⟩
        refine ⟨.ref r, rfl, r, _, 0, _, rfl, rfl, .of hy2, atI_nat (j := 0) rfl, .ref a, rfl, .ref r, rfl, a, r, b, rfl, hb.same s12, hg, said_ok hg hC2 fun z3 H3 hz3 hy3 s3 => ?_⟩
        rcases hz3 with ⟨e3, _⟩ | ⟨_, e3⟩
        · cases e3
        · subst e3
          exact ⟨rfl, false, rfl, iteF ⟨rfl, s12.trans s3, hC2.same s3⟩⟩
  obtain ⟨rfl, s2, hC⟩ := hM
  -- the text that turns
  refine ⟨fun σ' H' => σ' = [some (.ref a), some dv, some (.ref r), none, none, none, none] ∧ Same H H' ∧ Cs b H' dv r, ?_, fun σ' K2 hM => ?_⟩
  · cases hC with
    | safe k tb ps e hs h ht st mem =>
      subst e
      exact ⟨.non, rfl, rfl, false, rfl, iteF ⟨rfl, s2, .safe k tb ps rfl hs h ht st mem⟩⟩
    | turns t e F h hs =>
      subst e
      obtain ⟨f, hf⟩ := F.trn
      have hlen := found_len F
      refine ⟨_, rfl, rfl, true, rfl, iteT ⟨.ref r, rfl, r, _, 1, _, rfl, rfl, .of h, atI_nat (j := 1) rfl, S t, rfl, small_of (by rw [S_len]; omega), _, rfl, rfl, false, ?_, iteF ?_⟩⟩
      · rw [S_len, decide_eq_true rfl]
        rfl
      refine ⟨.ref a, rfl, .ref r, rfl, r, _, 1, _, rfl, rfl, .of h, atI_nat (j := 1) rfl, a, b, t, rfl, hb.same s2, hg, F.sg, F.ne, by omega, fun H5 s5 => ?_⟩
      rw [hf]
      exact ⟨rfl, false, rfl, iteF ⟨rfl, s2.trans s5, .turns t rfl F (s5 _ _ h) hs⟩⟩
  obtain ⟨rfl, s3, hC⟩ := hM
  -- the safe paper without a table
  refine ⟨fun σ' H' => σ' = [some (.ref a), some dv, some (.ref r), none, none, none, none] ∧ Same H H' ∧ Due b dv ∧ (dv = .non ∨ ∃ n : Nat, dv = .int (n : Nat)), ?_, fun σ' K3 hM => ?_⟩
  · cases hC with
    | safe k tb ps e hs h ht st mem =>
      subst e
      have C := K79.search_closed hg hs
      exact ⟨.non, rfl, rfl, false, rfl, iteF ⟨rfl, s3, fun u f hu hne hf => absurd hf (C.safe hg hu hne), .inl rfl⟩⟩
    | turns t e F h hs =>
      subst e
      have hfst : ∃ p, K79.first b = some p := by
        cases e : K79.first b with
        | none =>
          unfold K79.search at hs
          rw [e] at hs
          cases hs
        | some p => exact ⟨p, rfl⟩
      refine ⟨_, rfl, rfl, true, rfl, iteT ⟨.ref a, rfl, small_of (Nat.zero_le _), fun tb ntb => ⟨small_of (Nat.le_add_left 2 998), fun pa npa => ?_⟩⟩⟩
      have s6 : Same K2 (upd K2 tb (.tup [])) := same_upd ntb
      have etb : (upd K2 tb (.tup [])) tb = some (.tup []) := upd_same
      generalize (upd K2 tb (.tup [])) = H6 at s6 etb npa ⊢
      have s7 : Same H6 (upd H6 pa (.tup [.str "safe", .ref tb])) := same_upd npa
      have epa : (upd H6 pa (.tup [.str "safe", .ref tb])) pa = some (.tup [.str "safe", .ref tb]) := upd_same
      generalize (upd H6 pa (.tup [.str "safe", .ref tb])) = H7 at s7 epa ⊢
      have s17 := (s3.trans s6).trans s7
      exact ⟨a, pa, b, rfl, hb.same s17, hg, .inr ⟨tb, epa, s7 _ _ etb, hfst, fun H8 s8 => ⟨rfl, false, rfl, iteF ⟨rfl, s17.trans s8, fun u f hu hne hf => ⟨t.length, rfl, F.least u f hu hne hf⟩, .inr ⟨_, rfl⟩⟩⟩⟩⟩
  obtain ⟨rfl, s4, hdue, hdv⟩ := hM
  refine ⟨small_of (Nat.le_add_left 3 997), fun tp ntp => ⟨tp, rfl, ⟨_, .of upd_same⟩, for_tup (xs := [.int 1, .int 2, .int 3]) (fun i σ H3 => ∃ y3 y4 y5 y6, σ = [some (.ref a), some dv, some (.ref r), y3, y4, y5, y6] ∧ Same H H3 ∧ H3 tp = some (.tup [.int 1, .int 2, .int 3]))
    ⟨none, none, none, none, rfl, s4.trans (same_upd ntp), upd_same⟩ (fun i σ H3 _ p => by obtain ⟨_, _, _, _, _, _, p⟩ := p; exact .of p) (fun i x σ H3 hx p => ?_) (fun σ H3 p => ?_)⟩⟩
  · obtain ⟨y3, y4, y5, y6, rfl, s5, etp⟩ := p
    obtain ⟨n, rfl, hn1, hn3⟩ : ∃ n : Nat, x = .int (n : Nat) ∧ 1 ≤ n ∧ n ≤ 3 := by
      match i, hx with
      | 0, hx => exact ⟨1, (Option.some.inj hx).symm, by decide, by decide⟩
      | 1, hx => exact ⟨2, (Option.some.inj hx).symm, by decide, by decide⟩
      | 2, hx => exact ⟨3, (Option.some.inj hx).symm, by decide, by decide⟩
    refine ⟨.ref a, rfl, .int (n : Nat), rfl, a, b, n, rfl, hb.same s5, hg, hn3, fun lt H4 s6 elt => ?_⟩
    refine ⟨lt, rfl, ⟨_, .of elt⟩, for_list (xs := vsl (txts (b.ws.map (·.1)) n)) (fun j σ H5 => ∃ y4 y5 y6, σ = [some (.ref a), some dv, some (.ref r), some (.int (n : Nat)), y4, y5, y6] ∧ Same H4 H5)
      ⟨y4, y5, y6, rfl, Same.refl _⟩ (fun j σ H5 _ p => by obtain ⟨_, _, _, _, p⟩ := p; exact .of (p _ _ elt)) (fun j x σ H5 hx p => ?_) (fun σ H5 p => ?_)⟩
    · obtain ⟨y4, y5, y6, rfl, s7⟩ := p
      obtain ⟨u, hu, rfl⟩ : ∃ u, (txts (b.ws.map (·.1)) n)[j]? = some u ∧ x = .str (S u) := by
        rw [List.getElem?_map] at hx
        cases e : (txts (b.ws.map (·.1)) n)[j]? with
        | none => rw [e] at hx; cases hx
        | some t => rw [e] at hx; exact ⟨t, rfl, (Option.some.inj hx).symm⟩
      obtain ⟨hul, hus⟩ := txts_mem (List.mem_of_getElem? hu)
      have hs : K79.Sgs b u := hus
      have hne : u ≠ [] := fun z => by rw [z] at hul; simp at hul; omega
      have hlen := K79.bars_len hg hs
      have hsm := bars_small hg hs (show u.length ≤ 100 by omega)
      have w2 := hg.w2
      have hul2 : K79.wide b ≤ u.length * K79.wide b := Nat.le_mul_of_pos_left _ (by omega)
      have s57 := (s5.trans s6).trans s7
      have hz : (S (K79.bars b u)).length ≤ sizeLine := by rw [S_len]; exact small_of (by omega)
      refine ⟨.ref a, rfl, .str (S u), rfl, a, b, u, rfl, hb.same s57, hg, hs, hne, by omega, fun H6 s8 => ?_⟩
      have s58 := s57.trans s8
      refine ⟨.ref a, rfl, _, rfl, K79.bars b u, rfl, small_of (by omega), a, b, (K79.bars b u).reverse, rfl, hb.same s58, hg, by rw [List.length_reverse]; omega, by rw [List.length_reverse]; omega, fun H7 s9 => ?_⟩
      have s59 := s58.trans s9
      refine ⟨.ref a, rfl, .str (S u), rfl, a, b, u, rfl, hb.same s59, hg, hs, hne, by omega, fun H8 s10 => ⟨_, rfl, rfl, false, congrArg V.bl (ne_str _), iteF ?_⟩⟩
      have s60 := s59.trans s10
      refine ⟨.ref a, rfl, _, rfl, a, b, K79.bars b u, rfl, hb.same s60, hg, by omega, fun H9 s11 => ?_⟩
      have s61 := s60.trans s11
      rw [K79.textOf_bars hg hs hne]
      refine ⟨.str (S u), rfl, rfl, false, congrArg V.bl (ne_str _), iteF ?_⟩
      have hrl : (K79.bars b u).reverse.length ≤ 1000 := by rw [List.length_reverse]; omega
      refine ⟨.ref a, rfl, .str (S u), rfl, a, b, u, rfl, hb.same s61, hg, hs, hne, by omega, fun H10 s12 => ⟨_, rfl, text_small hg hrl, _, rfl, _, rfl, text_small hg hrl, rfl, false, congrArg V.bl (ne_str _), iteF ?_⟩⟩
      have s62 := s61.trans s12
      have hd1 : Txt.slice (S (K79.bars b u)) (some 1) none = S ((K79.bars b u).drop 1) := slice_from (by decide)
      have hdl : ((K79.bars b u).drop 1).length ≤ 1000 := by rw [List.length_drop]; omega
      refine ⟨.ref a, rfl, _, rfl, 1, rfl, S (K79.bars b u), rfl, hz, a, b, (K79.bars b u).drop 1, by rw [hd1]; rfl, hb.same s62, hg, hdl, fun H11 s13 => ⟨_, rfl, text_small hg hdl, .ref a, rfl, _, rfl, 1, rfl, S (K79.bars b u), rfl, hz, a, b, (K79.bars b u).drop 1, by rw [hd1]; rfl, hb.same (s62.trans s13), hg, hdl, by rw [List.length_drop]; omega, fun H12 s14 => ⟨_, rfl, text_small hg hdl, rfl, false, congrArg V.bl (ne_str _), iteF ?_⟩⟩⟩
      have s64 := (s62.trans s13).trans s14
      have s714 : Same H4 H12 := ((((((s7.trans s8).trans s9).trans s10).trans s11).trans s12).trans s13).trans s14
      cases hx : K79.textOf b (K79.bars b u).reverse with
      | none =>
        refine ⟨.non, rfl, rfl, true, rfl, iteT ⟨.ref a, rfl, .str (S u), rfl, small_of (Nat.le_add_left 2 998), fun pa npa => ?_⟩⟩
        have s15 : Same H12 (upd H12 pa (.tup [.str "turns", .str (S u)])) := same_upd npa
        exact ⟨a, pa, b, rfl, hb.same (s64.trans s15), hg, .inl ⟨u, upd_same, hs, hne, by omega, hx, fun H13 s16 => ⟨rfl, false, rfl, iteF ⟨.non, rfl, rfl, false, rfl, iteF ⟨_, _, _, rfl, (s714.trans s15).trans s16⟩⟩⟩⟩⟩
      | some f =>
        obtain ⟨n0, e0, h0⟩ := hdue u f hs hne hx
        subst e0
        refine ⟨_, rfl, rfl, false, rfl, iteF ⟨_, rfl, rfl, true, rfl, iteT ⟨_, rfl, rfl, false, rfl, iteF ⟨_, rfl, _, rfl, _, _, rfl, rfl, false, congrArg V.bl (decide_eq_false (by omega)), iteF ⟨_, _, _, rfl, s714⟩⟩⟩⟩⟩
    · obtain ⟨y4, y5, y6, rfl, s7⟩ := p
      have s57 := (s5.trans s6).trans s7
      exact ⟨_, _, _, _, rfl, s57, s7 _ _ (s6 _ _ etp)⟩
  · obtain ⟨y3, y4, y5, y6, rfl, s5, etp⟩ := p
    exact q H3 s5
end
end K79W
set_option Elab.async false
set_option linter.all false
set_option maxRecDepth 100000
set_option maxHeartbeats 2000000
/-! # The law -/
namespace K79W
open PySem PySem.Spec PyProof.Rows L2 SX
section
variable {P : Program} {w : World} {K : PySem.W.Frag} {mg : Str → Option Value} {base : Heap}
def bkA : K79.Bk := ⟨[48, 49], [49, 49], [(48, [48, 48]), (49, [49, 48])]⟩
def bkB : K79.Bk := ⟨[49], [49], [(48, [48, 48]), (49, [49, 49])]⟩
theorem goodA : K79.Good bkA where
  s1 := by decide
  s4 := by decide
  e1 := by decide
  e4 := by decide
  sm := by intro c hc; simp [bkA] at hc; omega
  em := by intro c hc; simp [bkA] at hc; omega
  n2 := by decide
  n4 := by decide
  wm := by intro p hp c hc; simp [bkA] at hp; rcases hp with rfl | rfl <;> simp at hc <;> omega
  w2 := by decide
  w3 := by decide
  wl := by intro p hp; simp [bkA] at hp; rcases hp with rfl | rfl <;> rfl
  nd1 := by decide
  nd2 := by decide
  sg := by intro p hp; simp [bkA] at hp; rcases hp with rfl | rfl <;> simp
theorem goodB : K79.Good bkB where
  s1 := by decide
  s4 := by decide
  e1 := by decide
  e4 := by decide
  sm := by intro c hc; simp [bkB] at hc; omega
  em := by intro c hc; simp [bkB] at hc; omega
  n2 := by decide
  n4 := by decide
  wm := by intro p hp c hc; simp [bkB] at hp; rcases hp with rfl | rfl <;> simp at hc <;> omega
  w2 := by decide
  w3 := by decide
  wl := by intro p hp; simp [bkB] at hp; rcases hp with rfl | rfl <;> rfl
  nd1 := by decide
  nd2 := by decide
  sg := by intro p hp; simp [bkB] at hp; rcases hp with rfl | rfl <;> simp
theorem two_words {H : Hp} {t1 t2 t a : Addr} {p1 p2 : K79.Wd} {st en : List Nat} (e1 : WdAt H t1 p1) (e2 : WdAt H t2 p2) (e : H t = some (.tup [.ref t1, .ref t2])) (ea : H a = some (.tup [.str (S st), .str (S en), .ref t])) : BkAt H a ⟨st, en, [p1, p2]⟩ :=
  ⟨t, [t1, t2], ea, e, rfl, fun i p h => by
    match i, h with
    | 0, h => exact ⟨t1, rfl, by rw [← Option.some.inj h]; exact e1⟩
    | 1, h => exact ⟨t2, rfl, by rw [← Option.some.inj h]; exact e2⟩⟩
def spLaw (K : PySem.W.Frag) : Sp := fun vs H Q _ => ∃ (a : Addr) (ns : List Int), vs = [.ref a] ∧ SqL K H a (ns.map V.int) ∧ ns.length ≤ 63 ∧ ∀ H', Q (.bl true) H'
theorem ok_law {f : Addr} {fd : FuncData} {k : Nat} (F : Fun K "law" "law" sLaw f fd) (T : Tx mg) (cB : Cl P w K mg base k "_law_begun" ["_law_script"] (spBegun K))(cR : Cl P w K mg base k "_law_right" ["_law_book_so"] (spRight))(cK : Cl P w K mg base k "_law_book" ["_law_m", "_law_most"] (spBook)) : FnOk P w K mg base CX0 (k + 1) f fd ["_law_script"] (spLaw K) := by
  refine F.ok scLaw (fun vs H Q E h => ?_) (fun cdv A outer s H vs Q E hr h => ?_)
  · obtain ⟨a, ns, rfl, _⟩ := h
    rfl
  obtain ⟨a, ns, rfl, hS, hn, q⟩ := h
  refine ⟨_, (pss_cons (ps_set (i := 1) scLaw.nd rfl (Or.inl rfl) (pe_cl cB hr (Nat.le_refl _) (by rfl) (pa_cons (pv 0) pa_nil)))
    (pss_cons (ps_for PassesOwn.never rfl (pi_range1 (by rfl) T.range (pa_cons (pe_op op_add pe_int (pe_callB (call_min2 rfl) (by rfl) T.min (by decide +kernel) (pa_cons pe_int (pa_cons (pe_callB call_len_seq (by rfl) T.len PySem.boot_len (pa_cons (pv 0) pa_nil)) pa_nil)))) pa_nil)) (pg_name (i := 2) scLaw.nd rfl (Or.inl rfl)) (pss_one (ps_if (pt_not (pt_val (pe_cl cR hr (Nat.le_refl _) (by rfl) (pa_cons (pe_cl cK hr (Nat.le_refl _) (by rfl) (pa_cons (pv 1) (pa_cons pe_int pa_nil))) pa_nil)))) (pss_one (ps_ret pe_bl)) pss_nil)))
    (pss_cons (ps_set (i := 3) scLaw.nd rfl (Or.inl rfl) (pe_tup (pa_cons pe_str (pa_cons pe_str (pa_cons (pe_tup (pa_cons (pe_tup (pa_cons pe_str (pa_cons pe_str pa_nil))) (pa_cons (pe_tup (pa_cons pe_str (pa_cons pe_str pa_nil))) pa_nil))) pa_nil)))))
    (pss_one (ps_ret (pe_and (pe_cl cR hr (Nat.le_refl _) (by rfl) (pa_cons (pv 3) pa_nil)) (pe_one (pe_cl cR hr (Nat.le_refl _) (by rfl) (pa_cons (pe_tup (pa_cons pe_str (pa_cons pe_str (pa_cons (pe_tup (pa_cons (pe_tup (pa_cons pe_str (pa_cons pe_str pa_nil))) (pa_cons (pe_tup (pa_cons pe_str (pa_cons pe_str pa_nil))) pa_nil))) pa_nil)))) pa_nil))))))))), ?_⟩
  refine ⟨.ref a, rfl, a, ns, rfl, hS, hn, fun m c l H1 s1 hSt => ?_⟩
  have hlen : (ns.map V.int).length = ns.length := List.length_map _
  refine ⟨.ref a, rfl, a, _, rfl, .inl (s1.seq hS), _, _, rfl, _, _, rfl, rfl, ?_⟩
  obtain ⟨n, hnn, hn8⟩ : ∃ n : Nat, (3 : Int) + (if (((ns.map V.int).length : Nat) : Int) < 5 then (((ns.map V.int).length : Nat) : Int) else 5) = (n : Nat) ∧ n ≤ 8 := by
    split
    · exact ⟨3 + ns.length, by rw [hlen]; push_cast; rfl, by omega⟩
    · exact ⟨8, rfl, by decide⟩
  refine ⟨(n : Nat), congrArg (fun z => [V.int z]) hnn, by omega, by omega, ?_⟩
  rw [Int.toNat_natCast]
  refine for_range (lo := 0) (n := n) (fun i σ H3 => ∃ y2 sp, σ = [some (.ref a), some (.ref m), y2, none] ∧ StAt H3 m c l sp ∧ sp ≤ 20 * i) ⟨none, 0, rfl, hSt, Nat.zero_le _⟩ (fun i σ H3 hi p => ?_) (fun σ H3 p => ?_)
  · obtain ⟨y2, sp, rfl, hS3, hsp⟩ := p
    refine ⟨.ref m, rfl, m, c, l, sp, rfl, hS3, by omega, fun bk b sp' H4 b4 hb hg hS4 hsp4 => ⟨bk, b, rfl, hb, hg, fun H5 s5 => ⟨true, rfl, iteF ?_⟩⟩⟩
    exact ⟨_, sp', rfl, hS4.same s5, by omega⟩
  · obtain ⟨y2, sp, rfl, hS3, hsp⟩ := p
    refine ⟨small_of (Nat.le_add_left 2 998), fun t1 n1 => ⟨small_of (Nat.le_add_left 2 998), fun t2 n2 => ⟨small_of (Nat.le_add_left 2 998), fun t n0 => ⟨small_of (Nat.le_add_left 3 997), fun b n3 => ?_⟩⟩⟩⟩
    have x2 := same_upd (o := .tup [.str "1", .str "10"]) n2
    have x0 := same_upd (o := .tup [.ref t1, .ref t2]) n0
    have x3 := same_upd (o := .tup [.str "01", .str "11", .ref t]) n3
    refine ⟨.ref b, rfl, b, bkA, rfl, two_words (x3 _ _ (x0 _ _ (x2 _ _ upd_same))) (x3 _ _ (x0 _ _ upd_same)) (x3 _ _ upd_same) upd_same, goodA, fun H4 s4 => ⟨true, rfl, iteT ?_⟩⟩
    refine ⟨small_of (Nat.le_add_left 2 998), fun t1 n1 => ⟨small_of (Nat.le_add_left 2 998), fun t2 n2 => ⟨small_of (Nat.le_add_left 2 998), fun t n0 => ⟨small_of (Nat.le_add_left 3 997), fun b n3 => ?_⟩⟩⟩⟩
    have x2 := same_upd (o := .tup [.str "1", .str "11"]) n2
    have x0 := same_upd (o := .tup [.ref t1, .ref t2]) n0
    have x3 := same_upd (o := .tup [.str "1", .str "1", .ref t]) n3
    exact ⟨b, bkB, rfl, two_words (x3 _ _ (x0 _ _ (x2 _ _ upd_same))) (x3 _ _ (x0 _ _ upd_same)) (x3 _ _ upd_same) upd_same, goodB, fun H5 s5 => q H5⟩
end
end K79W
set_option Elab.async false
set_option linter.all false
set_option maxRecDepth 100000
set_option maxHeartbeats 2000000
/-! # The end -/
namespace K79W
open PySem PySem.Spec PyProof.Rows L2 SX
section
variable {P : Program} {w : World} {K : PySem.W.Frag} {mg : Str → Option Value} {base : Heap}
theorem Cl.mono {j k : Nat} {x : Str} {ps : List Str} {sp : Sp} (c : Cl P w K mg base j x ps sp) (h : j ≤ k) : Cl P w K mg base k x ps sp := by
  obtain ⟨f, fd, F, a, b, d⟩ := c.ex
  exact ⟨f, fd, F.mono h, a, b, d⟩
theorem ClX.mono {j k : Nat} {x : Str} {ps : List Str} {sp : Sp} (c : ClX P w K mg base j x ps sp) (h : j ≤ k) : ClX P w K mg base k x ps sp := by
  obtain ⟨f, fd, F, a, b, d⟩ := c.ex
  exact ⟨f, fd, F.mono h, a, b, d⟩
/-- where the defs stand -/
structure Defs (K : PySem.W.Frag) (mg : Str → Option Value) : Prop where
  dWhole : Df K mg "is_whole" sWhole ["thing", "least", "most"]
  dRow : Df K mg "is_row" sRow ["thing", "least", "most"]
  dSign : Df K mg "is_sign" sSign ["thing"]
  dPair : Df K mg "is_word_pair" sPair ["thing"]
  dWords : Df K mg "are_words" sWords ["thing"]
  dNeed : Df K mg "need_book" sNeed ["thing"]
  dWordsOf : Df K mg "words_of" sWordsOf ["book"]
  dNeedText : Df K mg "need_sign_text" sNeedText ["book", "text"]
  dBarsOf : Df K mg "bars_of" sBarsOf ["book", "text"]
  dBars : Df K mg "bars" sBars ["book", "text"]
  dTextOf : Df K mg "text_of" sTextOf ["book", "string"]
  dReading : Df K mg "reading" sReading ["book", "string"]
  dTurned : Df K mg "turned" sTurned ["book", "text"]
  dPend : Df K mg "pending_of" sPend ["one", "other"]
  dGrown : Df K mg "grown" sGrown ["pending", "one", "other"]
  dNexts : Df K mg "next_pendings" sNexts ["book", "pending"]
  dIsEnd : Df K mg "is_end" sIsEnd ["book", "pending"]
  dSearched : Df K mg "searched" sSearched ["book"]
  dPaper : Df K mg "book_paper" sPaper ["book"]
  dIsPend : Df K mg "is_pending" sIsPend ["thing"]
  dDoes : Df K mg "does_turn" sDoes ["book", "text"]
  dSafe : Df K mg "is_safe" sSafe ["book", "table"]
  dCheck : Df K mg "check_book" sCheck ["book", "paper"]
  dMix : Df K mg "_law_mix" sMix ["_law_cell", "_law_spot"]
  dBegun : Df K mg "_law_begun" sBegun ["_law_script"]
  dDraw : Df K mg "_law_draw" sDraw ["_law_m", "_law_limit"]
  dBook : Df K mg "_law_book" sBook ["_law_m", "_law_most"]
  dModules : Df K mg "_law_modules" sModules ["_law_book_so", "_law_text"]
  dTexts : Df K mg "_law_texts" sTexts ["_law_book_so", "_law_many"]
  dLReading : Df K mg "_law_reading" sLReading ["_law_book_so", "_law_row"]
  dRest : Df K mg "_law_rest" sRest ["_law_one", "_law_other"]
  dFewest : Df K mg "_law_fewest" sFewest ["_law_book_so"]
  dRefused : Df K mg "_law_refused" sRefused ["_law_book_so", "_law_paper"]
  dRight : Df K mg "_law_right" sRight ["_law_book_so"]
theorem law_all {C fI : Addr} (D : Defs K mg) (T : Tx mg) (TB : PySem.BpX.BpTxt P K mg C fI) (hm0 : mg "super" = none) {f : Addr} {fd : FuncData} (F : Fun K "law" "law" sLaw f fd) : FnOk P w K mg base CX0 8 f fd ["_law_script"] (spLaw K) := by
  have whole := ok_whole (P := P) (w := w) (base := base) (k := 0) D.dWhole T
  have row := ok_row (P := P) (w := w) (base := base) (k := 0) D.dRow T
  have sign := ok_sign (P := P) (w := w) (base := base) (k := 0) D.dSign T
  have wordsOf := ok_words_of (P := P) (w := w) (base := base) (k := 0) D.dWordsOf T
  have textOf := ok_text_of (P := P) (w := w) (base := base) (k := 0) D.dTextOf T
  have pend := ok_pend (P := P) (w := w) (base := base) (k := 0) D.dPend T
  have mix := ok_mix (P := P) (w := w) (base := base) (k := 0) D.dMix T
  have rest := ok_rest (P := P) (w := w) (base := base) (k := 0) D.dRest T
  have mods := ok_mods (P := P) (w := w) (base := base) (k := 0) D.dModules T
  have texts := ok_texts (P := P) (w := w) (base := base) (k := 0) D.dTexts T
  have lread := ok_lread (P := P) (w := w) (base := base) (k := 0) D.dLReading T
  have begun := ok_begun (P := P) (w := w) (base := base) (k := 0) D.dBegun T
  have pair := ok_pair D.dPair T row sign
  have needText := ok_need_text D.dNeedText T wordsOf
  have barsOf := ok_bars_of D.dBarsOf T wordsOf
  have grown := ok_grown D.dGrown T pend
  have isPend := ok_is_pend D.dIsPend T whole
  have draw := ok_draw D.dDraw T mix
  have fewest := ok_fewest D.dFewest T rest
  have words := ok_words D.dWords T pair
  have nexts := ok_nexts D.dNexts T grown
  have isEnd := ok_is_end D.dIsEnd T grown
  have does := ok_does D.dDoes T (wordsOf.mono (by decide)) barsOf (textOf.mono (by decide))
  have book := ok_book D.dBook T draw
  have need := ok_need D.dNeed T (row.mono (by decide)) words
  have searched := ok_searched D.dSearched T (pend.mono (by decide)) nexts isEnd
  have safe := ok_safe D.dSafe T (isPend.mono (by decide)) (pend.mono (by decide)) nexts isEnd
  have bars := ok_bars D.dBars T need (needText.mono (by decide)) (barsOf.mono (by decide))
  have reading := ok_reading D.dReading T need (textOf.mono (by decide))
  have turned := ok_turned D.dTurned T need (needText.mono (by decide)) (barsOf.mono (by decide)) (textOf.mono (by decide))
  have paper := ok_paper D.dPaper T need searched
  have check := ok_check D.dCheck T TB hm0 need (does.mono (by decide)) safe
  have refused := ok_refused D.dRefused T TB check
  have right := ok_right D.dRight T (fewest.mono (by decide)) (paper.mono (by decide)) (check.mono (by decide)) (turned.mono (by decide)) refused (texts.mono (by decide)) (mods.mono (by decide)) (lread.mono (by decide)) (bars.mono (by decide)) (reading.mono (by decide))
  exact ok_law F T (begun.mono (by decide)) right (book.mono (by decide))
theorem df_mk {h : Heap} (X : K.In h) (G : h.Ns mainGlobals mg) {x : Str} {st : Stmt} {ps : List Str} {f : Addr} {oc : Value} {od an : Option Addr} {osl : Array (Option Value)} {kV doc pm cdv ct : Value}
    (a : PySem.W.nsIn K mainGlobals x = some (some (.ref f))) (l : K.lookup f = some ⟨oc, od, .func (PySem.W.fnOf x x (defArgs st) (defBody st) (defScope st) .none kV doc pm an cdv ct), osl⟩) (c : PySem.W.codeIn K cdv x = true) (k : PySem.W.keepIn K (.ref f) = true)
    (hb : ∀ (kV doc pm : Value) (an : Option Addr) (cdv ct : Value) (us : List Value), us.length = ps.length → bindArgs (PySem.W.fnOf x x (defArgs st) (defBody st) (defScope st) .none kV doc pm an cdv ct) ⟨us, []⟩ = pure (ps.zip us)) : Df K mg x st ps :=
  ⟨f, _, fun_mk l c k, PySem.W.mg_of X G a, (fun_mk l c k).binds hb⟩
theorem exm_self {K : PySem.W.Frag} {S : Addr} (h1 : PySem.W.subIn K (.ref S) (.type "BaseException") = some true) (h2 : PySem.W.isClsIn K S = true) (h3 : PySem.W.typeIn K (.ref S) = some (.type "type")) (h4 : PySem.W.subIn K (.ref S) (.ref S) = some true) :
    PySem.W.exmOne K (.ref S) (.ref S) = some true := by
  have e1 : (PySem.W.subIn K (.ref S) (.type "BaseException") == some true) = true := by rw [h1] <;> rfl
  have e2 : ((PySem.W.clsIn K S).isSome && PySem.W.typeIn K (.ref S) == some (.type "type")) = true := by
    have h2' : (PySem.W.clsIn K S).isSome = true := h2
    rw [h2', h3] <;> rfl
  show (if (PySem.W.subIn K (.ref S) (.type "BaseException") == some true) = true then (if ((PySem.W.clsIn K S).isSome && PySem.W.typeIn K (.ref S) == some (.type "type")) = true then PySem.W.subIn K (.ref S) (.ref S) else none) else none) = some true
  rw [if_pos e1, if_pos e2]
  exact h4
theorem all_mk {h : Heap} (X : K.In h) (G : h.Ns mainGlobals mg) {fa C fI cdaI ccI : Addr} {f0 : Addr} {od0 an0 : Option Addr} {sl0 : Array (Option Value)} {oc0 kV0 dc0 pm0 cd0 ct0 : Value} {f1 : Addr} {od1 an1 : Option Addr} {sl1 : Array (Option Value)} {oc1 kV1 dc1 pm1 cd1 ct1 : Value} {f2 : Addr} {od2 an2 : Option Addr} {sl2 : Array (Option Value)} {oc2 kV2 dc2 pm2 cd2 ct2 : Value} {f3 : Addr} {od3 an3 : Option Addr} {sl3 : Array (Option Value)} {oc3 kV3 dc3 pm3 cd3 ct3 : Value} {f4 : Addr} {od4 an4 : Option Addr} {sl4 : Array (Option Value)} {oc4 kV4 dc4 pm4 cd4 ct4 : Value} {f5 : Addr} {od5 an5 : Option Addr} {sl5 : Array (Option Value)} {oc5 kV5 dc5 pm5 cd5 ct5 : Value} {f6 : Addr} {od6 an6 : Option Addr} {sl6 : Array (Option Value)} {oc6 kV6 dc6 pm6 cd6 ct6 : Value} {f7 : Addr} {od7 an7 : Option Addr} {sl7 : Array (Option Value)} {oc7 kV7 dc7 pm7 cd7 ct7 : Value} {f8 : Addr} {od8 an8 : Option Addr} {sl8 : Array (Option Value)} {oc8 kV8 dc8 pm8 cd8 ct8 : Value} {f9 : Addr} {od9 an9 : Option Addr} {sl9 : Array (Option Value)} {oc9 kV9 dc9 pm9 cd9 ct9 : Value} {f10 : Addr} {od10 an10 : Option Addr} {sl10 : Array (Option Value)} {oc10 kV10 dc10 pm10 cd10 ct10 : Value} {f11 : Addr} {od11 an11 : Option Addr} {sl11 : Array (Option Value)} {oc11 kV11 dc11 pm11 cd11 ct11 : Value} {f12 : Addr} {od12 an12 : Option Addr} {sl12 : Array (Option Value)} {oc12 kV12 dc12 pm12 cd12 ct12 : Value} {f13 : Addr} {od13 an13 : Option Addr} {sl13 : Array (Option Value)} {oc13 kV13 dc13 pm13 cd13 ct13 : Value} {f14 : Addr} {od14 an14 : Option Addr} {sl14 : Array (Option Value)} {oc14 kV14 dc14 pm14 cd14 ct14 : Value} {f15 : Addr} {od15 an15 : Option Addr} {sl15 : Array (Option Value)} {oc15 kV15 dc15 pm15 cd15 ct15 : Value} {f16 : Addr} {od16 an16 : Option Addr} {sl16 : Array (Option Value)} {oc16 kV16 dc16 pm16 cd16 ct16 : Value} {f17 : Addr} {od17 an17 : Option Addr} {sl17 : Array (Option Value)} {oc17 kV17 dc17 pm17 cd17 ct17 : Value} {f18 : Addr} {od18 an18 : Option Addr} {sl18 : Array (Option Value)} {oc18 kV18 dc18 pm18 cd18 ct18 : Value} {f19 : Addr} {od19 an19 : Option Addr} {sl19 : Array (Option Value)} {oc19 kV19 dc19 pm19 cd19 ct19 : Value} {f20 : Addr} {od20 an20 : Option Addr} {sl20 : Array (Option Value)} {oc20 kV20 dc20 pm20 cd20 ct20 : Value} {f21 : Addr} {od21 an21 : Option Addr} {sl21 : Array (Option Value)} {oc21 kV21 dc21 pm21 cd21 ct21 : Value} {f22 : Addr} {od22 an22 : Option Addr} {sl22 : Array (Option Value)} {oc22 kV22 dc22 pm22 cd22 ct22 : Value} {f23 : Addr} {od23 an23 : Option Addr} {sl23 : Array (Option Value)} {oc23 kV23 dc23 pm23 cd23 ct23 : Value} {f24 : Addr} {od24 an24 : Option Addr} {sl24 : Array (Option Value)} {oc24 kV24 dc24 pm24 cd24 ct24 : Value} {f25 : Addr} {od25 an25 : Option Addr} {sl25 : Array (Option Value)} {oc25 kV25 dc25 pm25 cd25 ct25 : Value} {f26 : Addr} {od26 an26 : Option Addr} {sl26 : Array (Option Value)} {oc26 kV26 dc26 pm26 cd26 ct26 : Value} {f27 : Addr} {od27 an27 : Option Addr} {sl27 : Array (Option Value)} {oc27 kV27 dc27 pm27 cd27 ct27 : Value} {f28 : Addr} {od28 an28 : Option Addr} {sl28 : Array (Option Value)} {oc28 kV28 dc28 pm28 cd28 ct28 : Value} {f29 : Addr} {od29 an29 : Option Addr} {sl29 : Array (Option Value)} {oc29 kV29 dc29 pm29 cd29 ct29 : Value} {f30 : Addr} {od30 an30 : Option Addr} {sl30 : Array (Option Value)} {oc30 kV30 dc30 pm30 cd30 ct30 : Value} {f31 : Addr} {od31 an31 : Option Addr} {sl31 : Array (Option Value)} {oc31 kV31 dc31 pm31 cd31 ct31 : Value} {f32 : Addr} {od32 an32 : Option Addr} {sl32 : Array (Option Value)} {oc32 kV32 dc32 pm32 cd32 ct32 : Value} {f33 : Addr} {od33 an33 : Option Addr} {sl33 : Array (Option Value)} {oc33 kV33 dc33 pm33 cd33 ct33 : Value} {f34 : Addr} {od34 an34 : Option Addr} {sl34 : Array (Option Value)} {oc34 kV34 dc34 pm34 cd34 ct34 : Value} {odI anI : Option Addr} {slI : Array (Option Value)} {ocI kVI dcI pmI ctI : Value} {nm q : Str} {N : Addr} {bs : List Value} {sn : List Str} {sub : List Value} {ab : Bool} {col : Option Bool} {dd : Option Addr} {m0 m1 m2 m3 m5 : Option Value} {ccl : Value} {cdd : Option Addr} {cvs : Array Value} {ccs : Array (Option Value)} {file : Str} {tf : Tok} {cl2 : Value} {cld : Option Addr} {csl : Array (Option Value)} {tg1 tg2 tg3 tg4 tg5 tg6 : Tok} (hfa : mg "law" = some (.ref fa))
    (a0 : PySem.W.nsIn K mainGlobals "is_whole" = some (some (.ref f0)))
    (l0 : K.lookup f0 = some ⟨oc0, od0, .func (PySem.W.fnOf "is_whole" "is_whole" (defArgs sWhole) (defBody sWhole) (defScope sWhole) .none kV0 dc0 pm0 an0 cd0 ct0), sl0⟩)
    (c0 : PySem.W.codeIn K cd0 "is_whole" = true)
    (k0 : PySem.W.keepIn K (.ref f0) = true)
    (a1 : PySem.W.nsIn K mainGlobals "is_row" = some (some (.ref f1)))
    (l1 : K.lookup f1 = some ⟨oc1, od1, .func (PySem.W.fnOf "is_row" "is_row" (defArgs sRow) (defBody sRow) (defScope sRow) .none kV1 dc1 pm1 an1 cd1 ct1), sl1⟩)
    (c1 : PySem.W.codeIn K cd1 "is_row" = true)
    (k1 : PySem.W.keepIn K (.ref f1) = true)
    (a2 : PySem.W.nsIn K mainGlobals "is_sign" = some (some (.ref f2)))
    (l2 : K.lookup f2 = some ⟨oc2, od2, .func (PySem.W.fnOf "is_sign" "is_sign" (defArgs sSign) (defBody sSign) (defScope sSign) .none kV2 dc2 pm2 an2 cd2 ct2), sl2⟩)
    (c2 : PySem.W.codeIn K cd2 "is_sign" = true)
    (k2 : PySem.W.keepIn K (.ref f2) = true)
    (a3 : PySem.W.nsIn K mainGlobals "is_word_pair" = some (some (.ref f3)))
    (l3 : K.lookup f3 = some ⟨oc3, od3, .func (PySem.W.fnOf "is_word_pair" "is_word_pair" (defArgs sPair) (defBody sPair) (defScope sPair) .none kV3 dc3 pm3 an3 cd3 ct3), sl3⟩)
    (c3 : PySem.W.codeIn K cd3 "is_word_pair" = true)
    (k3 : PySem.W.keepIn K (.ref f3) = true)
    (a4 : PySem.W.nsIn K mainGlobals "are_words" = some (some (.ref f4)))
    (l4 : K.lookup f4 = some ⟨oc4, od4, .func (PySem.W.fnOf "are_words" "are_words" (defArgs sWords) (defBody sWords) (defScope sWords) .none kV4 dc4 pm4 an4 cd4 ct4), sl4⟩)
    (c4 : PySem.W.codeIn K cd4 "are_words" = true)
    (k4 : PySem.W.keepIn K (.ref f4) = true)
    (a5 : PySem.W.nsIn K mainGlobals "need_book" = some (some (.ref f5)))
    (l5 : K.lookup f5 = some ⟨oc5, od5, .func (PySem.W.fnOf "need_book" "need_book" (defArgs sNeed) (defBody sNeed) (defScope sNeed) .none kV5 dc5 pm5 an5 cd5 ct5), sl5⟩)
    (c5 : PySem.W.codeIn K cd5 "need_book" = true)
    (k5 : PySem.W.keepIn K (.ref f5) = true)
    (a6 : PySem.W.nsIn K mainGlobals "words_of" = some (some (.ref f6)))
    (l6 : K.lookup f6 = some ⟨oc6, od6, .func (PySem.W.fnOf "words_of" "words_of" (defArgs sWordsOf) (defBody sWordsOf) (defScope sWordsOf) .none kV6 dc6 pm6 an6 cd6 ct6), sl6⟩)
    (c6 : PySem.W.codeIn K cd6 "words_of" = true)
    (k6 : PySem.W.keepIn K (.ref f6) = true)
    (a7 : PySem.W.nsIn K mainGlobals "need_sign_text" = some (some (.ref f7)))
    (l7 : K.lookup f7 = some ⟨oc7, od7, .func (PySem.W.fnOf "need_sign_text" "need_sign_text" (defArgs sNeedText) (defBody sNeedText) (defScope sNeedText) .none kV7 dc7 pm7 an7 cd7 ct7), sl7⟩)
    (c7 : PySem.W.codeIn K cd7 "need_sign_text" = true)
    (k7 : PySem.W.keepIn K (.ref f7) = true)
    (a8 : PySem.W.nsIn K mainGlobals "bars_of" = some (some (.ref f8)))
    (l8 : K.lookup f8 = some ⟨oc8, od8, .func (PySem.W.fnOf "bars_of" "bars_of" (defArgs sBarsOf) (defBody sBarsOf) (defScope sBarsOf) .none kV8 dc8 pm8 an8 cd8 ct8), sl8⟩)
    (c8 : PySem.W.codeIn K cd8 "bars_of" = true)
    (k8 : PySem.W.keepIn K (.ref f8) = true)
    (a9 : PySem.W.nsIn K mainGlobals "bars" = some (some (.ref f9)))
    (l9 : K.lookup f9 = some ⟨oc9, od9, .func (PySem.W.fnOf "bars" "bars" (defArgs sBars) (defBody sBars) (defScope sBars) .none kV9 dc9 pm9 an9 cd9 ct9), sl9⟩)
    (c9 : PySem.W.codeIn K cd9 "bars" = true)
    (k9 : PySem.W.keepIn K (.ref f9) = true)
    (a10 : PySem.W.nsIn K mainGlobals "text_of" = some (some (.ref f10)))
    (l10 : K.lookup f10 = some ⟨oc10, od10, .func (PySem.W.fnOf "text_of" "text_of" (defArgs sTextOf) (defBody sTextOf) (defScope sTextOf) .none kV10 dc10 pm10 an10 cd10 ct10), sl10⟩)
    (c10 : PySem.W.codeIn K cd10 "text_of" = true)
    (k10 : PySem.W.keepIn K (.ref f10) = true)
    (a11 : PySem.W.nsIn K mainGlobals "reading" = some (some (.ref f11)))
    (l11 : K.lookup f11 = some ⟨oc11, od11, .func (PySem.W.fnOf "reading" "reading" (defArgs sReading) (defBody sReading) (defScope sReading) .none kV11 dc11 pm11 an11 cd11 ct11), sl11⟩)
    (c11 : PySem.W.codeIn K cd11 "reading" = true)
    (k11 : PySem.W.keepIn K (.ref f11) = true)
    (a12 : PySem.W.nsIn K mainGlobals "turned" = some (some (.ref f12)))
    (l12 : K.lookup f12 = some ⟨oc12, od12, .func (PySem.W.fnOf "turned" "turned" (defArgs sTurned) (defBody sTurned) (defScope sTurned) .none kV12 dc12 pm12 an12 cd12 ct12), sl12⟩)
    (c12 : PySem.W.codeIn K cd12 "turned" = true)
    (k12 : PySem.W.keepIn K (.ref f12) = true)
    (a13 : PySem.W.nsIn K mainGlobals "pending_of" = some (some (.ref f13)))
    (l13 : K.lookup f13 = some ⟨oc13, od13, .func (PySem.W.fnOf "pending_of" "pending_of" (defArgs sPend) (defBody sPend) (defScope sPend) .none kV13 dc13 pm13 an13 cd13 ct13), sl13⟩)
    (c13 : PySem.W.codeIn K cd13 "pending_of" = true)
    (k13 : PySem.W.keepIn K (.ref f13) = true)
    (a14 : PySem.W.nsIn K mainGlobals "grown" = some (some (.ref f14)))
    (l14 : K.lookup f14 = some ⟨oc14, od14, .func (PySem.W.fnOf "grown" "grown" (defArgs sGrown) (defBody sGrown) (defScope sGrown) .none kV14 dc14 pm14 an14 cd14 ct14), sl14⟩)
    (c14 : PySem.W.codeIn K cd14 "grown" = true)
    (k14 : PySem.W.keepIn K (.ref f14) = true)
    (a15 : PySem.W.nsIn K mainGlobals "next_pendings" = some (some (.ref f15)))
    (l15 : K.lookup f15 = some ⟨oc15, od15, .func (PySem.W.fnOf "next_pendings" "next_pendings" (defArgs sNexts) (defBody sNexts) (defScope sNexts) .none kV15 dc15 pm15 an15 cd15 ct15), sl15⟩)
    (c15 : PySem.W.codeIn K cd15 "next_pendings" = true)
    (k15 : PySem.W.keepIn K (.ref f15) = true)
    (a16 : PySem.W.nsIn K mainGlobals "is_end" = some (some (.ref f16)))
    (l16 : K.lookup f16 = some ⟨oc16, od16, .func (PySem.W.fnOf "is_end" "is_end" (defArgs sIsEnd) (defBody sIsEnd) (defScope sIsEnd) .none kV16 dc16 pm16 an16 cd16 ct16), sl16⟩)
    (c16 : PySem.W.codeIn K cd16 "is_end" = true)
    (k16 : PySem.W.keepIn K (.ref f16) = true)
    (a17 : PySem.W.nsIn K mainGlobals "searched" = some (some (.ref f17)))
    (l17 : K.lookup f17 = some ⟨oc17, od17, .func (PySem.W.fnOf "searched" "searched" (defArgs sSearched) (defBody sSearched) (defScope sSearched) .none kV17 dc17 pm17 an17 cd17 ct17), sl17⟩)
    (c17 : PySem.W.codeIn K cd17 "searched" = true)
    (k17 : PySem.W.keepIn K (.ref f17) = true)
    (a18 : PySem.W.nsIn K mainGlobals "book_paper" = some (some (.ref f18)))
    (l18 : K.lookup f18 = some ⟨oc18, od18, .func (PySem.W.fnOf "book_paper" "book_paper" (defArgs sPaper) (defBody sPaper) (defScope sPaper) .none kV18 dc18 pm18 an18 cd18 ct18), sl18⟩)
    (c18 : PySem.W.codeIn K cd18 "book_paper" = true)
    (k18 : PySem.W.keepIn K (.ref f18) = true)
    (a19 : PySem.W.nsIn K mainGlobals "is_pending" = some (some (.ref f19)))
    (l19 : K.lookup f19 = some ⟨oc19, od19, .func (PySem.W.fnOf "is_pending" "is_pending" (defArgs sIsPend) (defBody sIsPend) (defScope sIsPend) .none kV19 dc19 pm19 an19 cd19 ct19), sl19⟩)
    (c19 : PySem.W.codeIn K cd19 "is_pending" = true)
    (k19 : PySem.W.keepIn K (.ref f19) = true)
    (a20 : PySem.W.nsIn K mainGlobals "does_turn" = some (some (.ref f20)))
    (l20 : K.lookup f20 = some ⟨oc20, od20, .func (PySem.W.fnOf "does_turn" "does_turn" (defArgs sDoes) (defBody sDoes) (defScope sDoes) .none kV20 dc20 pm20 an20 cd20 ct20), sl20⟩)
    (c20 : PySem.W.codeIn K cd20 "does_turn" = true)
    (k20 : PySem.W.keepIn K (.ref f20) = true)
    (a21 : PySem.W.nsIn K mainGlobals "is_safe" = some (some (.ref f21)))
    (l21 : K.lookup f21 = some ⟨oc21, od21, .func (PySem.W.fnOf "is_safe" "is_safe" (defArgs sSafe) (defBody sSafe) (defScope sSafe) .none kV21 dc21 pm21 an21 cd21 ct21), sl21⟩)
    (c21 : PySem.W.codeIn K cd21 "is_safe" = true)
    (k21 : PySem.W.keepIn K (.ref f21) = true)
    (a22 : PySem.W.nsIn K mainGlobals "check_book" = some (some (.ref f22)))
    (l22 : K.lookup f22 = some ⟨oc22, od22, .func (PySem.W.fnOf "check_book" "check_book" (defArgs sCheck) (defBody sCheck) (defScope sCheck) .none kV22 dc22 pm22 an22 cd22 ct22), sl22⟩)
    (c22 : PySem.W.codeIn K cd22 "check_book" = true)
    (k22 : PySem.W.keepIn K (.ref f22) = true)
    (a23 : PySem.W.nsIn K mainGlobals "_law_mix" = some (some (.ref f23)))
    (l23 : K.lookup f23 = some ⟨oc23, od23, .func (PySem.W.fnOf "_law_mix" "_law_mix" (defArgs sMix) (defBody sMix) (defScope sMix) .none kV23 dc23 pm23 an23 cd23 ct23), sl23⟩)
    (c23 : PySem.W.codeIn K cd23 "_law_mix" = true)
    (k23 : PySem.W.keepIn K (.ref f23) = true)
    (a24 : PySem.W.nsIn K mainGlobals "_law_begun" = some (some (.ref f24)))
    (l24 : K.lookup f24 = some ⟨oc24, od24, .func (PySem.W.fnOf "_law_begun" "_law_begun" (defArgs sBegun) (defBody sBegun) (defScope sBegun) .none kV24 dc24 pm24 an24 cd24 ct24), sl24⟩)
    (c24 : PySem.W.codeIn K cd24 "_law_begun" = true)
    (k24 : PySem.W.keepIn K (.ref f24) = true)
    (a25 : PySem.W.nsIn K mainGlobals "_law_draw" = some (some (.ref f25)))
    (l25 : K.lookup f25 = some ⟨oc25, od25, .func (PySem.W.fnOf "_law_draw" "_law_draw" (defArgs sDraw) (defBody sDraw) (defScope sDraw) .none kV25 dc25 pm25 an25 cd25 ct25), sl25⟩)
    (c25 : PySem.W.codeIn K cd25 "_law_draw" = true)
    (k25 : PySem.W.keepIn K (.ref f25) = true)
    (a26 : PySem.W.nsIn K mainGlobals "_law_book" = some (some (.ref f26)))
    (l26 : K.lookup f26 = some ⟨oc26, od26, .func (PySem.W.fnOf "_law_book" "_law_book" (defArgs sBook) (defBody sBook) (defScope sBook) .none kV26 dc26 pm26 an26 cd26 ct26), sl26⟩)
    (c26 : PySem.W.codeIn K cd26 "_law_book" = true)
    (k26 : PySem.W.keepIn K (.ref f26) = true)
    (a27 : PySem.W.nsIn K mainGlobals "_law_modules" = some (some (.ref f27)))
    (l27 : K.lookup f27 = some ⟨oc27, od27, .func (PySem.W.fnOf "_law_modules" "_law_modules" (defArgs sModules) (defBody sModules) (defScope sModules) .none kV27 dc27 pm27 an27 cd27 ct27), sl27⟩)
    (c27 : PySem.W.codeIn K cd27 "_law_modules" = true)
    (k27 : PySem.W.keepIn K (.ref f27) = true)
    (a28 : PySem.W.nsIn K mainGlobals "_law_texts" = some (some (.ref f28)))
    (l28 : K.lookup f28 = some ⟨oc28, od28, .func (PySem.W.fnOf "_law_texts" "_law_texts" (defArgs sTexts) (defBody sTexts) (defScope sTexts) .none kV28 dc28 pm28 an28 cd28 ct28), sl28⟩)
    (c28 : PySem.W.codeIn K cd28 "_law_texts" = true)
    (k28 : PySem.W.keepIn K (.ref f28) = true)
    (a29 : PySem.W.nsIn K mainGlobals "_law_reading" = some (some (.ref f29)))
    (l29 : K.lookup f29 = some ⟨oc29, od29, .func (PySem.W.fnOf "_law_reading" "_law_reading" (defArgs sLReading) (defBody sLReading) (defScope sLReading) .none kV29 dc29 pm29 an29 cd29 ct29), sl29⟩)
    (c29 : PySem.W.codeIn K cd29 "_law_reading" = true)
    (k29 : PySem.W.keepIn K (.ref f29) = true)
    (a30 : PySem.W.nsIn K mainGlobals "_law_rest" = some (some (.ref f30)))
    (l30 : K.lookup f30 = some ⟨oc30, od30, .func (PySem.W.fnOf "_law_rest" "_law_rest" (defArgs sRest) (defBody sRest) (defScope sRest) .none kV30 dc30 pm30 an30 cd30 ct30), sl30⟩)
    (c30 : PySem.W.codeIn K cd30 "_law_rest" = true)
    (k30 : PySem.W.keepIn K (.ref f30) = true)
    (a31 : PySem.W.nsIn K mainGlobals "_law_fewest" = some (some (.ref f31)))
    (l31 : K.lookup f31 = some ⟨oc31, od31, .func (PySem.W.fnOf "_law_fewest" "_law_fewest" (defArgs sFewest) (defBody sFewest) (defScope sFewest) .none kV31 dc31 pm31 an31 cd31 ct31), sl31⟩)
    (c31 : PySem.W.codeIn K cd31 "_law_fewest" = true)
    (k31 : PySem.W.keepIn K (.ref f31) = true)
    (a32 : PySem.W.nsIn K mainGlobals "_law_refused" = some (some (.ref f32)))
    (l32 : K.lookup f32 = some ⟨oc32, od32, .func (PySem.W.fnOf "_law_refused" "_law_refused" (defArgs sRefused) (defBody sRefused) (defScope sRefused) .none kV32 dc32 pm32 an32 cd32 ct32), sl32⟩)
    (c32 : PySem.W.codeIn K cd32 "_law_refused" = true)
    (k32 : PySem.W.keepIn K (.ref f32) = true)
    (a33 : PySem.W.nsIn K mainGlobals "_law_right" = some (some (.ref f33)))
    (l33 : K.lookup f33 = some ⟨oc33, od33, .func (PySem.W.fnOf "_law_right" "_law_right" (defArgs sRight) (defBody sRight) (defScope sRight) .none kV33 dc33 pm33 an33 cd33 ct33), sl33⟩)
    (c33 : PySem.W.codeIn K cd33 "_law_right" = true)
    (k33 : PySem.W.keepIn K (.ref f33) = true)
    (a34 : PySem.W.nsIn K mainGlobals "law" = some (some (.ref f34)))
    (l34 : K.lookup f34 = some ⟨oc34, od34, .func (PySem.W.fnOf "law" "law" (defArgs sLaw) (defBody sLaw) (defScope sLaw) .none kV34 dc34 pm34 an34 cd34 ct34), sl34⟩)
    (c34 : PySem.W.codeIn K cd34 "law" = true)
    (k34 : PySem.W.keepIn K (.ref f34) = true)
    (z_isinstance : PySem.W.nsIn K mainGlobals "isinstance" = some none)
    (z_str : PySem.W.nsIn K mainGlobals "str" = some none)
    (z_int : PySem.W.nsIn K mainGlobals "int" = some none)
    (z_bool : PySem.W.nsIn K mainGlobals "bool" = some none)
    (z_tuple : PySem.W.nsIn K mainGlobals "tuple" = some none)
    (z_len : PySem.W.nsIn K mainGlobals "len" = some none)
    (z_all : PySem.W.nsIn K mainGlobals "all" = some none)
    (z_range : PySem.W.nsIn K mainGlobals "range" = some none)
    (z_sorted : PySem.W.nsIn K mainGlobals "sorted" = some none)
    (z_list : PySem.W.nsIn K mainGlobals "list" = some none)
    (z_zip : PySem.W.nsIn K mainGlobals "zip" = some none)
    (z_min : PySem.W.nsIn K mainGlobals "min" = some none)
    (z_dict : PySem.W.nsIn K mainGlobals "dict" = some none)
    (z_repr : PySem.W.nsIn K mainGlobals "repr" = some none)
    (z_super : PySem.W.nsIn K mainGlobals "super" = some none)
    (g1 : PySem.W.nsIn K mainGlobals "MODULES" = some (some (.str "01" tg1)))
    (g2 : PySem.W.nsIn K mainGlobals "SIGNS" = some (some (.str "0123456789ABCDEFGHIJKLMNOPQRSTUVWXYZ" tg2)))
    (g3 : PySem.W.nsIn K mainGlobals "MOST_MODULES" = some (some (.int 12 tg3)))
    (g4 : PySem.W.nsIn K mainGlobals "MOST_WORDS" = some (some (.int 36 tg4)))
    (g5 : PySem.W.nsIn K mainGlobals "TURNS" = some (some (.str "turns" tg5)))
    (g6 : PySem.W.nsIn K mainGlobals "SAFE" = some (some (.str "safe" tg6)))
    (xg : PySem.W.nsIn K mainGlobals "BadPaper" = some (some (.ref C)))
    (xL : K.lookup C = some (PySem.excClassObj nm q C N bs [.type "ValueError", .type "Exception", .type "BaseException", .type "object"] true sn sub ab col dd m0 m1 m2 m3 m5 "ValueError.__new__"))
    (xsa : PySem.W.findIn K (.ref C) "__setattr__" = some (some (.builtin "object.__setattr__")))
    (xga : PySem.W.findIn K (.ref C) "__getattribute__" = some (some (.builtin "BaseException.__getattribute__")))
    (xgg : PySem.W.findIn K (.ref C) "__getattr__" = some none)
    (xno : PySem.W.findIn K (.ref C) "part" = some none)
    (xi : PySem.W.findIn K (.ref C) "__init__" = some (some (.ref fI)))
    (xt : PySem.W.typeIn K (.ref fI) = some (.type "function"))
    (xk : PySem.W.keepIn K (.ref C) = true)
    (xe : PySem.W.subIn K (.ref C) (.type "BaseException") = some true)
    (xv : PySem.W.subIn K (.ref C) (.type "ValueError") = some true)
    (xty : PySem.W.typeIn K (.ref C) = some (.type "type"))
    (xh : PySem.W.hasDictIn K C = true)
    (xic : PySem.W.isClsIn K C = true)
    (xs : PySem.W.subIn K (.ref C) (.ref C) = some true)
    (xth : PySem.W.nsIn K cStatics "thirdparty.any" = some none)
    (xal : PySem.W.ks_superIn K C C "__init__" = some (some (.builtin "ValueError.__init__")))
    (xm : PySem.W.mroIn K C (.ref C) = some true)
    (xf : K.lookup fI = some ⟨ocI, odI, .func (PySem.W.ksFn "__init__" "BadPaper.__init__" (defArgs sInit) (defBody sInit) (defScope sInit) .none kVI dcI pmI anI (.ref cdaI) ctI ccI), slI⟩)
    (xc : PySem.W.codeIn K (.ref cdaI) "BadPaper.__init__" = true)
    (xd : K.lookup cdaI = some ⟨ccl, cdd, .fields cvs, ccs⟩)
    (xv2 : cvs[2]? = some (.str file tf))
    (xfi : ((P.main.file : Str) == file) = true)
    (xce : K.lookup ccI = some ⟨cl2, cld, .cell (some (.ref C)), csl⟩)
    (xtop : (P.main.scope.names.lookup ("super" : Str)).isSome = false) :
    ∃ fd : FuncData, (∀ (s : Shared) (v : Value), BindsTo s fd ⟨[v], []⟩ [("_law_script", v)]) ∧ ∀ base : Heap, K.In base → base.Ns mainGlobals mg → FnOk P w K mg base CX0 8 fa fd ["_law_script"] (spLaw K) := by
  have e := hfa.symm.trans (PySem.W.mg_of X G a34)
  cases e
  have TB : PySem.BpX.BpTxt P K mg C fI :=
    { gC := PySem.W.mg_of X G xg, cls := ⟨nm, q, N, bs, _, sn, sub, ab, col, dd, m0, m1, m2, m3, m5, xL, by decide +kernel⟩, sa := xsa, ga := xga, gg := xgg, noN := xno, iC := xi, tC := xt, kC := xk, exC := xe, veC := xv, tyC := xty, hdC := xh, te := exm_self xe xic xty xs,
      su := z_super, th := xth, al := xal, ss := xm, fn := ⟨_, _, _, _, _, _, _, _, _, _, xf, xc, ⟨_, _, _, _, _, _, xd, xv2, xfi⟩, ⟨_, _, _, xce⟩⟩, top := xtop }
  have T : Tx mg := ⟨⟨_, PySem.W.mg_of X G g1, ⟨_, rfl⟩⟩, ⟨_, PySem.W.mg_of X G g2, ⟨_, rfl⟩⟩, ⟨_, PySem.W.mg_of X G g3, ⟨_, rfl⟩⟩, ⟨_, PySem.W.mg_of X G g4, ⟨_, rfl⟩⟩, ⟨_, PySem.W.mg_of X G g5, ⟨_, rfl⟩⟩, ⟨_, PySem.W.mg_of X G g6, ⟨_, rfl⟩⟩,
    PySem.W.mg_none_of X G z_isinstance, PySem.W.mg_none_of X G z_str, PySem.W.mg_none_of X G z_int, PySem.W.mg_none_of X G z_bool, PySem.W.mg_none_of X G z_tuple, PySem.W.mg_none_of X G z_len, PySem.W.mg_none_of X G z_all, PySem.W.mg_none_of X G z_range, PySem.W.mg_none_of X G z_sorted, PySem.W.mg_none_of X G z_list, PySem.W.mg_none_of X G z_zip, PySem.W.mg_none_of X G z_min, PySem.W.mg_none_of X G z_dict, PySem.W.mg_none_of X G z_repr⟩
  have D : Defs K mg := ⟨df_mk X G a0 l0 c0 k0 fun _ _ _ _ _ _ us hl => match us, hl with | [_, _, _], _ => rfl,
    df_mk X G a1 l1 c1 k1 fun _ _ _ _ _ _ us hl => match us, hl with | [_, _, _], _ => rfl,
    df_mk X G a2 l2 c2 k2 fun _ _ _ _ _ _ us hl => match us, hl with | [_], _ => rfl,
    df_mk X G a3 l3 c3 k3 fun _ _ _ _ _ _ us hl => match us, hl with | [_], _ => rfl,
    df_mk X G a4 l4 c4 k4 fun _ _ _ _ _ _ us hl => match us, hl with | [_], _ => rfl,
    df_mk X G a5 l5 c5 k5 fun _ _ _ _ _ _ us hl => match us, hl with | [_], _ => rfl,
    df_mk X G a6 l6 c6 k6 fun _ _ _ _ _ _ us hl => match us, hl with | [_], _ => rfl,
    df_mk X G a7 l7 c7 k7 fun _ _ _ _ _ _ us hl => match us, hl with | [_, _], _ => rfl,
    df_mk X G a8 l8 c8 k8 fun _ _ _ _ _ _ us hl => match us, hl with | [_, _], _ => rfl,
    df_mk X G a9 l9 c9 k9 fun _ _ _ _ _ _ us hl => match us, hl with | [_, _], _ => rfl,
    df_mk X G a10 l10 c10 k10 fun _ _ _ _ _ _ us hl => match us, hl with | [_, _], _ => rfl,
    df_mk X G a11 l11 c11 k11 fun _ _ _ _ _ _ us hl => match us, hl with | [_, _], _ => rfl,
    df_mk X G a12 l12 c12 k12 fun _ _ _ _ _ _ us hl => match us, hl with | [_, _], _ => rfl,
    df_mk X G a13 l13 c13 k13 fun _ _ _ _ _ _ us hl => match us, hl with | [_, _], _ => rfl,
    df_mk X G a14 l14 c14 k14 fun _ _ _ _ _ _ us hl => match us, hl with | [_, _, _], _ => rfl,
    df_mk X G a15 l15 c15 k15 fun _ _ _ _ _ _ us hl => match us, hl with | [_, _], _ => rfl,
    df_mk X G a16 l16 c16 k16 fun _ _ _ _ _ _ us hl => match us, hl with | [_, _], _ => rfl,
    df_mk X G a17 l17 c17 k17 fun _ _ _ _ _ _ us hl => match us, hl with | [_], _ => rfl,
    df_mk X G a18 l18 c18 k18 fun _ _ _ _ _ _ us hl => match us, hl with | [_], _ => rfl,
    df_mk X G a19 l19 c19 k19 fun _ _ _ _ _ _ us hl => match us, hl with | [_], _ => rfl,
    df_mk X G a20 l20 c20 k20 fun _ _ _ _ _ _ us hl => match us, hl with | [_, _], _ => rfl,
    df_mk X G a21 l21 c21 k21 fun _ _ _ _ _ _ us hl => match us, hl with | [_, _], _ => rfl,
    df_mk X G a22 l22 c22 k22 fun _ _ _ _ _ _ us hl => match us, hl with | [_, _], _ => rfl,
    df_mk X G a23 l23 c23 k23 fun _ _ _ _ _ _ us hl => match us, hl with | [_, _], _ => rfl,
    df_mk X G a24 l24 c24 k24 fun _ _ _ _ _ _ us hl => match us, hl with | [_], _ => rfl,
    df_mk X G a25 l25 c25 k25 fun _ _ _ _ _ _ us hl => match us, hl with | [_, _], _ => rfl,
    df_mk X G a26 l26 c26 k26 fun _ _ _ _ _ _ us hl => match us, hl with | [_, _], _ => rfl,
    df_mk X G a27 l27 c27 k27 fun _ _ _ _ _ _ us hl => match us, hl with | [_, _], _ => rfl,
    df_mk X G a28 l28 c28 k28 fun _ _ _ _ _ _ us hl => match us, hl with | [_, _], _ => rfl,
    df_mk X G a29 l29 c29 k29 fun _ _ _ _ _ _ us hl => match us, hl with | [_, _], _ => rfl,
    df_mk X G a30 l30 c30 k30 fun _ _ _ _ _ _ us hl => match us, hl with | [_, _], _ => rfl,
    df_mk X G a31 l31 c31 k31 fun _ _ _ _ _ _ us hl => match us, hl with | [_], _ => rfl,
    df_mk X G a32 l32 c32 k32 fun _ _ _ _ _ _ us hl => match us, hl with | [_, _], _ => rfl,
    df_mk X G a33 l33 c33 k33 fun _ _ _ _ _ _ us hl => match us, hl with | [_], _ => rfl⟩
  exact ⟨_, fun s v => .of_eq rfl, fun base _ _ => law_all D T TB (PySem.W.mg_none_of X G z_super) (fun_mk (st := sLaw) l34 c34 k34)⟩
end
end K79W
set_option Elab.async false
set_option linter.all false
set_option maxRecDepth 100000
set_option maxHeartbeats 8000000
open PySem PySem.W PyProof.Rows
set_option maxHeartbeats 0 in
theorem PySem.Challenge.cw_labelhouse_k79_whole_bars_read_from_both_holds : PySem.Challenge.rw_labelhouse_k79_whole_bars_read_from_both.Holds := by
  w_on; o_law; k_head; (case hw => w_witness2)
  k_fill
  refine L2.walk_of (l := PySem.Challenge.rw_labelhouse_k79_whole_bars_read_from_both) (n := 63) (k := 8) (x := "_law_script") (CX := fun _ => L2.CX0) (sp := fun w => K79W.spLaw _) rfl (by decide) rfl ⟨rfl, by decide, by decide⟩ (fun w h Y => PySem.W.kIn_of Y) ?F (fun _ _ a ns hl _ hS => ⟨a, ns, rfl, hS, hl, fun _ => rfl⟩) (fun _ _ _ _ _ h => h)
  case F =>
    intro w mg fa h KX G hmg
    refine' K79W.all_mk KX G hmg ?a0 ?l0 ?c0 ?k0 ?a1 ?l1 ?c1 ?k1 ?a2 ?l2 ?c2 ?k2 ?a3 ?l3 ?c3 ?k3 ?a4 ?l4 ?c4 ?k4 ?a5 ?l5 ?c5 ?k5 ?a6 ?l6 ?c6 ?k6 ?a7 ?l7 ?c7 ?k7 ?a8 ?l8 ?c8 ?k8 ?a9 ?l9 ?c9 ?k9 ?a10 ?l10 ?c10 ?k10 ?a11 ?l11 ?c11 ?k11 ?a12 ?l12 ?c12 ?k12 ?a13 ?l13 ?c13 ?k13 ?a14 ?l14 ?c14 ?k14 ?a15 ?l15 ?c15 ?k15 ?a16 ?l16 ?c16 ?k16 ?a17 ?l17 ?c17 ?k17 ?a18 ?l18 ?c18 ?k18 ?a19 ?l19 ?c19 ?k19 ?a20 ?l20 ?c20 ?k20 ?a21 ?l21 ?c21 ?k21 ?a22 ?l22 ?c22 ?k22 ?a23 ?l23 ?c23 ?k23 ?a24 ?l24 ?c24 ?k24 ?a25 ?l25 ?c25 ?k25 ?a26 ?l26 ?c26 ?k26 ?a27 ?l27 ?c27 ?k27 ?a28 ?l28 ?c28 ?k28 ?a29 ?l29 ?c29 ?k29 ?a30 ?l30 ?c30 ?k30 ?a31 ?l31 ?c31 ?k31 ?a32 ?l32 ?c32 ?k32 ?a33 ?l33 ?c33 ?k33 ?a34 ?l34 ?c34 ?k34 ?z_isinstance ?z_str ?z_int ?z_bool ?z_tuple ?z_len ?z_all ?z_range ?z_sorted ?z_list ?z_zip ?z_min ?z_dict ?z_repr ?z_super ?g1 ?g2 ?g3 ?g4 ?g5 ?g6 ?xg ?xL ?xsa ?xga ?xgg ?xno ?xi ?xt ?xk ?xe ?xv ?xty ?xh ?xic ?xs ?xth ?xal ?xm ?xf ?xc ?xd ?xv2 ?xfi ?xce ?xtop
    (case a0 => k_is)
    (case l0 => k_is)
    (case c0 => k_is)
    (case k0 => k_is)
    (case a1 => k_is)
    (case l1 => k_is)
    (case c1 => k_is)
    (case k1 => k_is)
    (case a2 => k_is)
    (case l2 => k_is)
    (case c2 => k_is)
    (case k2 => k_is)
    (case a3 => k_is)
    (case l3 => k_is)
    (case c3 => k_is)
    (case k3 => k_is)
    (case a4 => k_is)
    (case l4 => k_is)
    (case c4 => k_is)
    (case k4 => k_is)
    (case a5 => k_is)
    (case l5 => k_is)
    (case c5 => k_is)
    (case k5 => k_is)
    (case a6 => k_is)
    (case l6 => k_is)
    (case c6 => k_is)
    (case k6 => k_is)
    (case a7 => k_is)
    (case l7 => k_is)
    (case c7 => k_is)
    (case k7 => k_is)
    (case a8 => k_is)
    (case l8 => k_is)
    (case c8 => k_is)
    (case k8 => k_is)
    (case a9 => k_is)
    (case l9 => k_is)
    (case c9 => k_is)
    (case k9 => k_is)
    (case a10 => k_is)
    (case l10 => k_is)
    (case c10 => k_is)
    (case k10 => k_is)
    (case a11 => k_is)
    (case l11 => k_is)
    (case c11 => k_is)
    (case k11 => k_is)
    (case a12 => k_is)
    (case l12 => k_is)
    (case c12 => k_is)
    (case k12 => k_is)
    (case a13 => k_is)
    (case l13 => k_is)
    (case c13 => k_is)
    (case k13 => k_is)
    (case a14 => k_is)
    (case l14 => k_is)
    (case c14 => k_is)
    (case k14 => k_is)
    (case a15 => k_is)
    (case l15 => k_is)
    (case c15 => k_is)
    (case k15 => k_is)
    (case a16 => k_is)
    (case l16 => k_is)
    (case c16 => k_is)
    (case k16 => k_is)
    (case a17 => k_is)
    (case l17 => k_is)
    (case c17 => k_is)
    (case k17 => k_is)
    (case a18 => k_is)
    (case l18 => k_is)
    (case c18 => k_is)
    (case k18 => k_is)
    (case a19 => k_is)
    (case l19 => k_is)
    (case c19 => k_is)
    (case k19 => k_is)
    (case a20 => k_is)
    (case l20 => k_is)
    (case c20 => k_is)
    (case k20 => k_is)
    (case a21 => k_is)
    (case l21 => k_is)
    (case c21 => k_is)
    (case k21 => k_is)
    (case a22 => k_is)
    (case l22 => k_is)
    (case c22 => k_is)
    (case k22 => k_is)
    (case a23 => k_is)
    (case l23 => k_is)
    (case c23 => k_is)
    (case k23 => k_is)
    (case a24 => k_is)
    (case l24 => k_is)
    (case c24 => k_is)
    (case k24 => k_is)
    (case a25 => k_is)
    (case l25 => k_is)
    (case c25 => k_is)
    (case k25 => k_is)
    (case a26 => k_is)
    (case l26 => k_is)
    (case c26 => k_is)
    (case k26 => k_is)
    (case a27 => k_is)
    (case l27 => k_is)
    (case c27 => k_is)
    (case k27 => k_is)
    (case a28 => k_is)
    (case l28 => k_is)
    (case c28 => k_is)
    (case k28 => k_is)
    (case a29 => k_is)
    (case l29 => k_is)
    (case c29 => k_is)
    (case k29 => k_is)
    (case a30 => k_is)
    (case l30 => k_is)
    (case c30 => k_is)
    (case k30 => k_is)
    (case a31 => k_is)
    (case l31 => k_is)
    (case c31 => k_is)
    (case k31 => k_is)
    (case a32 => k_is)
    (case l32 => k_is)
    (case c32 => k_is)
    (case k32 => k_is)
    (case a33 => k_is)
    (case l33 => k_is)
    (case c33 => k_is)
    (case k33 => k_is)
    (case a34 => k_is)
    (case l34 => k_is)
    (case c34 => k_is)
    (case k34 => k_is)
    (case z_isinstance => k_is)
    (case z_str => k_is)
    (case z_int => k_is)
    (case z_bool => k_is)
    (case z_tuple => k_is)
    (case z_len => k_is)
    (case z_all => k_is)
    (case z_range => k_is)
    (case z_sorted => k_is)
    (case z_list => k_is)
    (case z_zip => k_is)
    (case z_min => k_is)
    (case z_dict => k_is)
    (case z_repr => k_is)
    (case z_super => k_is)
    (case g1 => k_is)
    (case g2 => k_is)
    (case g3 => k_is)
    (case g4 => k_is)
    (case g5 => k_is)
    (case g6 => k_is)
    (case xg => k_is)
    (case xL => k_is)
    (case xsa => k_is)
    (case xga => k_is)
    (case xgg => k_is)
    (case xno => k_is)
    (case xi => k_is)
    (case xt => k_is)
    (case xk => k_is)
    (case xe => k_is)
    (case xv => k_is)
    (case xty => k_is)
    (case xh => k_is)
    (case xic => k_is)
    (case xs => k_is)
    (case xth => k_is)
    (case xal => first | ks_is | k_is)
    (case xm => k_is)
    (case xf => k_is)
    (case xc => k_is)
    (case xd => k_is)
    (case xv2 => first | rfl | k_is)
    (case xfi => first | decide +kernel | k_is)
    (case xce => k_is)
    (case xtop => first | decide +kernel | k_is)
