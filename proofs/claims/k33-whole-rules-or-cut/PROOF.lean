import PyProof.Rows.All
import Wide.All
import OpenK.AllK
import Wide.FinOn
import HandS.ForMost
import HandS.Exc
import HandS.Deep
import HandS.TupAny
import HandS.TupLe
import HandS.Style
import HandS.Conv
import HandS.IsInst
import HandS.More
import KE.DataCmp
import KE.GoesEnum
import HandS.Words
import PySem.Challenge.RW_fittingpasts_k33_whole_rules_or_cut
set_option Elab.async false
set_option linter.all false
set_option maxRecDepth 100000
set_option maxHeartbeats 4000000
namespace Ab
open PySem PySem.Spec PyProof.Rows L2

/-! ### data -/
inductive D where
  | non | bl (b : Bool) | int (i : Int) | tup (xs : List D) | lst (xs : List D) | rule (t : D) | cut (t : D) | scr (ns : List Int)
structure Cl where
  CR : Addr
  CS : Addr
structure Kx where
  K : PySem.W.Frag
  c : Cl
mutual
inductive Rep (k : Kx) (G : Hp) : V → D → Prop
  | non : Rep k G .non .non
  | bl (b : Bool) : Rep k G (.bl b) (.bl b)
  | int (i : Int) : Rep k G (.int i) (.int i)
  | tup {a : Addr} {vs : List V} {ds : List D} (h : G a = some (.tup vs)) (r : Reps k G vs ds) : Rep k G (.ref a) (.tup ds)
  | lst {a : Addr} {vs : List V} {ds : List D} (h : G a = some (.lst vs)) (r : Reps k G vs ds) : Rep k G (.ref a) (.lst ds)
  | rule {a dx : Addr} {v : V} {t : D} (h : G a = some (.ins k.c.CR dx [(("terms" : Str), v)])) (r : Rep k G v t) : Rep k G (.ref a) (.rule t)
  | cut {a dx : Addr} {v : V} {t : D} (h : G a = some (.ins k.c.CS dx [(("rows" : Str), v)])) (r : Rep k G v t) : Rep k G (.ref a) (.cut t)
  | scr {a : Addr} {ns : List Int} (h : SqL k.K G a (ns.map V.int)) : Rep k G (.ref a) (.scr ns)
inductive Reps (k : Kx) (G : Hp) : List V → List D → Prop
  | nil : Reps k G [] []
  | cons {v : V} {d : D} {vs : List V} {ds : List D} (h : Rep k G v d) (t : Reps k G vs ds) : Reps k G (v :: vs) (d :: ds)
end
section
variable {k : Kx} {G G' H H' : Hp} {v w : V} {d e : D} {vs ws : List V} {ds es : List D}
mutual
theorem Rep.mono (e : Same G G') : ∀ {v : V} {d : D}, Rep k G v d → Rep k G' v d
  | _, _, .non => .non
  | _, _, .bl b => .bl b
  | _, _, .int i => .int i
  | _, _, .tup h r => .tup (e _ _ h) (Reps.mono e r)
  | _, _, .lst h r => .lst (e _ _ h) (Reps.mono e r)
  | _, _, .rule h r => .rule (e _ _ h) (Rep.mono e r)
  | _, _, .cut h r => .cut (e _ _ h) (Rep.mono e r)
  | _, _, .scr h => .scr (e.seq h)
theorem Reps.mono (e : Same G G') : ∀ {vs : List V} {ds : List D}, Reps k G vs ds → Reps k G' vs ds
  | _, _, .nil => .nil
  | _, _, .cons h t => .cons (Rep.mono e h) (Reps.mono e t)
end
theorem Reps.length : ∀ {vs : List V} {ds : List D}, Reps k G vs ds → vs.length = ds.length
  | _, _, .nil => rfl
  | _, _, .cons _ t => by rw [List.length_cons, List.length_cons, Reps.length t]
theorem Reps.get : ∀ {vs : List V} {ds : List D} {i : Nat} {v : V}, Reps k G vs ds → vs[i]? = some v → ∃ d, ds[i]? = some d ∧ Rep k G v d
  | _, _, _, _, .nil, h => by simp at h
  | _, _, 0, _, .cons h _, e => by simp at e; subst e; exact ⟨_, rfl, h⟩
  | _, _, i + 1, v, .cons _ t, e => by
    obtain ⟨d, h1, h2⟩ := Reps.get (i := i) (v := v) t (by simpa using e)
    exact ⟨d, by simpa using h1, h2⟩
theorem Reps.getD : ∀ {vs : List V} {ds : List D} {i : Nat} {d : D}, Reps k G vs ds → ds[i]? = some d → ∃ v, vs[i]? = some v ∧ Rep k G v d
  | _, _, _, _, .nil, h => by simp at h
  | _, _, 0, _, .cons h _, e => by simp at e; subst e; exact ⟨_, rfl, h⟩
  | _, _, i + 1, v, .cons _ t, e => by
    obtain ⟨d, h1, h2⟩ := Reps.getD (i := i) (d := v) t (by simpa using e)
    exact ⟨d, by simpa using h1, h2⟩
theorem Reps.append : ∀ {vs ws : List V} {ds es : List D}, Reps k G vs ds → Reps k G ws es → Reps k G (vs ++ ws) (ds ++ es)
  | _, _, _, _, .nil, s => s
  | _, _, _, _, .cons h t, s => .cons h (Reps.append t s)
theorem Reps.one (h : Rep k G v d) : Reps k G [v] [d] := .cons h .nil
theorem Reps.take : ∀ {vs : List V} {ds : List D} (n : Nat), Reps k G vs ds → Reps k G (vs.take n) (ds.take n)
  | _, _, 0, _ => .nil
  | _, _, _ + 1, .nil => .nil
  | _, _, n + 1, .cons r t => .cons r (Reps.take n t)
theorem Reps.drop : ∀ {vs : List V} {ds : List D} (n : Nat), Reps k G vs ds → Reps k G (vs.drop n) (ds.drop n)
  | _, _, 0, r => r
  | _, _, _ + 1, .nil => .nil
  | _, _, n + 1, .cons _ t => Reps.drop n t
theorem Reps.set (r : Rep k G v d) : ∀ {vs : List V} {ds : List D} (i : Nat), Reps k G vs ds → Reps k G (vs.set i v) (ds.set i d)
  | _, _, _, .nil => .nil
  | _, _, 0, .cons _ t => .cons r t
  | _, _, i + 1, .cons q t => .cons q (Reps.set r i t)
theorem Reps.eraseIdx : ∀ {vs : List V} {ds : List D} (i : Nat), Reps k G vs ds → Reps k G (vs.eraseIdx i) (ds.eraseIdx i)
  | _, _, _, .nil => .nil
  | _, _, 0, .cons _ t => t
  | _, _, i + 1, .cons r t => .cons r (Reps.eraseIdx i t)
theorem Reps.reverse : ∀ {vs : List V} {ds : List D}, Reps k G vs ds → Reps k G vs.reverse ds.reverse
  | _, _, .nil => .nil
  | _, _, .cons h t => by
    rw [List.reverse_cons, List.reverse_cons]
    exact Reps.append (Reps.reverse t) (Reps.one h)
theorem Reps.nil_iff (h : Reps k G vs ds) : vs = [] ↔ ds = [] := by
  cases h with
  | nil => simp
  | cons _ _ => simp
theorem Reps.nil' (h : Reps k G vs []) : vs = [] := h.nil_iff.mpr rfl
theorem Reps.ints : ∀ {ns : List Int} {vs : List V}, Reps k G vs (ns.map D.int) → vs = ns.map V.int
  | [], _, .nil => rfl
  | n :: ns, _, .cons h t => by
    cases h
    rw [List.map_cons, Reps.ints t]
end

/-! ### what is compared -/
mutual
def toPy : D → PyData
  | .non => .none
  | .bl b => .bool b
  | .int i => .int i
  | .tup xs => .tuple (toPys xs)
  | .lst xs => .list (toPys xs)
  | .rule _ => .none
  | .cut _ => .none
  | .scr ns => .list (ns.map PyData.int)
def toPys : List D → List PyData
  | [] => []
  | x :: r => toPy x :: toPys r
end
mutual
/-- no instance within -/
def pln : D → Bool
  | .rule _ => false
  | .cut _ => false
  | .tup xs => plns xs
  | .lst xs => plns xs
  | _ => true
def plns : List D → Bool
  | [] => true
  | x :: r => pln x && plns r
end
section
variable {k : Kx} {G G' H H' : Hp}
mutual
theorem Rep.dp (e : Same G H) : ∀ {v : V} {d : D}, pln d = true → Rep k G v d → Dp k.K H v (toPy d)
  | _, _, _, .non => .non
  | _, _, _, .bl b => .bl b
  | _, _, _, .int i => .int i
  | _, _, p, .tup h r => .tup (.inl (.inl (e _ _ h))) (Reps.dp e p r)
  | _, _, p, .lst h r => .lst (.inl (.inl (e _ _ h))) (Reps.dp e p r)
  | _, _, p, .rule _ _ => nomatch p
  | _, _, p, .cut _ _ => nomatch p
  | _, _, _, .scr h => .lst (e.seq h) (dpInts _)
theorem Reps.dp (e : Same G H) : ∀ {vs : List V} {ds : List D}, plns ds = true → Reps k G vs ds → DpAll k.K H vs (toPys ds)
  | _, _, _, .nil => .nil
  | _, _, p, .cons h t => by
    have p' := p
    unfold plns at p'
    rw [Bool.and_eq_true] at p'
    exact .cons (Rep.dp e p'.1 h) (Reps.dp e p'.2 t)
theorem dpInts : ∀ ns : List Int, DpAll k.K H (ns.map V.int) (ns.map PyData.int)
  | [] => .nil
  | n :: r => .cons (.int n) (dpInts r)
end
end
/-- data that == may be asked of -/
def cmpOk (d : D) : Bool := pln d && SeqAt.shaped (toPy d)
def eqD (d e : D) : Bool := PyData.eqv (toPy d) (toPy e)

/-! ### slots, the state, steps -/
inductive Slot where
  | un | da (d : D) | mu (l : Addr) (ds : List D) | ob (x C : Addr) (fs : List (Str × D))
abbrev Env := List Slot
def gs : Env → Nat → Slot
  | [], _ => .un
  | s :: _, 0 => s
  | _ :: r, i + 1 => gs r i
def ss : Env → Nat → Slot → Env
  | [], _, _ => []
  | _ :: r, 0, s => s :: r
  | t :: r, i + 1, s => t :: ss r i s
theorem gs_ss_same : ∀ {δ : Env} {i : Nat} {s : Slot}, gs (ss δ i s) i = s ∨ gs (ss δ i s) i = .un
  | [], _, _ => .inr rfl
  | _ :: _, 0, _ => .inl rfl
  | _ :: r, i + 1, s => gs_ss_same (δ := r) (i := i) (s := s)
theorem gs_ss_ne : ∀ {δ : Env} {i j : Nat} {s : Slot}, i ≠ j → gs (ss δ i s) j = gs δ j
  | [], _, _, _, _ => rfl
  | _ :: _, 0, 0, _, h => absurd rfl h
  | _ :: _, 0, j + 1, _, _ => rfl
  | _ :: _, i + 1, 0, _, _ => rfl
  | _ :: r, i + 1, j + 1, s, h => gs_ss_ne (δ := r) (i := i) (j := j) (s := s) fun e => h (by rw [e])
theorem ss_length : ∀ {δ : Env} {i : Nat} {s : Slot}, (ss δ i s).length = δ.length
  | [], _, _ => rfl
  | _ :: _, 0, _ => rfl
  | _ :: r, i + 1, s => by
    show (ss r i s).length + 1 = r.length + 1
    rw [ss_length]
theorem gs_len : ∀ {δ : Env} {i : Nat}, gs δ i ≠ .un → i < δ.length
  | [], _, h => absurd rfl h
  | _ :: _, 0, _ => Nat.succ_pos _
  | _ :: r, i + 1, h => Nat.succ_lt_succ (gs_len (δ := r) (i := i) h)
theorem gs_ss_get : ∀ {δ : Env} {i : Nat} {s : Slot}, i < δ.length → gs (ss δ i s) i = s
  | _ :: _, 0, _, _ => rfl
  | _ :: r, i + 1, s, h => gs_ss_get (δ := r) (i := i) (s := s) (Nat.lt_of_succ_lt_succ h)

inductive RepF (k : Kx) (G : Hp) : List (Str × V) → List (Str × D) → Prop
  | nil : RepF k G [] []
  | one {f : Str} {v : V} {d : D} (h : Rep k G v d) : RepF k G [(f, v)] [(f, d)]
theorem RepF.mono {k : Kx} {G G' : Hp} {fv : List (Str × V)} {fs : List (Str × D)} (e : Same G G') (h : RepF k G fv fs) : RepF k G' fv fs := by
  cases h with
  | nil => exact .nil
  | one h => exact .one (h.mono e)

def SlotOk (k : Kx) (G : Hp) (M : Addr → Prop) (H : Hp) (x : Option (Option V)) : Slot → Prop
  | .un => True
  | .da d => ∃ v, x = some (some v) ∧ Rep k G v d
  | .mu l ds => x = some (some (.ref l)) ∧ M l ∧ ∃ vs, H l = some (.lst vs) ∧ Reps k G vs ds
  | .ob a C fs => x = some (some (.ref a)) ∧ M a ∧ ∃ dx fv, H a = some (.ins C dx fv) ∧ RepF k G fv fs

structure Stt (k : Kx) (G : Hp) (M : Addr → Prop) (σ : L2.St) (H : Hp) (δ : Env) : Prop where
  ex : Same G H
  dis : ∀ a, M a → G a = none
  trk : ∀ a, M a → H a ≠ none
  len : σ.length = δ.length
  slot : ∀ i, SlotOk k G M H σ[i]? (gs δ i)
  ne : ∀ i j l ds m es, i ≠ j → gs δ i = .mu l ds → gs δ j = .mu m es → l ≠ m

structure Tr (G : Hp) (M : Addr → Prop) (H : Hp) (G' : Hp) (M' : Addr → Prop) (H' : Hp) : Prop where
  exG : Same G G'
  keep : ∀ a o, H a = some o → ¬ M a → H' a = some o
  old : ∀ a, G' a ≠ none → G a ≠ none ∨ M a ∨ H a = none
  own : ∀ a, M' a → M a ∨ H a = none
  up : ∀ a, H a ≠ none → H' a ≠ none

theorem ne_none {α : Type} {x : Option α} : x ≠ none ↔ ∃ o, x = some o := by
  cases x with
  | none => simp
  | some o => simp
section
variable {k : Kx} {G G' G1 G2 G3 H H' H1 H2 H3 : Hp} {M M' M1 M2 M3 : Addr → Prop} {σ σ' : L2.St} {δ δ' : Env}
theorem Tr.refl : Tr G M H G M H := ⟨Same.refl _, fun _ _ h _ => h, fun _ h => .inl h, fun _ h => .inl h, fun _ h => h⟩
theorem Tr.trans (a : Tr G1 M1 H1 G2 M2 H2) (b : Tr G2 M2 H2 G3 M3 H3) : Tr G1 M1 H1 G3 M3 H3 where
  exG := a.exG.trans b.exG
  keep := fun x o h n => b.keep x o (a.keep x o h n) fun m => by
    rcases a.own x m with m | m
    · exact n m
    · rw [h] at m; cases m
  old := fun x h => by
    rcases b.old x h with q | q | q
    · exact a.old x q
    · exact .inr (a.own x q)
    · cases e : H1 x with
      | none => exact .inr (.inr rfl)
      | some o =>
        by_cases n : M1 x
        · exact .inr (.inl n)
        · rw [a.keep x o e n] at q
          cases q
  own := fun x h => by
    rcases b.own x h with q | q
    · exact a.own x q
    · cases e : H1 x with
      | none => exact .inr rfl
      | some o =>
        by_cases n : M1 x
        · exact .inl n
        · rw [a.keep x o e n] at q
          cases q
  up := fun x h => b.up x (a.up x h)
/-- nothing that is known changes -/
structure Grow (G H G' H' : Hp) : Prop where
  g : Same G G'
  h : Same H H'
  gh : Same G' H'
  old : ∀ a, G' a ≠ none → G a ≠ none ∨ H a = none
theorem Grow.refl (e : Same G H) : Grow G H G H := ⟨Same.refl _, Same.refl _, e, fun _ h => .inl h⟩
theorem Grow.trans (a : Grow G1 H1 G2 H2) (b : Grow G2 H2 G3 H3) : Grow G1 H1 G3 H3 := ⟨a.g.trans b.g, a.h.trans b.h, b.gh, fun x h => by
  rcases b.old x h with q | q
  · exact a.old x q
  · exact .inr (a.h.free q)⟩
theorem Grow.new {p : Addr} {o : HO} (e : Same G H) (hp : H p = none) : Grow G H (upd G p o) (upd H p o) := by
  have gp : G p = none := e.free hp
  refine ⟨fun a u h => ?_, fun a u h => ?_, fun a u h => ?_, fun a h => ?_⟩
  · rw [upd_ne (ne_of_none h gp)]; exact h
  · rw [upd_ne (ne_of_none h hp)]; exact h
  · by_cases q : a = p
    · subst q; rw [upd_same] at h ⊢; exact h
    · rw [upd_ne q] at h ⊢; exact e a u h
  · by_cases q : a = p
    · subst q; exact .inr hp
    · rw [upd_ne q] at h; exact .inl h
theorem Grow.tr (g : Grow G H G' H') : Tr G M H G' M H' := ⟨g.g, fun a o h _ => g.h a o h, fun a h => (g.old a h).elim .inl fun q => .inr (.inr q), fun _ h => .inl h, fun a h => by
  obtain ⟨o, q⟩ := ne_none.mp h
  rw [g.h a o q]
  exact fun z => nomatch z⟩
theorem SlotOk.mono {x : Option (Option V)} {s : Slot} (e : Same G G') (hM : ∀ l, M l → M' l ∧ H' l = H l) (h : SlotOk k G M H x s) : SlotOk k G' M' H' x s := by
  cases s with
  | un => trivial
  | da d =>
    obtain ⟨v, h1, h2⟩ := h
    exact ⟨v, h1, h2.mono e⟩
  | mu l ds =>
    obtain ⟨h1, h2, vs, h3, h4⟩ := h
    exact ⟨h1, (hM l h2).1, vs, (hM l h2).2.trans h3, h4.mono e⟩
  | ob a C fs =>
    obtain ⟨h1, h2, dx, fv, h3, h4⟩ := h
    exact ⟨h1, (hM a h2).1, dx, fv, (hM a h2).2.trans h3, h4.mono e⟩
theorem Same.at {H H' : Hp} (e : Same H H') {a : Addr} (h : H a ≠ none) : H' a = H a := by
  obtain ⟨o, q⟩ := ne_none.mp h
  rw [q, e a o q]
theorem Stt.grow (s : Stt k G M σ H δ) (g : Grow G H G' H') : Stt k G' M σ H' δ where
  ex := g.gh
  dis := fun a m => by
    cases e : G' a with
    | none => rfl
    | some o =>
      rcases g.old a (by rw [e]; exact fun z => nomatch z) with q | q
      · exact absurd (s.dis a m) q
      · exact absurd q (s.trk a m)
  trk := fun a m => by rw [Same.at g.h (s.trk a m)]; exact s.trk a m
  len := s.len
  slot := fun i => (s.slot i).mono g.g fun l m => ⟨m, Same.at g.h (s.trk l m)⟩
  ne := s.ne
theorem get_set {σ : L2.St} {i j : Nat} {x : Option V} : (σ.set i x)[j]? = if i = j then (if i < σ.length then some x else none) else σ[j]? := by
  rw [List.getElem?_set]
theorem Stt.setDa {i : Nat} {v : V} {d : D} (s : Stt k G M σ H δ) (r : Rep k G v d) : Stt k G M (σ.set i (some v)) H (ss δ i (.da d)) where
  ex := s.ex
  dis := s.dis
  trk := s.trk
  len := by rw [List.length_set, ss_length]; exact s.len
  slot := fun j => by
    by_cases e : i = j
    · subst e
      by_cases hl : i < δ.length
      · rw [gs_ss_get hl, get_set, if_pos rfl, if_pos (by rw [s.len]; exact hl)]
        exact ⟨v, rfl, r⟩
      · cases q : gs (ss δ i (.da d)) i with
        | un => trivial
        | _ => exact absurd (by have := gs_len (δ := ss δ i (.da d)) (i := i) (by rw [q]; exact fun z => nomatch z); rw [ss_length] at this; exact this) hl
    · rw [gs_ss_ne e, get_set, if_neg e]
      exact s.slot j
  ne := fun a b l ds m es hab ha hb => by
    have na : i ≠ a := fun e => by
      subst e
      rcases gs_ss_same (δ := δ) (i := i) (s := .da d) with q | q <;> (rw [q] at ha; cases ha)
    have nb : i ≠ b := fun e => by
      subst e
      rcases gs_ss_same (δ := δ) (i := i) (s := .da d) with q | q <;> (rw [q] at hb; cases hb)
    rw [gs_ss_ne na] at ha
    rw [gs_ss_ne nb] at hb
    exact s.ne a b l ds m es hab ha hb
/-- a new list of one's own comes to a name -/
theorem Stt.setMu {i : Nat} {p : Addr} {vs : List V} {ds : List D} (s : Stt k G M σ H δ) (nm : ¬ M p) (gp : G p = none) (hp : H p = some (.lst vs)) (r : Reps k G vs ds) :
    Stt k G (fun a => M a ∨ a = p) (σ.set i (some (.ref p))) H (ss δ i (.mu p ds)) where
  ex := s.ex
  dis := fun a m => m.elim (s.dis a) fun e => by rw [e]; exact gp
  trk := fun a m => m.elim (s.trk a) fun e => by rw [e, hp]; exact fun z => nomatch z
  len := by rw [List.length_set, ss_length]; exact s.len
  slot := fun j => by
    by_cases e : i = j
    · subst e
      by_cases hl : i < δ.length
      · rw [gs_ss_get hl, get_set, if_pos rfl, if_pos (by rw [s.len]; exact hl)]
        exact ⟨rfl, .inr rfl, vs, hp, r⟩
      · cases q : gs (ss δ i (.mu p ds)) i with
        | un => trivial
        | _ => exact absurd (by have := gs_len (δ := ss δ i (.mu p ds)) (i := i) (by rw [q]; exact fun z => nomatch z); rw [ss_length] at this; exact this) hl
    · rw [gs_ss_ne e, get_set, if_neg e]
      exact (s.slot j).mono (Same.refl _) fun l m => ⟨.inl m, rfl⟩
  ne := fun a b l es m fs hab ha hb => by
    have own : ∀ c l es, i ≠ c → gs δ c = .mu l es → l ≠ p := fun c l es _ hc e => by
      have q := s.slot c
      rw [hc] at q
      exact nm (e ▸ q.2.1)
    by_cases ea : i = a
    · by_cases eb : i = b
      · exact absurd (ea.symm.trans eb) hab
      · rw [gs_ss_ne eb] at hb
        subst ea
        rcases gs_ss_same (δ := δ) (i := i) (s := .mu p ds) with q | q
        · rw [q] at ha
          cases ha
          exact (own b m fs eb hb).symm
        · rw [q] at ha; cases ha
    · rw [gs_ss_ne ea] at ha
      by_cases eb : i = b
      · subst eb
        rcases gs_ss_same (δ := δ) (i := i) (s := .mu p ds) with q | q
        · rw [q] at hb
          cases hb
          exact own a l es ea ha
        · rw [q] at hb; cases hb
      · rw [gs_ss_ne eb] at hb
        exact s.ne a b l es m fs hab ha hb
theorem Tr.addM {p : Addr} {M0 : Addr → Prop} {G0 H0 : Hp} (t : Tr G0 M0 H0 G M H) (hp : M0 p ∨ H0 p = none) : Tr G0 M0 H0 G (fun a => M a ∨ a = p) H :=
  ⟨t.exG, t.keep, t.old, fun a m => m.elim (t.own a) fun e => by rw [e]; exact hp, t.up⟩
/-- a list of one's own changes -/
theorem Stt.upMu {j : Nat} {l : Addr} {vs : List V} {ds es : List D} (s : Stt k G M σ H δ) (hj : gs δ j = .mu l ds) (r : Reps k G vs es) :
    Stt k G M σ (upd H l (.lst vs)) (ss δ j (.mu l es)) ∧ Tr G M H G M (upd H l (.lst vs)) := by
  have sj := s.slot j
  rw [hj] at sj
  obtain ⟨h1, h2, ws, h3, h4⟩ := sj
  have hl : j < δ.length := gs_len (by rw [hj]; exact fun z => nomatch z)
  refine ⟨⟨fun a o h => ?_, s.dis, fun a m => ?_, by rw [ss_length]; exact s.len, fun i => ?_, fun a b l' ds' m es' hab ha hb => ?_⟩, ⟨Same.refl _, fun a o h n => ?_, fun _ h => .inl h, fun _ h => .inl h, fun a h => ?_⟩⟩
  · by_cases e : a = l
    · subst e
      rw [s.dis a h2] at h
      cases h
    · rw [upd_ne e]; exact s.ex a o h
  · by_cases e : a = l
    · subst e; rw [upd_same]; exact fun z => nomatch z
    · rw [upd_ne e]; exact s.trk a m
  · by_cases e : j = i
    · subst e
      rw [gs_ss_get hl]
      exact ⟨h1, h2, vs, upd_same, r⟩
    · rw [gs_ss_ne e]
      have q := s.slot i
      cases hs : gs δ i with
      | un => trivial
      | da d => rw [hs] at q; exact q
      | mu m fs =>
        rw [hs] at q
        obtain ⟨q1, q2, us, q3, q4⟩ := q
        exact ⟨q1, q2, us, by rw [upd_ne (s.ne i j m fs l ds (Ne.symm e) hs hj)]; exact q3, q4⟩
      | ob x C fs =>
        rw [hs] at q
        obtain ⟨q1, q2, dx, fv, q3, q4⟩ := q
        exact ⟨q1, q2, dx, fv, by rw [upd_ne (ne_of q3 h3 (by intro z; cases z))]; exact q3, q4⟩
  · have f : ∀ c m fs, gs (ss δ j (.mu l es)) c = .mu m fs → ∃ gs', gs δ c = .mu m gs' := fun c m fs h => by
      by_cases e : j = c
      · subst e
        rw [gs_ss_get hl] at h
        cases h
        exact ⟨ds, hj⟩
      · rw [gs_ss_ne e] at h
        exact ⟨fs, h⟩
    obtain ⟨d1, e1⟩ := f a _ _ ha
    obtain ⟨d2, e2⟩ := f b _ _ hb
    exact s.ne a b _ _ _ _ hab e1 e2
  · rw [upd_ne (fun e => n (by rw [e]; exact h2))]; exact h
  · by_cases e : a = l
    · subst e; rw [upd_same]; exact fun z => nomatch z
    · rw [upd_ne e]; exact h
/-- what is one's own becomes data -/
theorem Stt.freeze {p : Addr} {vs : List V} {ds : List D} (s : Stt k G M σ H δ) (nm : ¬ M p) (gp : G p = none) (hp : H p = some (.lst vs)) (r : Reps k G vs ds) :
    Stt k (upd G p (.lst vs)) M σ H δ ∧ Rep k (upd G p (.lst vs)) (.ref p) (.lst ds) ∧ Same G (upd G p (.lst vs)) := by
  have eg : Same G (upd G p (.lst vs)) := fun a o h => by rw [upd_ne (ne_of_none h gp)]; exact h
  refine ⟨⟨fun a o h => ?_, fun a m => ?_, s.trk, s.len, fun i => (s.slot i).mono eg fun l m => ⟨m, rfl⟩, s.ne⟩, .lst upd_same (r.mono eg), eg⟩
  · by_cases e : a = p
    · subst e; rw [upd_same] at h; cases h; exact hp
    · rw [upd_ne e] at h; exact s.ex a o h
  · rw [upd_ne (fun e => nm (by rw [← e]; exact m))]; exact s.dis a m
/-- a list of one's own leaves its name -/
theorem Stt.moveOut {j : Nat} {l : Addr} {ds : List D} (s : Stt k G M σ H δ) (hj : gs δ j = .mu l ds) : Stt k G (fun a => M a ∧ a ≠ l) σ H (ss δ j .un) := by
  have hl : j < δ.length := gs_len (by rw [hj]; exact fun z => nomatch z)
  have sj := s.slot j
  rw [hj] at sj
  obtain ⟨_, _, ws, h3, _⟩ := sj
  refine ⟨s.ex, fun a m => s.dis a m.1, fun a m => s.trk a m.1, by rw [ss_length]; exact s.len, fun i => ?_, fun a b l' ds' m es' hab ha hb => ?_⟩
  · by_cases e : j = i
    · subst e; rw [gs_ss_get hl]; trivial
    · rw [gs_ss_ne e]
      have q := s.slot i
      cases hs : gs δ i with
      | un => trivial
      | da d => rw [hs] at q; exact q
      | mu m fs =>
        rw [hs] at q
        obtain ⟨q1, q2, q3⟩ := q
        exact ⟨q1, ⟨q2, s.ne i j m fs l ds (Ne.symm e) hs hj⟩, q3⟩
      | ob x C fs =>
        rw [hs] at q
        obtain ⟨q1, q2, dx, fv, q3, q4⟩ := q
        exact ⟨q1, ⟨q2, ne_of q3 h3 (by intro z; cases z)⟩, dx, fv, q3, q4⟩
  · have f : ∀ c m fs, gs (ss δ j .un) c = .mu m fs → gs δ c = .mu m fs := fun c m fs h => by
      by_cases e : j = c
      · subst e
        rw [gs_ss_get hl] at h
        cases h
      · rw [gs_ss_ne e] at h
        exact h
    exact s.ne a b _ _ _ _ hab (f a _ _ ha) (f b _ _ hb)
theorem Tr.lessM {M0 : Addr → Prop} {G0 H0 : Hp} (t : Tr G0 M0 H0 G M H) (h : ∀ a, M' a → M a) : Tr G0 M0 H0 G M' H := ⟨t.exG, t.keep, t.old, fun a m => t.own a (h a m), t.up⟩
/-- a slot is forgotten -/
theorem Stt.drop {j : Nat} {x : Option V} (s : Stt k G M σ H δ) : Stt k G M (σ.set j x) H (ss δ j .un) where
  ex := s.ex
  dis := s.dis
  trk := s.trk
  len := by rw [List.length_set, ss_length]; exact s.len
  slot := fun i => by
    by_cases e : j = i
    · subst e
      rcases gs_ss_same (δ := δ) (i := j) (s := .un) with q | q <;> (rw [q]; trivial)
    · rw [gs_ss_ne e, get_set, if_neg e]; exact s.slot i
  ne := fun a b l ds m es hab ha hb => by
    have f : ∀ c m fs, gs (ss δ j .un) c = .mu m fs → gs δ c = .mu m fs := fun c m fs h => by
      by_cases e : j = c
      · subst e
        rcases gs_ss_same (δ := δ) (i := j) (s := .un) with q | q <;> (rw [q] at h; cases h)
      · rw [gs_ss_ne e] at h
        exact h
    exact s.ne a b _ _ _ _ hab (f a _ _ ha) (f b _ _ hb)
end
end Ab
set_option maxHeartbeats 4000000
namespace Ab
open PySem PySem.Spec PyProof.Rows L2

abbrev AE := Env → (D → Env → Prop) → Prop
abbrev AO := Env → (List D → Env → Prop) → Prop
abbrev AT := Env → (Bool → Env → Prop) → Prop
abbrev AA := Env → (List D → Env → Prop) → Prop
abbrev APt := Env → (Option Int → Env → Prop) → Prop

def SimE (k : Kx) (te : TE) (ae : AE) : Prop := ∀ (G : Hp) (M : Addr → Prop) (σ : L2.St) (H : Hp) (δ : Env) (A : D → Env → Prop) (Q : VK), Stt k G M σ H δ → ae δ A →
  (∀ v d G' M' H' δ', Stt k G' M' σ H' δ' → Tr G M H G' M' H' → Rep k G' v d → A d δ' → Q v H') → te σ H Q
/-- a new list of one's own -/
def SimO (k : Kx) (te : TE) (ao : AO) : Prop := ∀ (G : Hp) (M : Addr → Prop) (σ : L2.St) (H : Hp) (δ : Env) (A : List D → Env → Prop) (Q : VK), Stt k G M σ H δ → ao δ A →
  (∀ p vs ds G' M' H' δ', Stt k G' M' σ H' δ' → Tr G M H G' M' H' → ¬ M' p → G' p = none → (M p ∨ H p = none) → H' p = some (.lst vs) → Reps k G' vs ds → A ds δ' → Q (.ref p) H') → te σ H Q
def SimT (k : Kx) (tt : TT) (at_ : AT) : Prop := ∀ (G : Hp) (M : Addr → Prop) (σ : L2.St) (H : Hp) (δ : Env) (A : Bool → Env → Prop) (Q : Bool → Hp → Prop), Stt k G M σ H δ → at_ δ A →
  (∀ b G' M' H' δ', Stt k G' M' σ H' δ' → Tr G M H G' M' H' → A b δ' → Q b H') → tt σ H Q
def SimA (k : Kx) (ta : TA) (aa : AA) : Prop := ∀ (G : Hp) (M : Addr → Prop) (σ : L2.St) (H : Hp) (δ : Env) (A : List D → Env → Prop) (Q : List V → Hp → Prop), Stt k G M σ H δ → aa δ A →
  (∀ vs ds G' M' H' δ', Stt k G' M' σ H' δ' → Tr G M H G' M' H' → Reps k G' vs ds → A ds δ' → Q vs H') → ta σ H Q
def SimP (k : Kx) (to : TO) (ap : APt) : Prop := ∀ (G : Hp) (M : Addr → Prop) (σ : L2.St) (H : Hp) (δ : Env) (A : Option Int → Env → Prop) (Q : Option Int → Hp → Prop), Stt k G M σ H δ → ap δ A →
  (∀ o G' M' H' δ', Stt k G' M' σ H' δ' → Tr G M H G' M' H' → A o δ' → Q o H') → to σ H Q
/-- an operation on two values that changes nothing -/
def OpS (k : Kx) (r : R2) (f : D → D → (D → Prop) → Prop) : Prop := ∀ (G H : Hp) (x y : V) (d e : D) (A : D → Prop) (Q : VK), Same G H → Rep k G x d → Rep k G y e → f d e A →
  (∀ v z G' H', Grow G H G' H' → Rep k G' v z → A z → Q v H') → r x y H Q
def CallS (k : Kx) (r : List V → Hp → VK → Prop) (f : List D → (D → Prop) → Prop) : Prop := ∀ (G H : Hp) (vs : List V) (ds : List D) (A : D → Prop) (Q : VK), Same G H → Reps k G vs ds → f ds A →
  (∀ v z G' H', Grow G H G' H' → Rep k G' v z → A z → Q v H') → r vs H Q
def UnS (k : Kx) (r : V → Hp → VK → Prop) (f : D → (D → Prop) → Prop) : Prop := ∀ (G H : Hp) (x : V) (d : D) (A : D → Prop) (Q : VK), Same G H → Rep k G x d → f d A →
  (∀ v z G' H', Grow G H G' H' → Rep k G' v z → A z → Q v H') → r x H Q

/-! ### abstract readings -/
def isD (s : Slot) (A : D → Prop) : Prop := match s with
  | .da d => A d
  | _ => False
def isM (s : Slot) (A : Addr → List D → Prop) : Prop := match s with
  | .mu l ds => A l ds
  | _ => False
def isB (d : D) (A : Bool → Prop) : Prop := match d with
  | .bl b => A b
  | _ => False
def isI (d : D) (A : Int → Prop) : Prop := match d with
  | .int b => A b
  | _ => False
def isT (d : D) (A : List D → Prop) : Prop := match d with
  | .tup b => A b
  | _ => False
def isL (d : D) (A : List D → Prop) : Prop := match d with
  | .lst b => A b
  | _ => False
def aVar (i : Nat) : AE := fun δ A => isD (gs δ i) fun d => A d δ
def aC (d : D) : AE := fun δ A => A d δ
def aOp (f : D → D → (D → Prop) → Prop) (a b : AE) : AE := fun δ A => a δ fun x δ1 => b δ1 fun y δ2 => f x y fun z => A z δ2
def aUn (f : D → (D → Prop) → Prop) (a : AE) : AE := fun δ A => a δ fun x δ1 => f x fun z => A z δ1
def aB (a : AE) : AT := fun δ A => a δ fun d δ1 => isB d fun b => A b δ1
def aAnd (a b : AT) : AT := fun δ A => a δ fun x δ1 => if x = true then b δ1 A else A false δ1
def aOr (a b : AT) : AT := fun δ A => a δ fun x δ1 => if x = true then A true δ1 else b δ1 A
def aNot (a : AT) : AT := fun δ A => a δ fun x δ1 => A (!x) δ1
def aAndV (a b : AE) : AE := fun δ A => a δ fun x δ1 => isB x fun c => if c = true then b δ1 A else A (.bl false) δ1
def aOrV (a b : AE) : AE := fun δ A => a δ fun x δ1 => isB x fun c => if c = true then A (.bl true) δ1 else b δ1 A
def aNotV (a : AE) : AE := fun δ A => a δ fun x δ1 => isB x fun c => A (.bl (!c)) δ1
def aIfE (t : AT) (a b : AE) : AE := fun δ A => t δ fun x δ1 => if x = true then a δ1 A else b δ1 A
def aNil : AA := fun δ A => A [] δ
def aCons (a : AE) (r : AA) : AA := fun δ A => a δ fun x δ1 => r δ1 fun xs δ2 => A (x :: xs) δ2
def aTup (r : AA) : AE := fun δ A => r δ fun xs δ1 => xs.length ≤ 16777216 ∧ A (.tup xs) δ1
def aLst (r : AA) : AO := fun δ A => r δ fun xs δ1 => xs.length ≤ 16777216 ∧ A xs δ1
def aFrz (a : AO) : AE := fun δ A => a δ fun xs δ1 => A (.lst xs) δ1
def aCB (f : List D → (D → Prop) → Prop) (r : AA) : AE := fun δ A => r δ fun xs δ1 => f xs fun z => A z δ1
def aNoP : APt := fun δ A => A none δ
def aPart (a : AE) : APt := fun δ A => a δ fun x δ1 => isI x fun i => A (some i) δ1
/-- one's own list on the left (right) of an operation that answers a number or a truth value -/
def isS (d : D) (A : D → Prop) : Prop := match d with
  | .bl b => A (.bl b)
  | .int i => A (.int i)
  | _ => False
def aOpM (f : D → D → (D → Prop) → Prop) (j : Nat) (b : AE) : AE := fun δ A => isM (gs δ j) fun l _ => b δ fun y δ1 => isM (gs δ1 j) fun l' ds => l' = l ∧ f (.lst ds) y fun z => isS z fun z => A z δ1
def aOpMR (f : D → D → (D → Prop) → Prop) (a : AE) (j : Nat) : AE := fun δ A => a δ fun x δ1 => isM (gs δ1 j) fun l ds => f x (.lst ds) fun z => isS z fun z => A z δ1
def aLenM (j : Nat) : AE := fun δ A => isM (gs δ j) fun l ds => A (.int (ds.length : Int)) δ
def aIxM (j : Nat) (b : AE) : AE := fun δ A => isM (gs δ j) fun l _ => b δ fun y δ1 => isM (gs δ1 j) fun l' ds => l' = l ∧ isI y fun i => ∃ d, atI ds i = some d ∧ A d δ1
def aPopM (j : Nat) (b : AE) : AE := fun δ A => isM (gs δ j) fun l _ => b δ fun y δ1 => isM (gs δ1 j) fun l' ds => l' = l ∧ isI y fun i => 0 ≤ i ∧ i < 2 ^ 63 ∧ ∃ d, ds[i.toNat]? = some d ∧ A d (ss δ1 j (.mu l (ds.eraseIdx i.toNat)))
def aMove (j : Nat) : AO := fun δ A => isM (gs δ j) fun l ds => A ds (ss δ j .un)

section
variable {k : Kx} {ta tb tc te : TE} {a b c : AE} {t u : TT} {p q : AT} {r : R2} {f : D → D → (D → Prop) → Prop}
theorem si_var {i : Nat} : SimE k (tVar i) (aVar i) := by
  intro G M σ H δ A Q s h q
  have z := s.slot i
  unfold aVar isD at h
  cases e : gs δ i with
  | da d =>
    rw [e] at h z
    obtain ⟨v, h1, h2⟩ := z
    exact ⟨v, h1, q v d G M H δ s .refl h2 h⟩
  | un => rw [e] at h; exact h.elim
  | mu l ds => rw [e] at h; exact h.elim
  | ob x C fs => rw [e] at h; exact h.elim
theorem si_c {v : V} {d : D} (h : ∀ G, Rep k G v d) : SimE k (tC v) (aC d) := fun G M σ H δ A Q s ha q => q v d G M H δ s .refl (h G) ha
theorem si_int {i : Int} : SimE k (tC (.int i)) (aC (.int i)) := si_c fun _ => .int i
theorem si_bl {i : Bool} : SimE k (tC (.bl i)) (aC (.bl i)) := si_c fun _ => .bl i
theorem si_non : SimE k (tC .non) (aC .non) := si_c fun _ => .non
theorem si_op (hr : OpS k r f) (ha : SimE k ta a) (hb : SimE k tb b) : SimE k (tOp r ta tb) (aOp f a b) := fun G M σ H δ A Q s h q =>
  ha G M σ H δ _ _ s h fun x d G1 M1 H1 δ1 s1 t1 r1 h1 => hb G1 M1 σ H1 δ1 _ _ s1 h1 fun y e G2 M2 H2 δ2 s2 t2 r2 h2 =>
    hr G2 H2 x y d e _ _ s2.ex (r1.mono t2.exG) r2 h2 fun v z G3 H3 g rz hz => q v z G3 M2 H3 δ2 (s2.grow g) ((t1.trans t2).trans g.tr) rz hz
theorem si_un {r : V → Hp → VK → Prop} {f : D → (D → Prop) → Prop} (hr : UnS k r f) (ha : SimE k ta a) : SimE k (tUn r ta) (aUn f a) := fun G M σ H δ A Q s h q =>
  ha G M σ H δ _ _ s h fun x d G1 M1 H1 δ1 s1 t1 r1 h1 => hr G1 H1 x d _ _ s1.ex r1 h1 fun v z G3 H3 g rz hz => q v z G3 M1 H3 δ1 (s1.grow g) (t1.trans g.tr) rz hz
theorem isB_elim {d : D} {A : Bool → Prop} (h : isB d A) : ∃ c, d = .bl c ∧ A c := by
  cases d <;> first | exact h.elim | exact ⟨_, rfl, h⟩
theorem isI_elim {d : D} {A : Int → Prop} (h : isI d A) : ∃ c, d = .int c ∧ A c := by
  cases d <;> first | exact h.elim | exact ⟨_, rfl, h⟩
theorem isM_elim {d : Slot} {A : Addr → List D → Prop} (h : isM d A) : ∃ l c, d = .mu l c ∧ A l c := by
  cases d <;> first | exact h.elim | exact ⟨_, _, rfl, h⟩
theorem isS_elim {d : D} {A : D → Prop} (h : isS d A) : A d ∧ ((∃ b, d = .bl b) ∨ ∃ i, d = .int i) := by
  cases d <;> first | exact h.elim | exact ⟨h, .inl ⟨_, rfl⟩⟩ | exact ⟨h, .inr ⟨_, rfl⟩⟩
theorem Rep.bl_eq {G : Hp} {v : V} {c : Bool} (h : Rep k G v (.bl c)) : v = .bl c := by cases h; rfl
theorem Rep.int_eq {G : Hp} {v : V} {c : Int} (h : Rep k G v (.int c)) : v = .int c := by cases h; rfl
theorem si_test (ha : SimE k ta a) : SimT k (tTest ta) (aB a) := fun G M σ H δ A Q s h q => ha G M σ H δ _ _ s h fun v d G1 M1 H1 δ1 s1 t1 r1 h1 => by
  obtain ⟨c, rfl, h1⟩ := isB_elim h1
  exact ⟨c, r1.bl_eq, q c G1 M1 H1 δ1 s1 t1 h1⟩
theorem si_B (ha : SimE k ta a) : SimT k (tB ta) (aB a) := fun G M σ H δ A Q s h q => ha G M σ H δ _ _ s h fun v d G1 M1 H1 δ1 s1 t1 r1 h1 => by
  obtain ⟨c, rfl, h1⟩ := isB_elim h1
  exact ⟨c, r1.bl_eq, q c G1 M1 H1 δ1 s1 t1 h1⟩
theorem si_and (h1 : SimT k t p) (h2 : SimT k u q) : SimT k (tAnd t u) (aAnd p q) := fun G M σ H δ A Q s h g => h1 G M σ H δ _ _ s h fun c G1 M1 H1 δ1 s1 t1 h1 => by
  cases c with
  | true =>
    rw [if_pos rfl] at h1 ⊢
    exact h2 G1 M1 σ H1 δ1 _ _ s1 h1 fun b G2 M2 H2 δ2 s2 t2 hb => g b G2 M2 H2 δ2 s2 (t1.trans t2) hb
  | false =>
    rw [if_neg Bool.false_ne_true] at h1 ⊢
    exact g false G1 M1 H1 δ1 s1 t1 h1
theorem si_or (h1 : SimT k t p) (h2 : SimT k u q) : SimT k (tOr t u) (aOr p q) := fun G M σ H δ A Q s h g => h1 G M σ H δ _ _ s h fun c G1 M1 H1 δ1 s1 t1 h1 => by
  cases c with
  | false =>
    rw [if_neg Bool.false_ne_true] at h1 ⊢
    exact h2 G1 M1 σ H1 δ1 _ _ s1 h1 fun b G2 M2 H2 δ2 s2 t2 hb => g b G2 M2 H2 δ2 s2 (t1.trans t2) hb
  | true =>
    rw [if_pos rfl] at h1 ⊢
    exact g true G1 M1 H1 δ1 s1 t1 h1
theorem si_not (h1 : SimT k t p) : SimT k (tNot t) (aNot p) := fun G M σ H δ A Q s h g => h1 G M σ H δ _ _ s h fun c G1 M1 H1 δ1 s1 t1 h1 => g (!c) G1 M1 H1 δ1 s1 t1 h1
theorem si_andV (h1 : SimE k ta a) (h2 : SimE k tb b) : SimE k (tAndV ta tb) (aAndV a b) := fun G M σ H δ A Q s h g => h1 G M σ H δ _ _ s h fun v d G1 M1 H1 δ1 s1 t1 r1 h1 => by
  obtain ⟨c, rfl, hc⟩ := isB_elim h1
  refine ⟨c, r1.bl_eq, ?_⟩
  cases c with
  | true =>
    rw [if_pos rfl] at hc ⊢
    exact h2 G1 M1 σ H1 δ1 _ _ s1 hc fun v d G2 M2 H2 δ2 s2 t2 r2 hb => g v d G2 M2 H2 δ2 s2 (t1.trans t2) r2 hb
  | false =>
    rw [if_neg Bool.false_ne_true] at hc ⊢
    exact g _ _ G1 M1 H1 δ1 s1 t1 (.bl false) hc
theorem si_orV (h1 : SimE k ta a) (h2 : SimE k tb b) : SimE k (tOrV ta tb) (aOrV a b) := fun G M σ H δ A Q s h g => h1 G M σ H δ _ _ s h fun v d G1 M1 H1 δ1 s1 t1 r1 h1 => by
  obtain ⟨c, rfl, hc⟩ := isB_elim h1
  refine ⟨c, r1.bl_eq, ?_⟩
  cases c with
  | false =>
    rw [if_neg Bool.false_ne_true] at hc ⊢
    exact h2 G1 M1 σ H1 δ1 _ _ s1 hc fun v d G2 M2 H2 δ2 s2 t2 r2 hb => g v d G2 M2 H2 δ2 s2 (t1.trans t2) r2 hb
  | true =>
    rw [if_pos rfl] at hc ⊢
    exact g _ _ G1 M1 H1 δ1 s1 t1 (.bl true) hc
theorem si_notV (h1 : SimE k ta a) : SimE k (tNotV ta) (aNotV a) := fun G M σ H δ A Q s h g => h1 G M σ H δ _ _ s h fun v d G1 M1 H1 δ1 s1 t1 r1 h1 => by
  obtain ⟨c, rfl, h1⟩ := isB_elim h1
  exact ⟨c, r1.bl_eq, g _ _ G1 M1 H1 δ1 s1 t1 (.bl (!c)) h1⟩
theorem si_ifE (h0 : SimT k t p) (h1 : SimE k ta a) (h2 : SimE k tb b) : SimE k (tIf t ta tb) (aIfE p a b) := fun G M σ H δ A Q s h g => h0 G M σ H δ _ _ s h fun c G1 M1 H1 δ1 s1 t1 h0 => by
  cases c with
  | true =>
    rw [if_pos rfl] at h0 ⊢
    exact h1 G1 M1 σ H1 δ1 _ _ s1 h0 fun v d G2 M2 H2 δ2 s2 t2 r2 hb => g v d G2 M2 H2 δ2 s2 (t1.trans t2) r2 hb
  | false =>
    rw [if_neg Bool.false_ne_true] at h0 ⊢
    exact h2 G1 M1 σ H1 δ1 _ _ s1 h0 fun v d G2 M2 H2 δ2 s2 t2 r2 hb => g v d G2 M2 H2 δ2 s2 (t1.trans t2) r2 hb
theorem si_nil : SimA k tNil aNil := fun G M σ H δ A Q s h q => q [] [] G M H δ s .refl .nil h
theorem si_cons {tr : TA} {ar : AA} (h1 : SimE k ta a) (h2 : SimA k tr ar) : SimA k (tCons ta tr) (aCons a ar) := fun G M σ H δ A Q s h q =>
  h1 G M σ H δ _ _ s h fun v d G1 M1 H1 δ1 s1 t1 r1 h1 => h2 G1 M1 σ H1 δ1 _ _ s1 h1 fun vs ds G2 M2 H2 δ2 s2 t2 r2 h2 => q (v :: vs) (d :: ds) G2 M2 H2 δ2 s2 (t1.trans t2) (.cons (r1.mono t2.exG) r2) h2
theorem line_le {n : Nat} (h : n ≤ 16777216) : n ≤ sizeLine := by rw [sizeLine_eq]; exact h
theorem line_lt {n : Nat} (h : n < 16777216) : n < sizeLine := by rw [sizeLine_eq]; exact h
theorem si_tup {tr : TA} {ar : AA} (h1 : SimA k tr ar) : SimE k (tTup tr) (aTup ar) := fun G M σ H δ A Q s h q =>
  h1 G M σ H δ _ _ s h fun vs ds G1 M1 H1 δ1 s1 t1 r1 h1 => ⟨by rw [r1.length]; exact line_le h1.1, fun p hp => by
    have g : Grow G1 H1 _ _ := Grow.new (o := .tup vs) s1.ex hp
    exact q _ _ _ M1 _ δ1 (s1.grow g) (t1.trans g.tr) (.tup upd_same (r1.mono g.g)) h1.2⟩
theorem Stt.newOwn {G H : Hp} {M : Addr → Prop} {σ : L2.St} {δ : Env} {p : Addr} {o : HO} (s : Stt k G M σ H δ) (hp : H p = none) : Stt k G M σ (upd H p o) δ ∧ Tr G M H G M (upd H p o) ∧ ¬ M p ∧ G p = none := by
  have nm : ¬ M p := fun m => s.trk p m hp
  have gp : G p = none := s.ex.free hp
  have e : Same H (upd H p o) := fun a u h => by rw [upd_ne (ne_of_none h hp)]; exact h
  exact ⟨⟨s.ex.trans e, s.dis, fun a m => by rw [Same.at e (s.trk a m)]; exact s.trk a m, s.len, fun i => (s.slot i).mono (Same.refl _) fun l m => ⟨m, Same.at e (s.trk l m)⟩, s.ne⟩,
    ⟨Same.refl _, fun a u h _ => e a u h, fun _ h => .inl h, fun _ h => .inl h, fun a h => by rw [Same.at e h]; exact h⟩, nm, gp⟩
theorem si_lst {tr : TA} {ar : AA} (h1 : SimA k tr ar) : SimO k (tLst tr) (aLst ar) := fun G M σ H δ A Q s h q =>
  h1 G M σ H δ _ _ s h fun vs ds G1 M1 H1 δ1 s1 t1 r1 h1 => ⟨by rw [r1.length]; exact line_le h1.1, fun p hp => by
    obtain ⟨s2, t2, nm, gp⟩ := s1.newOwn (o := .lst vs) hp
    refine q p vs ds G1 M1 _ δ1 s2 (t1.trans t2) nm gp (.inr ?_) upd_same r1 h1.2
    cases e : H p with
    | none => rfl
    | some o => exact absurd hp (t1.up p (by rw [e]; exact fun z => nomatch z))⟩
theorem si_frz {ao : AO} (h1 : SimO k ta ao) : SimE k ta (aFrz ao) := fun G M σ H δ A Q s h q =>
  h1 G M σ H δ _ _ s h fun p vs ds G1 M1 H1 δ1 s1 t1 nm gp hp hl r1 h1 => by
    obtain ⟨s2, r2, eg⟩ := s1.freeze nm gp hl r1
    refine q _ _ _ M1 H1 δ1 s2 ⟨t1.exG.trans eg, t1.keep, fun a h => ?_, t1.own, t1.up⟩ r2 h1
    by_cases e : a = p
    · subst e; exact .inr hp
    · rw [upd_ne e] at h; exact t1.old a h
theorem si_cb {r : List V → Hp → VK → Prop} {f : List D → (D → Prop) → Prop} {tr : TA} {ar : AA} (hr : CallS k r f) (h1 : SimA k tr ar) : SimE k (tCB r tr) (aCB f ar) := fun G M σ H δ A Q s h q =>
  h1 G M σ H δ _ _ s h fun vs ds G1 M1 H1 δ1 s1 t1 r1 h1 => hr G1 H1 vs ds _ _ s1.ex r1 h1 fun v z G3 H3 g rz hz => q v z G3 M1 H3 δ1 (s1.grow g) (t1.trans g.tr) rz hz
theorem si_noP : SimP k tNoPart aNoP := fun G M σ H δ A Q s h q => q none G M H δ s .refl h
theorem si_part (ha : SimE k ta a) : SimP k (tPart ta) (aPart a) := fun G M σ H δ A Q s h q => ha G M σ H δ _ _ s h fun v d G1 M1 H1 δ1 s1 t1 r1 h1 => by
  obtain ⟨i, rfl, h1⟩ := isI_elim h1
  exact ⟨i, r1.int_eq, q (some i) G1 M1 H1 δ1 s1 t1 h1⟩
theorem Stt.mu {G H : Hp} {M : Addr → Prop} {σ : L2.St} {δ : Env} {j : Nat} {l : Addr} {ds : List D} (s : Stt k G M σ H δ) (h : gs δ j = .mu l ds) : σ[j]? = some (some (.ref l)) ∧ M l ∧ ∃ vs, H l = some (.lst vs) ∧ Reps k G vs ds := by
  have z := s.slot j
  rw [h] at z
  exact z
/-- a list of one's own looked at as data for a moment -/
theorem Stt.peek {G H : Hp} {M : Addr → Prop} {σ : L2.St} {δ : Env} {j : Nat} {l : Addr} {ds : List D} (s : Stt k G M σ H δ) (h : gs δ j = .mu l ds) : ∃ G', Same G G' ∧ Same G' H ∧ Rep k G' (.ref l) (.lst ds) := by
  obtain ⟨_, m, vs, hl, r⟩ := s.mu h
  have gl := s.dis l m
  have eg : Same G (upd G l (.lst vs)) := fun a o h => by rw [upd_ne (ne_of_none h gl)]; exact h
  refine ⟨upd G l (.lst vs), eg, fun a o h => ?_, .lst upd_same (r.mono eg)⟩
  by_cases e : a = l
  · subst e; rw [upd_same] at h; cases h; exact hl
  · rw [upd_ne e] at h; exact s.ex a o h
theorem Stt.only {G H H' : Hp} {M : Addr → Prop} {σ : L2.St} {δ : Env} (s : Stt k G M σ H δ) (e : Same H H') : Grow G H G H' := ⟨Same.refl _, e, s.ex.trans e, fun _ h => .inl h⟩
theorem scal_any {G G' : Hp} {v : V} {z : D} (h : Rep k G v z) (hz : (∃ b, z = .bl b) ∨ ∃ i, z = .int i) : Rep k G' v z := by
  rcases hz with ⟨b, rfl⟩ | ⟨i, rfl⟩
  · cases h; exact .bl b
  · cases h; exact .int i
theorem si_opM {j : Nat} (hr : OpS k r f) (hb : SimE k tb b) : SimE k (tOp r (tVar j) tb) (aOpM f j b) := fun G M σ H δ A Q s h q => by
  obtain ⟨l, es, e, h⟩ := isM_elim h
  refine ⟨.ref l, (s.mu e).1, hb G M σ H δ _ _ s h fun y d G1 M1 H1 δ1 s1 t1 r1 h1 => ?_⟩
  obtain ⟨l', ds, e1, h3⟩ := isM_elim h1
  obtain ⟨el, h4⟩ := h3
  subst el
  obtain ⟨G2, g1, g2, r2⟩ := s1.peek e1
  refine hr G2 H1 _ y _ d _ _ g2 r2 (r1.mono g1) h4 fun v z G3 H3 g rz hz => ?_
  obtain ⟨hz, sc⟩ := isS_elim hz
  have g' := s1.only g.h
  exact q v z G1 M1 H3 δ1 (s1.grow g') (t1.trans g'.tr) (scal_any rz sc) hz
theorem si_opMR {j : Nat} (hr : OpS k r f) (ha : SimE k ta a) : SimE k (tOp r ta (tVar j)) (aOpMR f a j) := fun G M σ H δ A Q s h q =>
  ha G M σ H δ _ _ s h fun x d G1 M1 H1 δ1 s1 t1 r1 h1 => by
    obtain ⟨l, ds, e1, h1⟩ := isM_elim h1
    refine ⟨.ref l, (s1.mu e1).1, ?_⟩
    obtain ⟨G2, g1, g2, r2⟩ := s1.peek e1
    refine hr G2 H1 x _ d _ _ _ g2 (r1.mono g1) r2 h1 fun v z G3 H3 g rz hz => ?_
    obtain ⟨hz, sc⟩ := isS_elim hz
    have g' := s1.only g.h
    exact q v z G1 M1 H3 δ1 (s1.grow g') (t1.trans g'.tr) (scal_any rz sc) hz
theorem atI_rep {G : Hp} {vs : List V} {ds : List D} {i : Int} {d : D} (r : Reps k G vs ds) (h : atI ds i = some d) : ∃ v, atI vs i = some v ∧ Rep k G v d := by
  unfold atI at h ⊢
  rw [r.length]
  cases e : ixN ds.length i with
  | none => rw [e] at h; cases h
  | some j =>
    rw [e] at h
    exact r.getD h
theorem si_ixM {j : Nat} (hb : SimE k tb b) : SimE k (tOp (rIx k.K) (tVar j) tb) (aIxM j b) := fun G M σ H δ A Q s h q => by
  obtain ⟨l, es, e, h⟩ := isM_elim h
  refine ⟨.ref l, (s.mu e).1, hb G M σ H δ _ _ s h fun y d G1 M1 H1 δ1 s1 t1 r1 h1 => ?_⟩
  obtain ⟨l', ds, e1, h3⟩ := isM_elim h1
  obtain ⟨el, h4⟩ := h3
  subst el
  obtain ⟨i, ei, d, h2, h5⟩ := isI_elim h4
  subst ei
  obtain ⟨_, _, vs, hl, rs⟩ := s1.mu e1
  obtain ⟨v, hv, rv⟩ := atI_rep rs h2
  exact .inl ⟨l', vs, i, v, rfl, r1.int_eq, .inl (.inl hl), hv, q v d G1 M1 H1 δ1 s1 t1 rv h5⟩
theorem si_lenM {j : Nat} : SimE k (tCB (fun xs H Q => ∃ p ys, xs = [.ref p] ∧ (SqL k.K H p ys ∨ SqT k.K H p ys) ∧ Q (.int ys.length) H) (tCons (tVar j) tNil)) (aLenM j) := fun G M σ H δ A Q s h q => by
  obtain ⟨l, ds, e, h⟩ := isM_elim h
  obtain ⟨h1, _, vs, hl, rs⟩ := s.mu e
  refine ⟨.ref l, h1, l, vs, rfl, .inl (.inl (.inl hl)), ?_⟩
  rw [rs.length]
  exact q _ _ G M H δ s .refl (.int _) h
theorem si_popM {j : Nat} (hb : SimE k tb b) : SimE k (tBM k.K "list" rPopAt (tVar j) (tCons tb tNil)) (aPopM j b) := fun G M σ H δ A Q s h q => by
  obtain ⟨l, es, e, h⟩ := isM_elim h
  obtain ⟨w1, _, ws, wl, _⟩ := s.mu e
  refine ⟨.ref l, w1, .inl ⟨rfl, ws, .inl (.inl wl)⟩, hb G M σ H δ _ _ s h fun y d G1 M1 H1 δ1 s1 t1 r1 h1 => ?_⟩
  obtain ⟨l', ds, e1, h3⟩ := isM_elim h1
  obtain ⟨el, h4⟩ := h3
  subst el
  obtain ⟨i, ei', i0, i1, d, h2, h5⟩ := isI_elim h4
  subst ei'
  obtain ⟨_, _, vs, hl, rs⟩ := s1.mu e1
  obtain ⟨v, hv, rv⟩ := rs.getD h2
  obtain ⟨s2, t2⟩ := s1.upMu e1 (rs.eraseIdx i.toNat)
  have hlt : i.toNat < vs.length := (List.getElem?_eq_some_iff.mp hv).1
  have ei : i = ((i.toNat : Nat) : Int) := by omega
  have sx : seqIndex? i vs.length = some i.toNat := (ixN_seq (i := i) (j := i.toNat) (n := vs.length) (by
    unfold ixN
    rw [if_pos i0, if_pos (by omega)])).1
  have ey := r1.int_eq
  subst ey
  exact ⟨l', vs, i, i.toNat, v, rfl, rfl, hl, by omega, i1, sx, hv, q v d G1 M1 _ _ s2 (t1.trans t2) rv h5⟩
theorem si_move {j : Nat} : SimO k (tVar j) (aMove j) := fun G M σ H δ A Q s h q => by
  obtain ⟨l, ds, e, h⟩ := isM_elim h
  obtain ⟨h1, m, vs, hl, rs⟩ := s.mu e
  have s2 := s.moveOut e
  refine ⟨.ref l, h1, ?_⟩
  have s3 : Stt k G (fun a => M a ∧ a ≠ l) σ H (ss δ j .un) := s2
  exact q l vs ds G _ H _ s3 (Tr.refl.lessM fun a m => m.1) (fun m => m.2 rfl) (s.dis l m) (.inl m) hl rs h
end
end Ab
set_option maxHeartbeats 4000000
namespace Ab
open PySem PySem.Spec PyProof.Rows L2

/-! ### operations on data -/
def fI (g : Int → Int → D) : D → D → (D → Prop) → Prop
  | .int i, .int j, A => A (g i j)
  | _, _, _ => False
def fIC (C : Int → Int → Prop) (g : Int → Int → D) : D → D → (D → Prop) → Prop
  | .int i, .int j, A => C i j ∧ A (g i j)
  | _, _, _ => False
def fAdd : D → D → (D → Prop) → Prop
  | .int i, .int j, A => A (.int (i + j))
  | .tup xs, .tup ys, A => xs.length + ys.length ≤ 16777216 ∧ A (.tup (xs ++ ys))
  | .lst xs, .lst ys, A => xs.length + ys.length ≤ 16777216 ∧ A (.lst (xs ++ ys))
  | _, _, _ => False
abbrev fSub := fI fun i j => .int (i - j)
abbrev fMul := fIC CMul fun i j => .int (i * j)
abbrev fDiv := fIC CDiv fun i j => .int (i / j)
abbrev fMod := fIC (fun _ j => 0 < j) fun i j => .int (i % j)
abbrev fPow := fIC CPow fun i j => .int (i ^ j.toNat)
def fLt : D → D → (D → Prop) → Prop
  | .int i, .int j, A => A (.bl (decide (i < j)))
  | .tup xs, .tup ys, A => ∃ ns ms : List Int, xs = ns.map D.int ∧ ys = ms.map D.int ∧ A (.bl (HT.lexLt ns ms))
  | _, _, _ => False
def fLe : D → D → (D → Prop) → Prop
  | .int i, .int j, A => A (.bl (decide (i ≤ j)))
  | .lst xs, .lst ys, A => ∃ ns ms : List Int, xs = ns.map D.int ∧ ys = ms.map D.int ∧ A (.bl (!HT.lexLt ms ns))
  | _, _, _ => False
abbrev fGt := fI fun i j => .bl (decide (j < i))
abbrev fGe := fI fun i j => .bl (decide (j ≤ i))
def fEq : D → D → (D → Prop) → Prop
  | .int i, .int j, A => A (.bl (decide (i = j)))
  | .bl i, .bl j, A => A (.bl (decide (i = j)))
  | d, e, A => cmpOk d = true ∧ cmpOk e = true ∧ A (.bl (eqD d e))
def fNe : D → D → (D → Prop) → Prop
  | .int i, .int j, A => A (.bl (!decide (i = j)))
  | .bl i, .bl j, A => A (.bl (!decide (i = j)))
  | d, e, A => cmpOk d = true ∧ cmpOk e = true ∧ A (.bl (!eqD d e))
def fIs (neg : Bool) : D → D → (D → Prop) → Prop
  | .bl i, .bl j, A => A (.bl (if neg then !decide (i = j) else decide (i = j)))
  | .non, .non, A => A (.bl (if neg then false else true))
  | .tup _, .non, A => A (.bl (if neg then true else false))
  | _, _, _ => False
def fIn (neg : Bool) : D → D → (D → Prop) → Prop
  | .int i, .tup ys, A => ∃ ns : List Int, ys = ns.map D.int ∧ A (.bl (if neg then !decide (i ∈ ns) else decide (i ∈ ns)))
  | .int i, .lst ys, A => ∃ ns : List Int, ys = ns.map D.int ∧ A (.bl (if neg then !decide (i ∈ ns) else decide (i ∈ ns)))
  | .tup x, .lst ys, A => cmpOk (.tup x) = true ∧ cmpOk (.lst ys) = true ∧ A (.bl (if neg then !(ys.any fun z => eqD z (.tup x)) else ys.any fun z => eqD z (.tup x)))
  | _, _, _ => False
def fIx : D → D → (D → Prop) → Prop
  | .lst xs, .int i, A => ∃ d, atI xs i = some d ∧ A d
  | .tup xs, .int i, A => ∃ d, atI xs i = some d ∧ A d
  | .scr ns, .int i, A => ∃ n, atI ns i = some n ∧ A (.int n)
  | _, _, _ => False
def fNeg : D → (D → Prop) → Prop
  | .int i, A => A (.int (-i))
  | _, _ => False

structure OpX (X : Cx) (k : Kx) (F : Value → Value → Sem Value) (r : R2) (f : D → D → (D → Prop) → Prop) : Prop where
  o : OpR X F r
  s : OpS k r f
section
variable {k : Kx}
theorem os_I0 {gV : Int → Int → V} {g : Int → Int → D} (h : ∀ i j G, Rep k G (gV i j) (g i j)) : OpS k (rI0 gV) (fI g) := by
  intro G H x y d e A Q eg r1 r2 hf q
  cases r1 <;> cases r2 <;> first
    | exact hf.elim
    | exact ⟨_, _, rfl, rfl, q _ _ G H (.refl eg) (h _ _ G) hf⟩
theorem os_IC {C : Int → Int → Prop} {gV : Int → Int → V} {g : Int → Int → D} (h : ∀ i j G, Rep k G (gV i j) (g i j)) : OpS k (rI C gV) (fIC C g) := by
  intro G H x y d e A Q eg r1 r2 hf q
  cases r1 <;> cases r2 <;> first
    | exact hf.elim
    | exact ⟨_, _, rfl, rfl, hf.1, q _ _ G H (.refl eg) (h _ _ G) hf.2⟩
theorem os_add {r : R2} (hr : ∀ x y H Q, (rI0 (fun i j => .int (i + j)) x y H Q ∨ rCatA k.K x y H Q) ∨ rCat x y H Q → r x y H Q) : OpS k r fAdd := by
  intro G H x y d e A Q eg r1 r2 hf q
  refine hr _ _ _ _ ?_
  cases r1 with
  | int i =>
    cases r2 with
    | int j => exact .inl (.inl ⟨i, j, rfl, rfl, q _ _ G H (.refl eg) (.int _) hf⟩)
    | _ => exact hf.elim
  | @tup a vs ds h1 s1 =>
    cases r2 with
    | @tup b ws es h2 s2 =>
      refine .inl (.inr ⟨a, b, vs, ws, rfl, rfl, .inl (.inl (eg _ _ h1)), .inl (.inl (eg _ _ h2)), by rw [s1.length, s2.length]; exact line_le hf.1, fun z => ?_, fun _ z => ?_, fun _ _ p hp => ?_⟩)
      · have e1 : ds = [] := s1.nil_iff.mp z
        subst e1
        exact q _ _ G H (.refl eg) (.tup h2 s2) hf.2
      · have e1 : es = [] := s2.nil_iff.mp z
        subst e1
        have hf2 := hf.2
        rw [List.append_nil] at hf2
        exact q _ _ G H (.refl eg) (.tup h1 s1) hf2
      · have g : Grow G H _ _ := Grow.new (o := .tup (vs ++ ws)) eg hp
        exact q _ _ _ _ g (.tup upd_same ((s1.append s2).mono g.g)) hf.2
    | _ => exact hf.elim
  | @lst a vs ds h1 s1 =>
    cases r2 with
    | @lst b ws es h2 s2 =>
      refine .inr ⟨a, b, vs, ws, rfl, rfl, eg _ _ h1, eg _ _ h2, by rw [s1.length, s2.length]; exact line_le hf.1, fun p hp => ?_⟩
      have g : Grow G H _ _ := Grow.new (o := .lst (vs ++ ws)) eg hp
      exact q _ _ _ _ g (.lst upd_same ((s1.append s2).mono g.g)) hf.2
    | _ => exact hf.elim
  | _ => exact hf.elim
theorem cmp_split {d : D} (h : cmpOk d = true) : pln d = true ∧ SeqAt.shaped (toPy d) = true := by
  unfold cmpOk at h
  rw [Bool.and_eq_true] at h
  exact h
theorem cmpOk_int (i : Int) : cmpOk (.int i) = true := by simp [cmpOk, pln, SeqAt.shaped, toPy, PyData.canLay0, PyData.depth]
theorem cmpOk_bl (i : Bool) : cmpOk (.bl i) = true := by simp [cmpOk, pln, SeqAt.shaped, toPy, PyData.canLay0, PyData.depth]
theorem eqD_int (i j : Int) : eqD (.int i) (.int j) = decide (i = j) := by
  show (i == j) = decide (i = j)
  exact Bool.beq_eq_decide_eq i j
theorem eqD_bl (i j : Bool) : eqD (.bl i) (.bl j) = decide (i = j) := by
  show (i == j) = decide (i = j)
  cases i <;> cases j <;> rfl
theorem os_eqG {G H : Hp} {x y : V} {d e : D} {Q : VK} (eg : Same G H) (r1 : Rep k G x d) (r2 : Rep k G y e) (h1 : cmpOk d = true) (h2 : cmpOk e = true) (q : Q (.bl (eqD d e)) H) : rEqD k.K x y H Q :=
  ⟨_, _, r1.dp eg (cmp_split h1).1, r2.dp eg (cmp_split h2).1, (cmp_split h1).2, (cmp_split h2).2, q⟩
theorem os_eq : OpS k (rEqD k.K) fEq := by
  intro G H x y d e A Q eg r1 r2 hf q
  have gen : cmpOk d = true → cmpOk e = true → A (.bl (eqD d e)) → rEqD k.K x y H Q := fun h1 h2 h3 => os_eqG eg r1 r2 h1 h2 (q _ _ G H (.refl eg) (.bl _) h3)
  unfold fEq at hf
  split at hf
  · exact gen (cmpOk_int _) (cmpOk_int _) (by rw [eqD_int]; exact hf)
  · exact gen (cmpOk_bl _) (cmpOk_bl _) (by rw [eqD_bl]; exact hf)
  · exact gen hf.1 hf.2.1 hf.2.2
theorem os_ne : OpS k (rNeD k.K) fNe := by
  intro G H x y d e A Q eg r1 r2 hf q
  have gen : cmpOk d = true → cmpOk e = true → A (.bl (!eqD d e)) → rNeD k.K x y H Q := fun h1 h2 h3 =>
    ⟨_, _, r1.dp eg (cmp_split h1).1, r2.dp eg (cmp_split h2).1, (cmp_split h1).2, (cmp_split h2).2, q _ _ G H (.refl eg) (.bl _) h3⟩
  unfold fNe at hf
  split at hf
  · exact gen (cmpOk_int _) (cmpOk_int _) (by rw [eqD_int]; exact hf)
  · exact gen (cmpOk_bl _) (cmpOk_bl _) (by rw [eqD_bl]; exact hf)
  · exact gen hf.1 hf.2.1 hf.2.2
theorem os_lt {r : R2} (hr : ∀ x y H Q, rI0 (fun i j => .bl (decide (i < j))) x y H Q ∨ rLtT k.K x y H Q → r x y H Q) : OpS k r fLt := by
  intro G H x y d e A Q eg r1 r2 hf q
  refine hr _ _ _ _ ?_
  cases r1 with
  | int i =>
    cases r2 with
    | int j => exact .inl ⟨i, j, rfl, rfl, q _ _ G H (.refl eg) (.bl _) hf⟩
    | _ => exact hf.elim
  | @tup a vs ds h1 s1 =>
    cases r2 with
    | @tup b ws es h2 s2 =>
      obtain ⟨ns, ms, e1, e2, ha⟩ := hf
      subst e1 e2
      have v1 := s1.ints
      have v2 := s2.ints
      subst v1 v2
      exact .inr ⟨a, b, ns, ms, rfl, rfl, .inl (.inl (eg _ _ h1)), .inl (.inl (eg _ _ h2)), q _ _ G H (.refl eg) (.bl _) ha⟩
    | _ => exact hf.elim
  | _ => exact hf.elim
theorem toPys_ints : ∀ ns : List Int, toPys (ns.map D.int) = ns.map PyData.int
  | [] => rfl
  | n :: r => by
    show PyData.int n :: toPys (r.map D.int) = PyData.int n :: r.map PyData.int
    rw [toPys_ints r]
theorem alike_ints : ∀ ns ms : List Int, PySem.W.alikeAll (ns.map PyData.int) (ms.map PyData.int) = true
  | [], _ => by
    cases ‹List Int› <;> rfl
  | _ :: _, [] => rfl
  | _ :: ns, _ :: ms => alike_ints ns ms
theorem blt_inl (a b : Int) : itemOrd.blt (.inl a) (.inl b) = decide (a < b) := rfl
theorem lex_ints : ∀ ns ms : List Int, PySem.W.dataLt (.list (ns.map PyData.int)) (.list (ms.map PyData.int)) = HT.lexLt ns ms
  | [], [] => by
    show PyProof.Rows.lexLt itemOrd [.inl 0] [.inl 0] = false
    rw [lex_self (O := itemOrd)]
    rfl
  | [], m :: ms => by
    show PyProof.Rows.lexLt itemOrd [.inl 0] (.inl 1 :: _) = true
    rw [lex_diff (O := itemOrd) (by intro z; cases z)]
    rfl
  | n :: ns, [] => by
    show PyProof.Rows.lexLt itemOrd (.inl 1 :: _) [.inl 0] = false
    rw [lex_diff (O := itemOrd) (by intro z; cases z)]
    rfl
  | n :: ns, m :: ms => by
    have ih := lex_ints ns ms
    show PyProof.Rows.lexLt itemOrd (.inl 1 :: .inl n :: PySem.W.keyToksAll (ns.map PyData.int)) (.inl 1 :: .inl m :: PySem.W.keyToksAll (ms.map PyData.int)) = _
    rw [lex_self (O := itemOrd)]
    unfold HT.lexLt
    by_cases h : n = m
    · subst h
      rw [lex_self (O := itemOrd), if_pos rfl]
      exact ih
    · rw [if_neg h, lex_diff (O := itemOrd) (by intro z; exact h (Sum.inl.inj z))]
      rfl
def rLeL (K : PySem.W.Frag) : R2 := fun x y H Q => ∃ ns ms : List Int, Dp K H x (.list (ns.map PyData.int)) ∧ Dp K H y (.list (ms.map PyData.int)) ∧ Q (.bl (!HT.lexLt ms ns)) H
theorem depth_ints : ∀ ns : List Int, PyData.depthAll (ns.map PyData.int) = 0
  | [] => by simp [PyData.depthAll]
  | n :: r => by simp [PyData.depthAll, PyData.depth, depth_ints r]
theorem op_leL {X : Cx} (hu : X.A.units + 64 < cLine) : OpR X (compareOp .LtE) (rLeL X.K) := by
  intro pins s σ H x y v u Q I rx ry h
  obtain ⟨ns, ms, hd, he, q⟩ := h
  obtain ⟨as, r1⟩ := Dp.reads I _ x v hd rx
  obtain ⟨bs, r2⟩ := Dp.reads I _ y u he ry
  refine PySem.W.le_data r1 r2 ?_ (fun z => nomatch z) ?_ ?_
  · exact alike_ints ns ms
  · have : (PyData.list (ns.map PyData.int)).depth ≤ 1 := by simp [PyData.depth, depth_ints]
    omega
  · rw [lex_ints]
    exact ⟨.bl _, H, I, rfl, q⟩
theorem os_le {r : R2} (hr : ∀ x y H Q, rI0 (fun i j => .bl (decide (i ≤ j))) x y H Q ∨ rLeL k.K x y H Q → r x y H Q) : OpS k r fLe := by
  intro G H x y d e A Q eg r1 r2 hf q
  refine hr _ _ _ _ ?_
  cases r1 with
  | int i =>
    cases r2 with
    | int j => exact .inl ⟨i, j, rfl, rfl, q _ _ G H (.refl eg) (.bl _) hf⟩
    | _ => exact hf.elim
  | @lst a vs ds h1 s1 =>
    cases r2 with
    | @lst b ws es h2 s2 =>
      obtain ⟨ns, ms, e1, e2, ha⟩ := hf
      subst e1 e2
      have v1 := s1.ints
      have v2 := s2.ints
      subst v1 v2
      exact .inr ⟨ns, ms, .lst (.inl (.inl (eg _ _ h1))) (dpInts (k := k) (G := G) (H := H) ns), .lst (.inl (.inl (eg _ _ h2))) (dpInts (k := k) (G := G) (H := H) ms), q _ _ G H (.refl eg) (.bl _) ha⟩
    | _ => exact hf.elim
  | _ => exact hf.elim
theorem os_isB : OpS k (fun x y H Q => rIsB x y H Q ∨ (y = .non ∧ Q (.bl (decide (x = .non))) H)) (fIs false) := by
  intro G H x y d e A Q eg r1 r2 hf q
  cases r1 <;> cases r2 <;> first
    | exact hf.elim
    | exact .inl ⟨_, _, rfl, rfl, q _ _ G H (.refl eg) (.bl _) hf⟩
    | exact .inr ⟨rfl, q _ _ G H (.refl eg) (.bl _) hf⟩
theorem os_isNB : OpS k (fun x y H Q => rNotB x y H Q ∨ (y = .non ∧ Q (.bl (!decide (x = .non))) H)) (fIs true) := by
  intro G H x y d e A Q eg r1 r2 hf q
  cases r1 <;> cases r2 <;> first
    | exact hf.elim
    | exact .inl ⟨_, _, rfl, rfl, q _ _ G H (.refl eg) (.bl _) hf⟩
    | exact .inr ⟨rfl, q _ _ G H (.refl eg) (.bl _) hf⟩
theorem inV_ints (i : Int) : ∀ ns : List Int, inV (.int i) (ns.map V.int) = decide (i ∈ ns)
  | [] => rfl
  | n :: r => by
    have ih := inV_ints i r
    unfold inV at ih ⊢
    rw [List.map_cons, List.any_cons, ih]
    show ((n == i) || decide (i ∈ r)) = decide (i ∈ n :: r)
    by_cases h : n = i
    · subst h; simp
    · have h' : ¬ i = n := fun z => h z.symm
      simp [h, h']
theorem flat_ints : ∀ ns : List Int, (ns.map V.int).all flatV = true
  | [] => rfl
  | n :: r => by
    rw [List.map_cons, List.all_cons, flat_ints r]
    rfl
theorem toPys_map (ds : List D) : toPys ds = ds.map toPy := by
  induction ds with
  | nil => rfl
  | cons d r ih =>
    show toPy d :: toPys r = toPy d :: r.map toPy
    rw [ih]
theorem os_in {neg : Bool} {rD : R2} (hD : ∀ x y H Q, (∃ d ds, Dp k.K H x d ∧ Dp k.K H y (.list ds) ∧ SeqAt.shaped d = true ∧ SeqAt.shaped (.list ds) = true ∧ Q (.bl (if neg then !(ds.any fun z => PyData.eqv z d) else ds.any fun z => PyData.eqv z d)) H) → rD x y H Q) :
    OpS k (fun x y H Q => rIn k.K neg x y H Q ∨ rD x y H Q) (fIn neg) := by
  intro G H x y d e A Q eg r1 r2 hf q
  cases r1 with
  | int i =>
    cases r2 with
    | @tup b ws es h2 s2 =>
      obtain ⟨ns, e1, ha⟩ := hf
      subst e1
      have v2 := s2.ints
      subst v2
      exact .inl ⟨b, _, rfl, .inr (.inl (.inl (eg _ _ h2))), rfl, flat_ints ns, by rw [inV_ints]; exact q _ _ G H (.refl eg) (.bl _) ha⟩
    | @lst b ws es h2 s2 =>
      obtain ⟨ns, e1, ha⟩ := hf
      subst e1
      have v2 := s2.ints
      subst v2
      exact .inl ⟨b, _, rfl, .inl (.inl (.inl (eg _ _ h2))), rfl, flat_ints ns, by rw [inV_ints]; exact q _ _ G H (.refl eg) (.bl _) ha⟩
    | _ => exact hf.elim
  | @tup a vs ds h1 s1 =>
    cases r2 with
    | @lst b ws es h2 s2 =>
      obtain ⟨c1, c2, ha⟩ := hf
      have c1' := cmp_split c1
      have c2' := cmp_split c2
      refine .inr (hD _ _ _ _ ⟨toPy (.tup ds), toPys es, (Rep.tup h1 s1).dp eg c1'.1, (Rep.lst h2 s2).dp eg c2'.1, c1'.2, c2'.2, ?_⟩)
      rw [toPys_map, List.any_map]
      exact q _ _ G H (.refl eg) (.bl _) ha
    | _ => exact hf.elim
  | _ => cases r2 <;> exact hf.elim
theorem os_ix : OpS k (rIx k.K) fIx := by
  intro G H x y d e A Q eg r1 r2 hf q
  cases r1 with
  | @tup a vs ds h1 s1 =>
    cases r2 with
    | int i =>
      obtain ⟨z, hz, ha⟩ := hf
      obtain ⟨v, hv, rv⟩ := atI_rep s1 hz
      exact .inr (.inl ⟨a, vs, i, v, rfl, rfl, .inl (.inl (eg _ _ h1)), hv, q _ _ G H (.refl eg) rv ha⟩)
    | _ => exact hf.elim
  | @lst a vs ds h1 s1 =>
    cases r2 with
    | int i =>
      obtain ⟨z, hz, ha⟩ := hf
      obtain ⟨v, hv, rv⟩ := atI_rep s1 hz
      exact .inl ⟨a, vs, i, v, rfl, rfl, .inl (.inl (eg _ _ h1)), hv, q _ _ G H (.refl eg) rv ha⟩
    | _ => exact hf.elim
  | @scr a ns h1 =>
    cases r2 with
    | int i =>
      obtain ⟨z, hz, ha⟩ := hf
      refine .inl ⟨a, _, i, .int z, rfl, rfl, eg.seq h1, ?_, q _ _ G H (.refl eg) (.int z) ha⟩
      unfold atI at hz ⊢
      rw [List.length_map]
      cases e : ixN ns.length i with
      | none => rw [e] at hz; cases hz
      | some j =>
        rw [e] at hz
        have hz' : ns[j]? = some z := hz
        show (ns.map V.int)[j]? = some (.int z)
        rw [List.getElem?_map, hz'] <;> rfl
    | _ => exact hf.elim
  | _ => cases r2 <;> exact hf.elim
theorem us_neg : UnS k (rU fun i => .int (-i)) fNeg := by
  intro G H x d A Q eg r1 hf q
  cases r1 with
  | int i => exact ⟨i, rfl, q _ _ G H (.refl eg) (.int _) hf⟩
  | _ => exact hf.elim
end
/-! ### with the context -/
abbrev rAddX (K : PySem.W.Frag) : R2 := fun x y H Q => (rI0 (fun i j => .int (i + j)) x y H Q ∨ rCatA K x y H Q) ∨ rCat x y H Q
abbrev rSubX : R2 := rI0 fun i j => .int (i - j)
abbrev rMulX : R2 := rI CMul fun i j => .int (i * j)
abbrev rDivX : R2 := rI CDiv fun i j => .int (i / j)
abbrev rModX : R2 := rI (fun _ j => 0 < j) fun i j => .int (i % j)
abbrev rPowX : R2 := rI CPow fun i j => .int (i ^ j.toNat)
abbrev rLtX (K : PySem.W.Frag) : R2 := fun x y H Q => rI0 (fun i j => .bl (decide (i < j))) x y H Q ∨ rLtT K x y H Q
abbrev rLeX (K : PySem.W.Frag) : R2 := fun x y H Q => rI0 (fun i j => .bl (decide (i ≤ j))) x y H Q ∨ rLeL K x y H Q
abbrev rGtX : R2 := rI0 fun i j => .bl (decide (j < i))
abbrev rGeX : R2 := rI0 fun i j => .bl (decide (j ≤ i))
abbrev rIsX : R2 := fun x y H Q => rIsB x y H Q ∨ (y = .non ∧ Q (.bl (decide (x = .non))) H)
abbrev rIsNX : R2 := fun x y H Q => rNotB x y H Q ∨ (y = .non ∧ Q (.bl (!decide (x = .non))) H)
abbrev rInX (K : PySem.W.Frag) : R2 := fun x y H Q => rIn K false x y H Q ∨ rInD K x y H Q
abbrev rNotInX (K : PySem.W.Frag) : R2 := fun x y H Q => rIn K true x y H Q ∨ rNotInD K x y H Q
section
variable {X : Cx} {k : Kx}
theorem x_add (hK : X.K = k.K := by rfl) : OpX X k (binaryOp .Add) (rAddX k.K) fAdd := by
  obtain ⟨K0, c⟩ := k
  cases hK
  exact ⟨(op_add.or op_catA).or op_cat, os_add fun _ _ _ _ h => h⟩
theorem x_sub : OpX X k (binaryOp .Sub) rSubX fSub := ⟨op_sub, os_I0 fun _ _ _ => .int _⟩
theorem x_mul : OpX X k (binaryOp .Mult) rMulX fMul := ⟨op_mul, os_IC fun _ _ _ => .int _⟩
theorem x_div : OpX X k (binaryOp .FloorDiv) rDivX fDiv := ⟨op_fdiv, os_IC fun _ _ _ => .int _⟩
theorem x_mod : OpX X k (binaryOp .Mod) rModX fMod := ⟨op_mod, os_IC fun _ _ _ => .int _⟩
theorem x_pow : OpX X k (binaryOp .Pow) rPowX fPow := ⟨op_pow, os_IC fun _ _ _ => .int _⟩
theorem x_lt (hu : X.A.units + 65 < cLine) (hK : X.K = k.K := by rfl) : OpX X k (compareOp .Lt) (rLtX k.K) fLt := by
  obtain ⟨K0, c⟩ := k
  cases hK
  exact ⟨op_lt.or (op_ltT (by omega)), os_lt fun _ _ _ _ h => h⟩
theorem x_le (hu : X.A.units + 65 < cLine) (hK : X.K = k.K := by rfl) : OpX X k (compareOp .LtE) (rLeX k.K) fLe := by
  obtain ⟨K0, c⟩ := k
  cases hK
  exact ⟨op_le.or (op_leL (by omega)), os_le fun _ _ _ _ h => h⟩
theorem x_gt : OpX X k (compareOp .Gt) rGtX fGt := ⟨op_gt, os_I0 fun _ _ _ => .bl _⟩
theorem x_ge : OpX X k (compareOp .GtE) rGeX fGe := ⟨op_ge, os_I0 fun _ _ _ => .bl _⟩
theorem x_eq (hu : X.A.units + 65 < cLine) (hK : X.K = k.K := by rfl) : OpX X k (compareOp .Eq) (rEqD k.K) fEq := by
  obtain ⟨K0, c⟩ := k
  cases hK
  exact ⟨op_eqD (by omega), os_eq⟩
theorem x_ne (hu : X.A.units + 65 < cLine) (hK : X.K = k.K := by rfl) : OpX X k (compareOp .NotEq) (rNeD k.K) fNe := by
  obtain ⟨K0, c⟩ := k
  cases hK
  exact ⟨op_neD (by omega), os_ne⟩
theorem x_is : OpX X k (compareOp .Is) rIsX (fIs false) := ⟨op_isBl.or op_isN, os_isB⟩
theorem x_isnot : OpX X k (compareOp .IsNot) rIsNX (fIs true) := ⟨op_notBl.or op_notN, os_isNB⟩
theorem x_in (hu : X.A.units + 65 < cLine) (hK : X.K = k.K := by rfl) : OpX X k (compareOp .In) (rInX k.K) (fIn false) := by
  obtain ⟨K0, c⟩ := k
  cases hK
  exact ⟨op_in_seq.or (op_inD hu), os_in fun _ _ _ _ h => by
  obtain ⟨d, ds, h1, h2, h3, h4, h5⟩ := h
  exact ⟨d, ds, h1, h2, h3, h4, h5⟩⟩
theorem x_notin (hu : X.A.units + 65 < cLine) (hK : X.K = k.K := by rfl) : OpX X k (compareOp .NotIn) (rNotInX k.K) (fIn true) := by
  obtain ⟨K0, c⟩ := k
  cases hK
  exact ⟨op_notIn_seq.or (op_notInD hu), os_in fun _ _ _ _ h => by
  obtain ⟨d, ds, h1, h2, h3, h4, h5⟩ := h
  exact ⟨d, ds, h1, h2, h3, h4, h5⟩⟩
end
end Ab
set_option maxHeartbeats 4000000
namespace Ab
open PySem PySem.Spec PyProof.Rows L2

structure AEnds where
  nx : Env → Prop
  rt : D → Env → Prop
  ro : List D → Env → Prop := fun _ _ => False
  bk : Env → Prop := fun _ => False
  ct : Env → Prop := fun _ => False
abbrev AS := AEnds → Env → Prop
abbrev AG := D → Env → (Env → Prop) → Prop
abbrev AI := Env → (List D → Env → Prop) → Prop

structure Post (k : Kx) (G : Hp) (M : Addr → Prop) (H : Hp) (A : AEnds) (E : Ends) : Prop where
  nx : ∀ G' M' σ' H' δ', Stt k G' M' σ' H' δ' → Tr G M H G' M' H' → A.nx δ' → E.nx σ' H'
  bk : ∀ G' M' σ' H' δ', Stt k G' M' σ' H' δ' → Tr G M H G' M' H' → A.bk δ' → E.bk σ' H'
  ct : ∀ G' M' σ' H' δ', Stt k G' M' σ' H' δ' → Tr G M H G' M' H' → A.ct δ' → E.ct σ' H'
  rt : ∀ v d G' M' σ' H' δ', Stt k G' M' σ' H' δ' → Tr G M H G' M' H' → Rep k G' v d → A.rt d δ' → E.rt v H'
  ro : ∀ p vs ds G' M' σ' H' δ', Stt k G' M' σ' H' δ' → Tr G M H G' M' H' → ¬ M' p → G' p = none → (M p ∨ H p = none) → H' p = some (.lst vs) → Reps k G' vs ds → A.ro ds δ' → E.rt (.ref p) H'
def SimS (k : Kx) (ts : TS) (as : AS) : Prop := ∀ (G : Hp) (M : Addr → Prop) (σ : L2.St) (H : Hp) (δ : Env) (A : AEnds) (E : Ends), Stt k G M σ H δ → as A δ → Post k G M H A E → ts E σ H
structure SimG (k : Kx) (g : TG) (ag : AG) (ws : List Nat) : Prop where
  run : ∀ (G : Hp) (M : Addr → Prop) (σ : L2.St) (H : Hp) (δ : Env) (v : V) (d : D) (A : Env → Prop) (Q : L2.St → Hp → Prop), Stt k G M σ H δ → Rep k G v d → ag d δ A →
    (∀ G' M' σ' H' δ', Stt k G' M' σ' H' δ' → Tr G M H G' M' H' → (σ'.length = σ.length ∧ ∀ i, i ∉ ws → σ'[i]? = σ[i]?) → A δ' → Q σ' H') → g v σ H Q
/-- the items of an iterator are known -/
structure IterOk (k : Kx) (G1 : Hp) (J : It) (ds : List D) : Prop where
  go : ∀ i H, Same G1 H → i < ds.length → J.go i H
  stop : ∀ H, Same G1 H → J.stop ds.length H
  yld : ∀ i d G H x H', Same G1 G → Same G H → ds[i]? = some d → J.yld i H x H' → ∃ G', Grow G H G' H' ∧ Rep k G' x d
def SimI (k : Kx) (wi : TI) (ai : AI) : Prop := ∀ (G : Hp) (M : Addr → Prop) (σ : L2.St) (H : Hp) (δ : Env) (A : List D → Env → Prop) (R : It → Hp → Prop), Stt k G M σ H δ → ai δ A →
  (∀ J ds G' M' H' δ', Stt k G' M' σ H' δ' → Tr G M H G' M' H' → IterOk k G' J ds → A ds δ' → R J H') → wi σ H R
section
variable {k : Kx} {G G1 G2 H H1 H2 : Hp} {M M1 M2 : Addr → Prop} {A : AEnds} {E : Ends}
theorem Tr.free {p : Addr} (t : Tr G M H G1 M1 H1) (h : H1 p = none) : H p = none := by
  cases e : H p with
  | none => rfl
  | some o => exact absurd h (t.up p (by rw [e]; exact fun z => nomatch z))
theorem Tr.own2 {p : Addr} (t : Tr G M H G1 M1 H1) (h : M1 p ∨ H1 p = none) : M p ∨ H p = none := h.elim (t.own p) fun q => .inr (t.free q)
theorem Post.step (t : Tr G M H G1 M1 H1) (p : Post k G M H A E) : Post k G1 M1 H1 A E where
  nx := fun G' M' σ' H' δ' s u h => p.nx G' M' σ' H' δ' s (t.trans u) h
  bk := fun G' M' σ' H' δ' s u h => p.bk G' M' σ' H' δ' s (t.trans u) h
  ct := fun G' M' σ' H' δ' s u h => p.ct G' M' σ' H' δ' s (t.trans u) h
  rt := fun v d G' M' σ' H' δ' s u r h => p.rt v d G' M' σ' H' δ' s (t.trans u) r h
  ro := fun q vs ds G' M' σ' H' δ' s u n g hq hl r h => p.ro q vs ds G' M' σ' H' δ' s (t.trans u) n g (t.own2 hq) hl r h
end

/-! ### statements -/
def aNext : AS := fun A δ => A.nx δ
def aSeq (s t : AS) : AS := fun A δ => s { A with nx := t A } δ
def aIf (t : AT) (a b : AS) : AS := fun A δ => t δ fun x δ1 => if x = true then a A δ1 else b A δ1
def aSet (i : Nat) (a : AE) : AS := fun A δ => a δ fun d δ1 => A.nx (ss δ1 i (.da d))
def aSetO (i : Nat) (a : AO) : AS := fun A δ => a δ fun ds δ1 => ∀ l, A.nx (ss δ1 i (.mu l ds))
def aSetG (a : AE) (g : AG) : AS := fun A δ => a δ fun d δ1 => g d δ1 A.nx
def aDrop (a : AE) : AS := fun A δ => a δ fun _ δ1 => A.nx δ1
def aRet (a : AE) : AS := fun A δ => a δ A.rt
def aRetO (a : AO) : AS := fun A δ => a δ A.ro
def aBreak : AS := fun A δ => A.bk δ
def aCont : AS := fun A δ => A.ct δ
def aNever : AS := fun _ _ => False
def agName (i : Nat) : AG := fun d δ A => A (ss δ i (.da d))
def agN : List Nat → List D → Env → (Env → Prop) → Prop
  | [], [], δ, A => A δ
  | i :: is, x :: xs, δ, A => agN is xs (ss δ i (.da x)) A
  | _, _, _, _ => False
def agTup (is : List Nat) : AG := fun d δ A => isT d fun xs => agN is xs δ A
def gNs : List Nat → TGs
  | [] => gNil
  | i :: is => gCons (gName i) (gNs is)
/-- the methods of one's own list, as statements -/
def aApp (j : Nat) (a : AE) : AS := fun A δ => isM (gs δ j) fun l _ => a δ fun d δ1 => isM (gs δ1 j) fun l' ds => l' = l ∧ ds.length < 16777216 ∧ A.nx (ss δ1 j (.mu l (ds ++ [d])))
def aExt (j : Nat) (a : AE) : AS := fun A δ => isM (gs δ j) fun l _ => a δ fun d δ1 => isM (gs δ1 j) fun l' ds => l' = l ∧ isL d fun es => ds.length + es.length ≤ 16777216 ∧ A.nx (ss δ1 j (.mu l (ds ++ es)))
def aIns (j : Nat) (a b : AE) : AS := fun A δ => isM (gs δ j) fun l _ => a δ fun x δ1 => b δ1 fun d δ2 => isM (gs δ2 j) fun l' ds => l' = l ∧ isI x fun i => 0 ≤ i ∧ i < 2 ^ 63 ∧ ds.length < 16777216 ∧ A.nx (ss δ2 j (.mu l (ds.take i.toNat ++ [d] ++ ds.drop i.toNat)))
def aClr (j : Nat) : AS := fun A δ => isM (gs δ j) fun l _ => A.nx (ss δ j (.mu l []))
def aPut (j : Nat) (b a : AE) : AS := fun A δ => a δ fun d δ1 => isM (gs δ1 j) fun l _ => b δ1 fun x δ2 => isM (gs δ2 j) fun l' ds => l' = l ∧ isI x fun i => ∃ n, ixN ds.length i = some n ∧ A.nx (ss δ2 j (.mu l (ds.set n d)))
section
variable {k : Kx} {ta tb te : TE} {a b : AE} {t u : TS} {s s2 : AS} {tt : TT} {p : AT}
theorem ss_next : SimS k tNext aNext := fun G M σ H δ A E s h q => q.nx G M σ H δ s .refl h
theorem ss_seq (h1 : SimS k t s) (h2 : SimS k u s2) : SimS k (tSeq t u) (aSeq s s2) := fun G M σ H δ A E st h q =>
  h1 G M σ H δ { A with nx := s2 A } { E with nx := u E } st h
    ⟨fun G' M' σ' H' δ' st' tr h' => h2 G' M' σ' H' δ' A E st' h' (q.step tr), q.bk, q.ct, q.rt, q.ro⟩
theorem ss_if (h0 : SimT k tt p) (h1 : SimS k t s) (h2 : SimS k u s2) : SimS k (tIfS tt t u) (aIf p s s2) := fun G M σ H δ A E st h q => h0 G M σ H δ _ _ st h fun c G1 M1 H1 δ1 st1 t1 h3 => by
  cases c with
  | true =>
    rw [if_pos rfl] at h3 ⊢
    exact h1 G1 M1 σ H1 δ1 A E st1 h3 (q.step t1)
  | false =>
    rw [if_neg Bool.false_ne_true] at h3 ⊢
    exact h2 G1 M1 σ H1 δ1 A E st1 h3 (q.step t1)
theorem ss_set {i : Nat} (ha : SimE k ta a) : SimS k (tAsg ta (gName i)) (aSet i a) := fun G M σ H δ A E st h q => ha G M σ H δ _ _ st h fun v d G1 M1 H1 δ1 st1 t1 r1 h1 => q.nx G1 M1 _ H1 _ (st1.setDa r1) t1 h1
theorem ss_setO {i : Nat} {ao : AO} (ha : SimO k ta ao) : SimS k (tAsg ta (gName i)) (aSetO i ao) := fun G M σ H δ A E st h q => ha G M σ H δ _ _ st h fun p vs ds G1 M1 H1 δ1 st1 t1 nm gp hp hl r1 h1 =>
  q.nx G1 _ _ H1 _ (st1.setMu nm gp hl r1) (t1.addM hp) (h1 p)
theorem ss_setG {g : TG} {ag : AG} {ws : List Nat} (ha : SimE k ta a) (hg : SimG k g ag ws) : SimS k (tAsg ta g) (aSetG a ag) := fun G M σ H δ A E st h q => ha G M σ H δ _ _ st h fun v d G1 M1 H1 δ1 st1 t1 r1 h1 =>
  hg.run G1 M1 σ H1 δ1 v d _ _ st1 r1 h1 fun G2 M2 σ2 H2 δ2 st2 t2 _ h2 => q.nx G2 M2 σ2 H2 δ2 st2 (t1.trans t2) h2
theorem ss_drop (ha : SimE k ta a) : SimS k (tDrop ta) (aDrop a) := fun G M σ H δ A E st h q => ha G M σ H δ _ _ st h fun v d G1 M1 H1 δ1 st1 t1 r1 h1 => q.nx G1 M1 σ H1 δ1 st1 t1 h1
theorem ss_ret (ha : SimE k ta a) : SimS k (tRet ta) (aRet a) := fun G M σ H δ A E st h q => ha G M σ H δ _ _ st h fun v d G1 M1 H1 δ1 st1 t1 r1 h1 => q.rt v d G1 M1 σ H1 δ1 st1 t1 r1 h1
theorem ss_retO {ao : AO} (ha : SimO k ta ao) : SimS k (tRet ta) (aRetO ao) := fun G M σ H δ A E st h q => ha G M σ H δ _ _ st h fun p vs ds G1 M1 H1 δ1 st1 t1 nm gp hp hl r1 h1 =>
  q.ro p vs ds G1 M1 σ H1 δ1 st1 t1 nm gp hp hl r1 h1
theorem ss_break : SimS k tBreak aBreak := fun G M σ H δ A E s h q => q.bk G M σ H δ s .refl h
theorem ss_cont : SimS k tCont aCont := fun G M σ H δ A E s h q => q.ct G M σ H δ s .refl h
theorem ss_never : SimS k tNever aNever := fun _ _ _ _ _ _ _ _ h _ => h
theorem sg_name {i : Nat} : SimG k (gName i) (agName i) [i] := ⟨fun G M σ H δ v d A Q st r h q => q G M _ H _ (st.setDa r) .refl ⟨List.length_set .., fun j hj => by
  rw [get_set, if_neg (fun e => hj (by rw [e]; exact List.mem_singleton.mpr rfl))]⟩ h⟩
theorem sgs_names {G : Hp} {M : Addr → Prop} {H : Hp} : ∀ (is : List Nat) (σ : L2.St) (δ : Env) (vs : List V) (xs : List D) (A : Env → Prop) (Q : L2.St → Hp → Prop), Stt k G M σ H δ → Reps k G vs xs → agN is xs δ A →
    (∀ σ' δ', Stt k G M σ' H δ' → (σ'.length = σ.length ∧ ∀ i, i ∉ is → σ'[i]? = σ[i]?) → A δ' → Q σ' H) → gNs is vs σ H Q
  | [], σ, δ, vs, xs, A, Q, st, r, h, q => by
    cases r with
    | nil => exact ⟨rfl, q σ δ st ⟨rfl, fun _ _ => rfl⟩ h⟩
    | cons _ _ => exact h.elim
  | i :: is, σ, δ, vs, xs, A, Q, st, r, h, q => by
    cases r with
    | nil => exact h.elim
    | cons r1 rr =>
      refine ⟨_, _, rfl, ?_⟩
      refine sgs_names is _ _ _ _ A Q (st.setDa r1) rr h fun σ' δ' st' k' h' => q σ' δ' st' ⟨by rw [k'.1, List.length_set], fun j hj => ?_⟩ h'
      rw [k'.2 j (fun z => hj (List.mem_cons_of_mem _ z)), get_set, if_neg (fun e => hj (by rw [e]; exact List.mem_cons_self))]
theorem agN_len {is : List Nat} {xs : List D} {δ : Env} {A : Env → Prop} (h : agN is xs δ A) : xs.length = is.length := by
  induction is generalizing xs δ with
  | nil => cases xs with
    | nil => rfl
    | cons _ _ => exact h.elim
  | cons i is ih => cases xs with
    | nil => exact h.elim
    | cons x xs =>
      have h' : agN is xs (ss δ i (.da x)) A := h
      rw [List.length_cons, List.length_cons, ih h']
theorem sg_tup {is : List Nat} {n : Nat} (hn : n = is.length) : SimG k (gTup k.K n (gNs is)) (agTup is) is := ⟨fun G M σ H δ v d A Q st r h q => by
  cases r with
  | @tup a vs ds h1 s1 =>
    have h' : agN is ds δ A := h
    refine ⟨a, vs, rfl, .inl (.inl (st.ex _ _ h1)), by rw [s1.length, hn]; exact agN_len h', ?_⟩
    exact sgs_names is σ δ vs ds A Q st s1 h' fun σ' δ' st' k' h'' => q G M σ' H δ' st' .refl k' h''
  | _ => exact h.elim⟩
theorem ss_app {j : Nat} (ha : SimE k ta a) : SimS k (tDrop (tBM k.K "list" rAppend (tVar j) (tCons ta tNil))) (aApp j a) := fun G M σ H δ A E s h q => by
  obtain ⟨l, es, e, h⟩ := isM_elim h
  obtain ⟨w1, _, ws, wl, _⟩ := s.mu e
  refine ⟨.ref l, w1, .inl ⟨rfl, ws, .inl (.inl wl)⟩, ha G M σ H δ _ _ s h fun y d G1 M1 H1 δ1 s1 t1 r1 h1 => ?_⟩
  obtain ⟨l', ds, e1, h3⟩ := isM_elim h1
  obtain ⟨el, h4, h5⟩ := h3
  subst el
  obtain ⟨_, _, vs, hl, rs⟩ := s1.mu e1
  obtain ⟨s2, t2⟩ := s1.upMu e1 (rs.append (.one r1))
  exact ⟨l', vs, y, rfl, rfl, hl, by rw [rs.length]; exact line_lt h4, q.nx G1 M1 σ _ _ s2 (t1.trans t2) h5⟩
theorem ss_ext {j : Nat} (ha : SimE k ta a) : SimS k (tDrop (tBM k.K "list" rExtend (tVar j) (tCons ta tNil))) (aExt j a) := fun G M σ H δ A E s h q => by
  obtain ⟨l, es, e, h⟩ := isM_elim h
  obtain ⟨w1, _, ws, wl, _⟩ := s.mu e
  refine ⟨.ref l, w1, .inl ⟨rfl, ws, .inl (.inl wl)⟩, ha G M σ H δ _ _ s h fun y d G1 M1 H1 δ1 s1 t1 r1 h1 => ?_⟩
  obtain ⟨l', ds, e1, h3⟩ := isM_elim h1
  obtain ⟨el, h4⟩ := h3
  subst el
  obtain ⟨_, _, vs, hl, rs⟩ := s1.mu e1
  cases r1 with
  | @lst b us fs hb rb =>
    obtain ⟨h5, h6⟩ := h4
    obtain ⟨s2, t2⟩ := s1.upMu e1 (rs.append rb)
    exact ⟨l', b, vs, us, rfl, rfl, hl, s1.ex _ _ hb, by rw [rs.length, rb.length]; exact line_le h5, q.nx G1 M1 σ _ _ s2 (t1.trans t2) h6⟩
  | _ => exact h4.elim
theorem ss_ins {j : Nat} (ha : SimE k ta a) (hb : SimE k tb b) : SimS k (tDrop (tBM k.K "list" (fun x vs H Q => ∃ (l : Addr) (xs : List V) (i : Int) (y : V), x = .ref l ∧ vs = [.int i, y] ∧ H l = some (.lst xs) ∧ xs.length < sizeLine ∧ 0 ≤ i ∧ i < 2 ^ 63 ∧
    Q .non (upd H l (.lst (xs.take i.toNat ++ [y] ++ xs.drop i.toNat)))) (tVar j) (tCons ta (tCons tb tNil)))) (aIns j a b) := fun G M σ H δ A E s h q => by
  obtain ⟨l, es, e, h⟩ := isM_elim h
  obtain ⟨w1, _, ws, wl, _⟩ := s.mu e
  refine ⟨.ref l, w1, .inl ⟨rfl, ws, .inl (.inl wl)⟩, ha G M σ H δ _ _ s h fun x dx G1 M1 H1 δ1 s1 t1 r1 h1 => hb G1 M1 σ H1 δ1 _ _ s1 h1 fun y d G2 M2 H2 δ2 s2 t2 r2 h2 => ?_⟩
  obtain ⟨l', ds, e1, h3⟩ := isM_elim h2
  obtain ⟨el, h4⟩ := h3
  subst el
  obtain ⟨i, ei, i0, i1, h5, h6⟩ := isI_elim h4
  subst ei
  have ex := r1.int_eq
  subst ex
  obtain ⟨_, _, vs, hl, rs⟩ := s2.mu e1
  obtain ⟨s3, t3⟩ := s2.upMu e1 (((rs.take i.toNat).append (.one r2)).append (rs.drop i.toNat))
  exact ⟨l', vs, i, y, rfl, rfl, hl, by rw [rs.length]; exact line_lt h5, i0, i1, q.nx G2 M2 σ _ _ s3 ((t1.trans t2).trans t3) h6⟩
theorem ss_clr {j : Nat} : SimS k (tDrop (tBM0 k.K "list" rClear (tVar j))) (aClr j) := fun G M σ H δ A E s h q => by
  obtain ⟨l, es, e, h⟩ := isM_elim h
  obtain ⟨w1, _, ws, wl, _⟩ := s.mu e
  obtain ⟨s3, t3⟩ := s.upMu e .nil
  exact ⟨.ref l, w1, .inl ⟨rfl, ws, .inl (.inl wl)⟩, l, ws, rfl, rfl, wl, q.nx G M σ _ _ s3 t3 h⟩
theorem ss_put {j : Nat} (hb : SimE k tb b) (ha : SimE k ta a) : SimS k (tAsg ta (gSub (tVar j) tb rSetL)) (aPut j b a) := fun G M σ H δ A E s h q =>
  ha G M σ H δ _ _ s h fun x dx G1 M1 H1 δ1 s1 t1 r1 h1 => by
    obtain ⟨l, es, e, h⟩ := isM_elim h1
    obtain ⟨w1, _, ws, wl, _⟩ := s1.mu e
    refine ⟨.ref l, w1, hb G1 M1 σ H1 δ1 _ _ s1 h fun y d G2 M2 H2 δ2 s2 t2 r2 h2 => ?_⟩
    obtain ⟨l', ds, e1, h3⟩ := isM_elim h2
    obtain ⟨el, h4⟩ := h3
    subst el
    obtain ⟨i, ei, n, hn, h6⟩ := isI_elim h4
    subst ei
    have ex := r2.int_eq
    subst ex
    obtain ⟨_, _, vs, hl, rs⟩ := s2.mu e1
    obtain ⟨s3, t3⟩ := s2.upMu e1 (Reps.set (r1.mono t2.exG) n rs)
    exact ⟨l', vs, i, n, rfl, rfl, hl, by rw [rs.length]; exact hn, q.nx G2 M2 σ _ _ s3 ((t1.trans t2).trans t3) h6⟩
end

/-! ### loops -/
def aFor (ai : AI) (ag : AG) (body : AS) : AS := fun A δ => ai δ fun ds δ1 => ∃ I : List D → Env → Prop, I ds δ1 ∧
  (∀ d r δ2, I (d :: r) δ2 → ag d δ2 fun δ3 => body { A with nx := I r, ct := I r, bk := A.nx } δ3) ∧ ∀ δ2, I [] δ2 → A.nx δ2
/-- over one's own list, which the body leaves as it is -/
def aForM (j : Nat) (ag : AG) (body : AS) : AS := fun A δ => isM (gs δ j) fun l ds => ∃ I : List D → Env → Prop, I ds δ ∧
  (∀ r δ2, I r δ2 → gs δ2 j = .mu l ds) ∧
  (∀ d r δ2, I (d :: r) δ2 → ag d δ2 fun δ3 => body { A with nx := I r, ct := I r, bk := A.nx } δ3) ∧ ∀ δ2, I [] δ2 → A.nx δ2
def aWhile (p : AT) (body : AS) : AS := fun A δ => ∃ I : Nat → Env → Prop, (∃ n, I n δ) ∧ ∀ n δ1, I n δ1 → p δ1 fun c δ2 =>
  if c = true then body { A with nx := fun δ3 => ∃ m, m < n ∧ I m δ3, ct := fun δ3 => ∃ m, m < n ∧ I m δ3, bk := A.nx } δ2 else A.nx δ2
section
variable {k : Kx} {wi : TI} {ai : AI} {g : TG} {ag : AG} {ws : List Nat} {t : TS} {s : AS} {tt : TT} {p : AT}
theorem drop_at {ds : List D} {i : Nat} (h : i < ds.length) : ∃ d, ds[i]? = some d ∧ ds.drop i = d :: ds.drop (i + 1) := ⟨ds[i], List.getElem?_eq_getElem h, List.drop_eq_getElem_cons h⟩
theorem ss_for (hi : SimI k wi ai) (hg : SimG k g ag ws) (hb : SimS k t s) : SimS k (tFor wi g t) (aFor ai ag s) := fun G M σ H δ A E st h q =>
  hi G M σ H δ _ _ st h fun J ds G1 M1 H1 δ1 st1 t1 ok h1 => by
    obtain ⟨I, i0, turn, fin⟩ := h1
    refine ⟨fun i m σ' H' => i + m = ds.length ∧ ∃ G' M' δ', Stt k G' M' σ' H' δ' ∧ Tr G1 M1 H1 G' M' H' ∧ I (ds.drop i) δ', ⟨ds.length, Nat.zero_add _, G1, M1, δ1, st1, .refl, i0⟩, ?_⟩
    rintro i m σ' H' ⟨em, G', M', δ', st', t', hI⟩
    by_cases hlt : i < ds.length
    · obtain ⟨d, hd, ed⟩ := drop_at hlt
      rw [ed] at hI
      have sg : Same G1 H' := t'.exG.trans st'.ex
      refine .inr ⟨ok.go i H' sg hlt, fun σ2 H2 => ∃ G2 M2 δ2, Stt k G2 M2 σ2 H2 δ2 ∧ Tr G1 M1 H1 G2 M2 H2 ∧ I (ds.drop (i + 1)) δ2, fun σ2 H2 h2 => ⟨m - 1, by omega, by omega, h2⟩, fun x H2 hy => ?_⟩
      obtain ⟨G2, gr, rx⟩ := ok.yld i d G' H' x H2 t'.exG st'.ex hd hy
      have st2 := st'.grow gr
      have t2 : Tr G1 M1 H1 G2 M' H2 := t'.trans gr.tr
      refine hg.run G2 M' σ' H2 δ' x d _ _ st2 rx (turn d _ δ' hI) fun G3 M3 σ3 H3 δ3 st3 t3 _ h3 => ?_
      refine hb G3 M3 σ3 H3 δ3 _ _ st3 h3 ⟨fun G4 M4 σ4 H4 δ4 st4 t4 h4 => ⟨G4, M4, δ4, st4, (t2.trans t3).trans t4, h4⟩, fun G4 M4 σ4 H4 δ4 st4 t4 h4 => ?_, fun G4 M4 σ4 H4 δ4 st4 t4 h4 => ⟨G4, M4, δ4, st4, (t2.trans t3).trans t4, h4⟩, fun v e G4 M4 σ4 H4 δ4 st4 t4 r4 h4 => ?_, fun pp vs es G4 M4 σ4 H4 δ4 st4 t4 nm gp hp hl r4 h4 => ?_⟩
      · exact q.nx G4 M4 σ4 H4 δ4 st4 (t1.trans ((t2.trans t3).trans t4)) h4
      · exact q.rt v e G4 M4 σ4 H4 δ4 st4 (t1.trans ((t2.trans t3).trans t4)) r4 h4
      · exact q.ro pp vs es G4 M4 σ4 H4 δ4 st4 (t1.trans ((t2.trans t3).trans t4)) nm gp ((t1.trans (t2.trans t3)).own2 hp) hl r4 h4
    · have ei : i = ds.length := by omega
      subst ei
      rw [List.drop_length] at hI
      exact .inl ⟨ok.stop H' (t'.exG.trans st'.ex), q.nx G' M' σ' H' δ' st' (t1.trans t') (fin δ' hI)⟩
theorem ss_forM {j : Nat} (hg : SimG k g ag ws) (hj : j ∉ ws) (hb : SimS k t s) : SimS k (tFor (iList k.K (tVar j)) g t) (aForM j ag s) := fun G M σ H δ A E st h q => by
  obtain ⟨l, ds, e, I, i0, held, turn, fin⟩ := isM_elim h
  obtain ⟨w1, _, vs, wl, _⟩ := st.mu e
  refine ⟨.ref l, w1, l, rfl, ⟨vs, .inl (.inl wl)⟩, fun i m σ' H' => i + m = ds.length ∧ ∃ G' M' δ', Stt k G' M' σ' H' δ' ∧ Tr G M H G' M' H' ∧ I (ds.drop i) δ', ⟨ds.length, Nat.zero_add _, G, M, δ, st, .refl, i0⟩, ?_⟩
  rintro i m σ' H' ⟨em, G', M', δ', st', t', hI⟩
  have ej := held _ _ hI
  obtain ⟨_, _, us, ul, ru⟩ := st'.mu ej
  by_cases hlt : i < ds.length
  · obtain ⟨d, hd, ed⟩ := drop_at hlt
    rw [ed] at hI
    obtain ⟨v, hv, rv⟩ := ru.getD hd
    refine .inr ⟨⟨us, v, .inl (.inl ul), hv⟩, fun σ2 H2 => ∃ G2 M2 δ2, Stt k G2 M2 σ2 H2 δ2 ∧ Tr G M H G2 M2 H2 ∧ I (ds.drop (i + 1)) δ2, fun σ2 H2 h2 => ⟨m - 1, by omega, by omega, h2⟩, fun x H2 hy => ?_⟩
    obtain ⟨rfl, fx⟩ := hy
    have ex : x = v := Option.some.inj ((fx us (.inl (.inl ul))).symm.trans hv)
    subst ex
    refine hg.run G' M' σ' _ δ' x d _ _ st' rv (turn d _ δ' hI) fun G3 M3 σ3 H3 δ3 st3 t3 _ h3 => ?_
    refine hb G3 M3 σ3 H3 δ3 _ _ st3 h3 ⟨fun G4 M4 σ4 H4 δ4 st4 t4 h4 => ⟨G4, M4, δ4, st4, (t'.trans t3).trans t4, h4⟩, fun G4 M4 σ4 H4 δ4 st4 t4 h4 => ?_, fun G4 M4 σ4 H4 δ4 st4 t4 h4 => ⟨G4, M4, δ4, st4, (t'.trans t3).trans t4, h4⟩, fun v e G4 M4 σ4 H4 δ4 st4 t4 r4 h4 => ?_, fun pp vs es G4 M4 σ4 H4 δ4 st4 t4 nm gp hp hl r4 h4 => ?_⟩
    · exact q.nx G4 M4 σ4 H4 δ4 st4 ((t'.trans t3).trans t4) h4
    · exact q.rt v e G4 M4 σ4 H4 δ4 st4 ((t'.trans t3).trans t4) r4 h4
    · exact q.ro pp vs es G4 M4 σ4 H4 δ4 st4 ((t'.trans t3).trans t4) nm gp ((t'.trans t3).own2 hp) hl r4 h4
  · have ei : i = ds.length := by omega
    subst ei
    rw [List.drop_length] at hI
    exact .inl ⟨⟨us, .inl (.inl ul), by rw [ru.length]; exact Nat.le_refl _⟩, q.nx G' M' σ' H' δ' st' t' (fin δ' hI)⟩
theorem ss_while (h0 : SimT k tt p) (hb : SimS k t s) : SimS k (tWhile tt t) (aWhile p s) := fun G M σ H δ A E st h q => by
  obtain ⟨I, ⟨n0, i0⟩, turn⟩ := h
  refine ⟨fun n σ' H' => ∃ G' M' δ', Stt k G' M' σ' H' δ' ∧ Tr G M H G' M' H' ∧ I n δ', ⟨n0, G, M, δ, st, .refl, i0⟩, ?_⟩
  rintro n σ' H' ⟨G', M', δ', st', t', hI⟩
  refine h0 G' M' σ' H' δ' _ _ st' (turn n δ' hI) fun c G1 M1 H1 δ1 st1 t1 h1 => ?_
  cases c with
  | false =>
    rw [if_neg Bool.false_ne_true] at h1 ⊢
    exact q.nx G1 M1 σ' H1 δ1 st1 (t'.trans t1) h1
  | true =>
    rw [if_pos rfl] at h1 ⊢
    refine ⟨fun σ2 H2 => ∃ m, m < n ∧ ∃ G2 M2 δ2, Stt k G2 M2 σ2 H2 δ2 ∧ Tr G M H G2 M2 H2 ∧ I m δ2, fun σ2 H2 h2 => h2, ?_⟩
    refine hb G1 M1 σ' H1 δ1 _ _ st1 h1 ⟨fun G4 M4 σ4 H4 δ4 st4 t4 h4 => ?_, fun G4 M4 σ4 H4 δ4 st4 t4 h4 => ?_, fun G4 M4 σ4 H4 δ4 st4 t4 h4 => ?_, fun v e G4 M4 σ4 H4 δ4 st4 t4 r4 h4 => ?_, fun pp vs es G4 M4 σ4 H4 δ4 st4 t4 nm gp hp hl r4 h4 => ?_⟩
    · obtain ⟨m, hm, hi⟩ := h4
      exact ⟨m, hm, G4, M4, δ4, st4, (t'.trans t1).trans t4, hi⟩
    · exact q.nx G4 M4 σ4 H4 δ4 st4 ((t'.trans t1).trans t4) h4
    · obtain ⟨m, hm, hi⟩ := h4
      exact ⟨m, hm, G4, M4, δ4, st4, (t'.trans t1).trans t4, hi⟩
    · exact q.rt v e G4 M4 σ4 H4 δ4 st4 ((t'.trans t1).trans t4) r4 h4
    · exact q.ro pp vs es G4 M4 σ4 H4 δ4 st4 ((t'.trans t1).trans t4) nm gp ((t'.trans t1).own2 hp) hl r4 h4
end

/-! ### what is walked -/
def aiSeq (a : AE) : AI := fun δ A => a δ fun d δ1 => match d with
  | .tup xs => A xs δ1
  | .lst xs => A xs δ1
  | _ => False
def rngD (lo : Int) (n : Nat) : List D := (List.range n).map fun (i : Nat) => D.int (lo + (i : Int))
def aiR1 (a : AA) : AI := fun δ A => a δ fun ds δ1 => match ds with
  | [.int n] => -(2 ^ 62) ≤ n ∧ n < 2 ^ 62 ∧ A (rngD 0 n.toNat) δ1
  | _ => False
def aiR2 (a : AA) : AI := fun δ A => a δ fun ds δ1 => match ds with
  | [.int m, .int n] => (-(2 ^ 62) ≤ m ∧ m < 2 ^ 62 ∧ -(2 ^ 62) ≤ n ∧ n < 2 ^ 62) ∧ A (rngD m (n - m).toNat) δ1
  | _ => False
def iSeq (K : PySem.W.Frag) (tl : TE) : TI := fun σ H R => tl σ H fun x H1 => ∃ a, x = .ref a ∧ (((∃ xs, SqL K H1 a xs) ∧ R (Itl K a) H1) ∨ ((∃ xs, SqT K H1 a xs) ∧ R (Itt K a) H1))
section
variable {X : Cx} {tg : Expr}
theorem pi_seq {l : Expr} {tl : TE} (hl : PE X l tl) : PI X tg l (iSeq X.K tl) := by
  refine ⟨fun pins s σ H R I h => ?_⟩
  refine thn (hl.run pins s σ H _ I h) fun v s1 ⟨x, H1, I1, r1, q1⟩ => ?_
  obtain ⟨a, e, q1⟩ := q1
  subst e
  cases r1
  rcases q1 with ⟨⟨xs, hq⟩, q⟩ | ⟨⟨xs, hq⟩, q⟩
  · obtain ⟨its, rv, p, hz⟩ := I1.list hq
    refine wpAny_pyIter_list p.isList ?_
    refine ⟨s1.heap.objs.size, [s1.heap.objs.size], _, _, H1, rfl, I1.kept (t' := s1.toks) fun b o e => Heap.get?_push_of_some _ e, turn_list a _, ⟨_, Heap.get?_push_size _ rfl, rfl, rfl⟩, fun b hb => ?_, q⟩
    have e : b = s1.heap.objs.size := by simpa using hb
    subst e
    exact I1.fpOk (Nat.le_refl _) (I1.hok.fresh (Nat.le_refl _))
  · obtain ⟨its, rv, p, hz⟩ := I1.tuple hq
    refine wpAny_pyIter_tuple (show s1.heap.IsTuple a its.toArray from p) ?_
    refine ⟨s1.heap.objs.size, [s1.heap.objs.size], _, _, H1, rfl, I1.kept (t' := s1.toks) fun b o e => Heap.get?_push_of_some _ e, turn_tuple a _, ⟨_, Heap.get?_push_size _ rfl, rfl, rfl⟩, fun b hb => ?_, q⟩
    have e : b = s1.heap.objs.size := by simpa using hb
    subst e
    exact I1.fpOk (Nat.le_refl _) (I1.hok.fresh (Nat.le_refl _))
end
section
variable {k : Kx} {ta : TE} {a : AE} {tr : TA} {ar : AA}
theorem itl_ok {G : Hp} {p : Addr} {vs : List V} {ds : List D} (h : G p = some (.lst vs)) (r : Reps k G vs ds) : IterOk k G (Itl k.K p) ds where
  go := fun i H e hi => by
    obtain ⟨v, hv, _⟩ := r.getD (List.getElem?_eq_getElem hi)
    exact ⟨vs, v, .inl (.inl (e _ _ h)), hv⟩
  stop := fun H e => ⟨vs, .inl (.inl (e _ _ h)), by rw [r.length]; exact Nat.le_refl _⟩
  yld := fun i d G' H x H' e1 e2 hd hy => by
    obtain ⟨rfl, f⟩ := hy
    obtain ⟨d', hd', rd⟩ := r.get (f vs (.inl (.inl ((e1.trans e2) _ _ h))))
    have ed : d' = d := Option.some.inj (hd'.symm.trans hd)
    subst ed
    exact ⟨G', .refl e2, rd.mono e1⟩
theorem itt_ok {G : Hp} {p : Addr} {vs : List V} {ds : List D} (h : G p = some (.tup vs)) (r : Reps k G vs ds) : IterOk k G (Itt k.K p) ds where
  go := fun i H e hi => by
    obtain ⟨v, hv, _⟩ := r.getD (List.getElem?_eq_getElem hi)
    exact ⟨vs, v, .inl (.inl (e _ _ h)), hv⟩
  stop := fun H e => ⟨vs, .inl (.inl (e _ _ h)), by rw [r.length]; exact Nat.le_refl _⟩
  yld := fun i d G' H x H' e1 e2 hd hy => by
    obtain ⟨rfl, f⟩ := hy
    obtain ⟨d', hd', rd⟩ := r.get (f vs (.inl (.inl ((e1.trans e2) _ _ h))))
    have ed : d' = d := Option.some.inj (hd'.symm.trans hd)
    subst ed
    exact ⟨G', .refl e2, rd.mono e1⟩
theorem itr_ok {G : Hp} {lo : Int} {n : Nat} : IterOk k G (Itr lo n) (rngD lo n) where
  go := fun i H e hi => by
    have : (rngD lo n).length = n := by unfold rngD; simp
    rw [this] at hi
    exact hi
  stop := fun H e => by
    have : (rngD lo n).length = n := by unfold rngD; simp
    rw [this]
    exact Nat.le_refl n
  yld := fun i d G' H x H' e1 e2 hd hy => by
    obtain ⟨rfl, rfl⟩ := hy
    unfold rngD at hd
    rw [List.getElem?_map] at hd
    cases e : (List.range n)[i]? with
    | none => rw [e] at hd; cases hd
    | some m =>
      rw [e] at hd
      have em : m = i := by
        have := List.getElem?_eq_some_iff.mp e
        obtain ⟨h1, h2⟩ := this
        rw [List.getElem_range] at h2
        exact h2.symm
      subst em
      cases hd
      exact ⟨G', .refl e2, .int _⟩
theorem sit_seq (ha : SimE k ta a) : SimI k (iSeq k.K ta) (aiSeq a) := fun G M σ H δ A R st h q => ha G M σ H δ _ _ st h fun v d G1 M1 H1 δ1 st1 t1 r1 h1 => by
  cases r1 with
  | @tup p vs ds hp rs => exact ⟨p, rfl, .inr ⟨⟨vs, .inl (.inl (st1.ex _ _ hp))⟩, q _ ds G1 M1 H1 δ1 st1 t1 (itt_ok hp rs) h1⟩⟩
  | @lst p vs ds hp rs => exact ⟨p, rfl, .inl ⟨⟨vs, .inl (.inl (st1.ex _ _ hp))⟩, q _ ds G1 M1 H1 δ1 st1 t1 (itl_ok hp rs) h1⟩⟩
  | _ => exact h1.elim
theorem sit_r1 (ha : SimA k tr ar) : SimI k (iRng1 tr) (aiR1 ar) := fun G M σ H δ A R st h q => ha G M σ H δ _ _ st h fun vs ds G1 M1 H1 δ1 st1 t1 r1 h1 => by
  cases r1 with
  | nil => exact h1.elim
  | cons r rr =>
    cases rr with
    | cons _ _ => cases r <;> exact h1.elim
    | nil =>
      cases r with
      | int n =>
        obtain ⟨b1, b2, h1⟩ := h1
        exact ⟨n, rfl, b1, b2, q _ _ G1 M1 H1 δ1 st1 t1 itr_ok h1⟩
      | _ => exact h1.elim
theorem sit_r2 (ha : SimA k tr ar) : SimI k (iRng2 tr) (aiR2 ar) := fun G M σ H δ A R st h q => ha G M σ H δ _ _ st h fun vs ds G1 M1 H1 δ1 st1 t1 r1 h1 => by
  cases r1 with
  | nil => exact h1.elim
  | cons r rr =>
    cases rr with
    | nil => cases r <;> exact h1.elim
    | cons r2 rr =>
      cases rr with
      | cons _ _ => cases r <;> cases r2 <;> exact h1.elim
      | nil =>
        cases r with
        | int m =>
          cases r2 with
          | int n =>
            obtain ⟨b1, h1⟩ := h1
            exact ⟨m, n, rfl, b1, q _ _ G1 M1 H1 δ1 st1 t1 itr_ok h1⟩
          | _ => exact h1.elim
        | _ => cases r2 <;> exact h1.elim
end
end Ab
set_option maxHeartbeats 4000000
namespace Ab
open PySem PySem.Spec PyProof.Rows L2

/-! ### the names of a comprehension -/
def wpE (vs : List Nat) : Nat → Env → Env
  | _, [] => []
  | n, s :: r => (if vs.contains n then .un else s) :: wpE vs (n + 1) r
def bkE (vs : List Nat) : Nat → Env → Env → Env
  | n, s :: r, s' :: r' => (if vs.contains n then s else s') :: bkE vs (n + 1) r r'
  | _, _, _ => []
abbrev wp (δ : Env) (vs : List Nat) : Env := wpE vs 0 δ
abbrev bk (δ δ' : Env) (vs : List Nat) : Env := bkE vs 0 δ δ'
def fre (s : Slot) : Prop := match s with
  | .un => True
  | .da _ => True
  | _ => False
def okw (δ : Env) : List Nat → Prop
  | [] => True
  | i :: r => fre (gs δ i) ∧ okw δ r
theorem okw_at {δ : Env} : ∀ {vs : List Nat} {i : Nat}, okw δ vs → i ∈ vs → fre (gs δ i)
  | [], _, _, h => by cases h
  | j :: r, i, o, h => by
    rcases List.mem_cons.mp h with e | h
    · rw [e]; exact o.1
    · exact okw_at o.2 h
theorem wpE_length {vs : List Nat} : ∀ {n : Nat} {δ : Env}, (wpE vs n δ).length = δ.length
  | _, [] => rfl
  | n, s :: r => by
    show (wpE vs (n + 1) r).length + 1 = r.length + 1
    rw [wpE_length]
theorem bkE_length {vs : List Nat} : ∀ {n : Nat} {δ δ' : Env}, δ.length = δ'.length → (bkE vs n δ δ').length = δ.length
  | _, [], [], _ => rfl
  | n, s :: r, s' :: r', h => by
    show (bkE vs (n + 1) r r').length + 1 = r.length + 1
    rw [bkE_length (Nat.succ.inj h)]
theorem gs_wpE {vs : List Nat} : ∀ {n i : Nat} {δ : Env}, gs (wpE vs n δ) i = if vs.contains (n + i) then .un else gs δ i
  | n, i, [] => by
    show Slot.un = if vs.contains (n + i) then Slot.un else Slot.un
    split <;> rfl
  | n, 0, s :: r => rfl
  | n, i + 1, s :: r => by
    have h := gs_wpE (vs := vs) (n := n + 1) (i := i) (δ := r)
    rw [show n + 1 + i = n + (i + 1) by omega] at h
    exact h
theorem gs_bkE {vs : List Nat} : ∀ {n i : Nat} {δ δ' : Env}, δ.length = δ'.length → gs (bkE vs n δ δ') i = if vs.contains (n + i) then gs δ i else gs δ' i
  | n, i, [], [], _ => by
    show Slot.un = if vs.contains (n + i) then Slot.un else Slot.un
    split <;> rfl
  | n, 0, s :: r, s' :: r', _ => rfl
  | n, i + 1, s :: r, s' :: r', h => by
    have h := gs_bkE (vs := vs) (n := n + 1) (i := i) (δ := r) (δ' := r') (Nat.succ.inj h)
    rw [show n + 1 + i = n + (i + 1) by omega] at h
    exact h
section
variable {k : Kx} {G G' G1 G5 H H' H1 H5 : Hp} {M M' M1 M5 : Addr → Prop} {σ σ2 : L2.St} {δ δ' δ5 : Env} {vs : List Nat} {p : Addr} {o : HO}
theorem Stt.wipe (s : Stt k G M σ H δ) (vs : List Nat) : Stt k G M (wipe σ vs) H (wp δ vs) where
  ex := s.ex
  dis := s.dis
  trk := s.trk
  len := by rw [wipe_length, wpE_length]; exact s.len
  slot := fun i => by
    rw [gs_wpE, Nat.zero_add]
    split
    · trivial
    · rename_i h
      rw [wipe_out (fun z => h (by simpa using z))]
      exact s.slot i
  ne := fun a b l ds m es hab ha hb => by
    rw [gs_wpE] at ha hb
    split at ha
    · cases ha
    · split at hb
      · cases hb
      · exact s.ne a b l ds m es hab ha hb
theorem Stt.back (s : Stt k G M σ H δ) (t : Tr G M H G5 M5 H5) (s5 : Stt k G5 M5 σ2 H5 δ5) (hl : σ2.length = σ.length) (hk : ∀ i, i ∉ vs → σ2[i]? = σ[i]?) (ok : okw δ vs) : Stt k G5 M5 σ H5 (bk δ δ5 vs) := by
  have el : δ.length = δ5.length := by rw [← s.len, ← s5.len, hl]
  have f : ∀ c m fs, gs (bk δ δ5 vs) c = .mu m fs → gs δ5 c = .mu m fs := fun c m fs h => by
    rw [gs_bkE el, Nat.zero_add] at h
    split at h
    · rename_i z
      have q := okw_at ok (i := c) (by simpa using z)
      rw [h] at q
      exact q.elim
    · exact h
  refine ⟨s5.ex, s5.dis, s5.trk, by rw [bkE_length el]; exact s.len, fun i => ?_, fun a b l ds m es hab ha hb => s5.ne a b l ds m es hab (f a _ _ ha) (f b _ _ hb)⟩
  rw [gs_bkE el, Nat.zero_add]
  split
  · rename_i z
    have q := okw_at ok (i := i) (by simpa using z)
    have w := s.slot i
    cases e : gs δ i with
    | un => trivial
    | da d =>
      rw [e] at w
      obtain ⟨v, h1, h2⟩ := w
      exact ⟨v, h1, h2.mono t.exG⟩
    | mu l ds => rw [e] at q; exact q.elim
    | ob x C fs => rw [e] at q; exact q.elim
  · rename_i z
    rw [← hk i (fun w => z (by simpa using w))]
    exact s5.slot i
theorem Stt.updFree (s : Stt k G M σ H δ) (nm : ¬ M p) (gp : G p = none) : Stt k G M σ (upd H p o) δ where
  ex := fun a u h => by rw [upd_ne (ne_of_none h gp)]; exact s.ex a u h
  dis := s.dis
  trk := fun a m => by rw [upd_ne (fun e => nm (by rw [← e]; exact m))]; exact s.trk a m
  len := s.len
  slot := fun i => (s.slot i).mono (Same.refl _) fun l m => ⟨m, upd_ne (fun e => nm (by rw [← e]; exact m))⟩
  ne := s.ne
theorem Tr.updNew (t : Tr G M H G' M' H') (hp : H p = none) : Tr G M H G' M' (upd H' p o) where
  exG := t.exG
  keep := fun a u h n => by rw [upd_ne (ne_of_none h hp)]; exact t.keep a u h n
  old := t.old
  own := t.own
  up := fun a h => by
    by_cases e : a = p
    · subst e; rw [upd_same]; exact fun z => nomatch z
    · rw [upd_ne e]; exact t.up a h
/-- what is new and not one's own stays out of reach -/
theorem Tr.away (t : Tr G M H G' M' H') (nm : ¬ M p) (gp : G p = none) {u : HO} (hp : H p = some u) : ¬ M' p ∧ G' p = none ∧ H' p = some u := by
  refine ⟨fun m => ?_, ?_, t.keep p u hp nm⟩
  · rcases t.own p m with q | q
    · exact nm q
    · rw [hp] at q; cases q
  · cases e : G' p with
    | none => rfl
    | some o =>
      rcases t.old p (by rw [e]; exact fun z => nomatch z) with q | q | q
      · exact absurd gp q
      · exact absurd q nm
      · rw [hp] at q; cases q
theorem wipe_keep {ws : List Nat} (hw : ∀ i ∈ ws, i ∈ vs) (hl : σ2.length = (L2.wipe σ vs).length) (hk : ∀ i, i ∉ ws → σ2[i]? = (L2.wipe σ vs)[i]?) :
    L2.wipe σ2 vs = L2.wipe σ vs ∧ σ2.length = σ.length ∧ ∀ i, i ∉ vs → σ2[i]? = σ[i]? := by
  have e1 : σ2.length = σ.length := by rw [hl, wipe_length]
  have e2 : ∀ i, i ∉ vs → σ2[i]? = σ[i]? := fun i hi => by rw [hk i (fun z => hi (hw i z)), wipe_out hi]
  refine ⟨List.ext_getElem? fun i => ?_, e1, e2⟩
  by_cases hi : i ∈ vs
  · have g : ∀ (τ : L2.St) (us : List Nat), i ∈ us → (L2.wipe τ us)[i]? = if i < τ.length then some none else none := by
      intro τ us
      induction us with
      | nil => intro h; cases h
      | cons v us ih =>
        intro h
        show ((L2.wipe τ us).set v none)[i]? = _
        by_cases ev : v = i
        · subst ev
          rw [get_set, if_pos rfl, wipe_length]
        · rw [get_set, if_neg ev]
          exact ih ((List.mem_cons.mp h).resolve_left fun z => ev z.symm)
    rw [g σ2 vs hi, g σ vs hi, e1]
  · rw [wipe_out hi, wipe_out hi]
    exact e2 i hi
end
/-! ### comprehensions -/
def lcB (ag : AG) (p : AT) (a : AE) (vs : List Nat) (ds : List D) (δ : Env) (A : List D → Env → Prop) : Prop := ∃ I : List D → List D → Env → Prop, I ds [] δ ∧
  (∀ d r acc δ2, I (d :: r) acc δ2 → okw δ2 vs ∧ ag d (wp δ2 vs) fun δ3 => p δ3 fun c δ4 => if c = true then a δ4 fun y δ5 => acc.length < 16777216 ∧ I r (acc ++ [y]) (bk δ2 δ5 vs) else I r acc (bk δ2 δ4 vs)) ∧
  ∀ acc δ2, I [] acc δ2 → A acc δ2
def aLc (ai : AI) (ag : AG) (p : AT) (a : AE) (vs : List Nat) : AO := fun δ A => ai δ fun ds δ1 => lcB ag p a vs ds δ1 A
def aYes : AT := fun δ A => A true δ
def lcB1 (ag : AG) (p : AT) (a : AE) (vs : List Nat) (ds acc : List D) (δ : Env) (A : List D → Env → Prop) : Prop := ∃ I : List D → List D → Env → Prop, I ds acc δ ∧
  (∀ d r acc δ2, I (d :: r) acc δ2 → okw δ2 vs ∧ ag d (wp δ2 vs) fun δ3 => p δ3 fun c δ4 => if c = true then a δ4 fun y δ5 => acc.length < 16777216 ∧ I r (acc ++ [y]) (bk δ2 δ5 vs) else I r acc (bk δ2 δ4 vs)) ∧
  ∀ acc δ2, I [] acc δ2 → A acc δ2
def lcB2 (ag : AG) (p : AT) (ai1 : AI) (ag1 : AG) (p1 : AT) (a : AE) (vs vs1 : List Nat) (ds : List D) (δ : Env) (A : List D → Env → Prop) : Prop := ∃ I : List D → List D → Env → Prop, I ds [] δ ∧
  (∀ d r acc δ2, I (d :: r) acc δ2 → okw δ2 vs ∧ ag d (wp δ2 vs) fun δ3 => p δ3 fun c δ4 => if c = true then ai1 δ4 fun es δ5 => lcB1 ag1 p1 a vs1 es acc δ5 fun acc1 δ6 => I r acc1 (bk δ2 δ6 vs) else I r acc (bk δ2 δ4 vs)) ∧
  ∀ acc δ2, I [] acc δ2 → A acc δ2
def aLc2 (ai : AI) (ag : AG) (p : AT) (ai1 : AI) (ag1 : AG) (p1 : AT) (a : AE) (vs vs1 : List Nat) : AO := fun δ A => ai δ fun ds δ1 => lcB2 ag p ai1 ag1 p1 a vs vs1 ds δ1 A
section
variable {k : Kx} {wi wi1 : TI} {ai ai1 : AI} {g g1 : TG} {ag ag1 : AG} {ws ws1 vs vs1 : List Nat} {tt tt1 : TT} {p p1 : AT} {te : TE} {a : AE}
theorem st_yes : SimT k tYes aYes := fun G M σ H δ A Q s h q => q true G M H δ s .refl h
/-- what a comprehension carries -/
structure Car (k : Kx) (σ : L2.St) (G1 : Hp) (M1 : Addr → Prop) (H1 : Hp) (Dl : Addr) (acc : List D) (G' : Hp) (M' : Addr → Prop) (H' : Hp) (δ' : Env) : Prop where
  st : Stt k G' M' σ H' δ'
  tr : Tr G1 M1 H1 G' M' H'
  nm : ¬ M' Dl
  gp : G' Dl = none
  hd : ∃ accV, H' Dl = some (.lst accV) ∧ Reps k G' accV acc
/-- one turn's end -/
theorem car_yes {σ σ2 : L2.St} {G1 G' G3 H1 H' H3 : Hp} {M1 M' M3 : Addr → Prop} {Dl : Addr} {acc : List D} {δ' δ3 : Env} {v : V} {y : D} (c : Car k σ G1 M1 H1 Dl acc G' M' H' δ') (hD : H1 Dl = none) (t : Tr G' M' H' G3 M3 H3) (s3 : Stt k G3 M3 σ2 H3 δ3)
    (hl : σ2.length = σ.length) (hk : ∀ i, i ∉ vs → σ2[i]? = σ[i]?) (ok : okw δ' vs) (r : Rep k G3 v y) : ∃ accV, H3 Dl = some (.lst accV) ∧ accV.length = acc.length ∧ Car k σ G1 M1 H1 Dl (acc ++ [y]) G3 M3 (upd H3 Dl (.lst (accV ++ [v]))) (bk δ' δ3 vs) := by
  obtain ⟨accV, hd, ra⟩ := c.hd
  obtain ⟨nm, gp, h3⟩ := t.away c.nm c.gp hd
  exact ⟨accV, h3, ra.length, (c.st.back t s3 hl hk ok).updFree nm gp, (c.tr.trans t).updNew hD, nm, gp, _, upd_same, (ra.mono t.exG).append (.one r)⟩
theorem car_no {σ σ2 : L2.St} {G1 G' G3 H1 H' H3 : Hp} {M1 M' M3 : Addr → Prop} {Dl : Addr} {acc : List D} {δ' δ3 : Env} (c : Car k σ G1 M1 H1 Dl acc G' M' H' δ') (t : Tr G' M' H' G3 M3 H3) (s3 : Stt k G3 M3 σ2 H3 δ3)
    (hl : σ2.length = σ.length) (hk : ∀ i, i ∉ vs → σ2[i]? = σ[i]?) (ok : okw δ' vs) : Car k σ G1 M1 H1 Dl acc G3 M3 H3 (bk δ' δ3 vs) := by
  obtain ⟨accV, hd, ra⟩ := c.hd
  obtain ⟨nm, gp, h3⟩ := t.away c.nm c.gp hd
  exact ⟨c.st.back t s3 hl hk ok, c.tr.trans t, nm, gp, accV, h3, ra.mono t.exG⟩
theorem so_lc (hi : SimI k wi ai) (hg : SimG k g ag ws) (hw : ∀ i ∈ ws, i ∈ vs) (ht : SimT k tt p) (he : SimE k te a) : SimO k (tLc wi g tt te vs) (aLc ai ag p a vs) := fun G M σ H δ A Q st h q =>
  hi G M σ H δ _ _ st h fun J ds G1 M1 H1 δ1 st1 t1 ok h1 => by
    obtain ⟨I, i0, turn, fin⟩ := h1
    intro Dl hD
    obtain ⟨st2, t2, nm, gp⟩ := st1.newOwn (o := .lst []) hD
    refine ⟨fun i m H' => i + m = ds.length ∧ ∃ G' M' δ' acc, Car k σ G1 M1 H1 Dl acc G' M' H' δ' ∧ I (ds.drop i) acc δ', ⟨ds.length, Nat.zero_add _, G1, M1, δ1, [], ⟨st2, t2, nm, gp, [], upd_same, .nil⟩, i0⟩, ?_⟩
    rintro i m H' ⟨em, G', M', δ', acc, c, hI⟩
    have sg : Same G1 H' := c.tr.exG.trans c.st.ex
    by_cases hlt : i < ds.length
    · obtain ⟨d, hd, ed⟩ := drop_at hlt
      rw [ed] at hI
      refine .inr ⟨ok.go i H' sg hlt, fun H2 => ∃ G2 M2 δ2 acc2, Car k σ G1 M1 H1 Dl acc2 G2 M2 H2 δ2 ∧ I (ds.drop (i + 1)) acc2 δ2, fun H2 h2 => ⟨m - 1, by omega, by omega, h2⟩, fun x H2 hy => ?_⟩
      obtain ⟨G2, gr, rx⟩ := ok.yld i d G' H' x H2 c.tr.exG c.st.ex hd hy
      obtain ⟨okv, tn⟩ := turn d _ acc δ' hI
      have st3 := c.st.grow gr
      refine hg.run G2 M' (L2.wipe σ vs) H2 (wp δ' vs) x d _ _ (st3.wipe vs) rx tn fun G3 M3 σ3 H3 δ3 st4 t4 hk h3 => ?_
      obtain ⟨w1, w2, w3⟩ := wipe_keep hw hk.1 hk.2
      refine ⟨w1, ht G3 M3 σ3 H3 δ3 _ _ st4 h3 fun b G4 M4 H4 δ4 st5 t5 h4 => ?_⟩
      have tt5 : Tr G' M' H' G4 M4 H4 := (Grow.tr gr).trans (t4.trans t5)
      cases b with
      | false =>
        rw [if_neg Bool.false_ne_true] at h4 ⊢
        exact ⟨G4, M4, _, acc, car_no c tt5 st5 w2 w3 okv, h4⟩
      | true =>
        rw [if_pos rfl] at h4 ⊢
        refine he G4 M4 σ3 H4 δ4 _ _ st5 h4 fun v y G5 M5 H5 δ5 st6 t6 r6 h5 => ?_
        obtain ⟨accV, e1, e2, c2⟩ := car_yes c hD (tt5.trans t6) st6 w2 w3 okv r6
        exact ⟨accV, e1, by rw [e2]; exact line_lt h5.1, G5, M5, _, _, c2, h5.2⟩
    · have ei : i = ds.length := by omega
      subst ei
      rw [List.drop_length] at hI
      obtain ⟨accV, hd, ra⟩ := c.hd
      exact .inl ⟨ok.stop H' sg, q Dl accV acc G' M' H' δ' c.st (t1.trans c.tr) c.nm c.gp (.inr (t1.free hD)) hd ra (fin acc δ' hI)⟩
theorem so_lc2 (hi : SimI k wi ai) (hg : SimG k g ag ws) (hw : ∀ i ∈ ws, i ∈ vs) (ht : SimT k tt p) (hi1 : SimI k wi1 ai1) (hg1 : SimG k g1 ag1 ws1) (hw1 : ∀ i ∈ ws1, i ∈ vs1) (ht1 : SimT k tt1 p1) (he : SimE k te a) :
    SimO k (tLc2 wi g tt wi1 g1 tt1 te vs vs1) (aLc2 ai ag p ai1 ag1 p1 a vs vs1) := fun G M σ H δ A Q st h q =>
  hi G M σ H δ _ _ st h fun J ds G1 M1 H1 δ1 st1 t1 ok h1 => by
    obtain ⟨I, i0, turn, fin⟩ := h1
    intro Dl hD
    obtain ⟨st2, t2, nm, gp⟩ := st1.newOwn (o := .lst []) hD
    refine ⟨fun i m H' => i + m = ds.length ∧ ∃ G' M' δ' acc, Car k σ G1 M1 H1 Dl acc G' M' H' δ' ∧ I (ds.drop i) acc δ', ⟨ds.length, Nat.zero_add _, G1, M1, δ1, [], ⟨st2, t2, nm, gp, [], upd_same, .nil⟩, i0⟩, ?_⟩
    rintro i m H' ⟨em, G', M', δ', acc, c, hI⟩
    have sg : Same G1 H' := c.tr.exG.trans c.st.ex
    by_cases hlt : i < ds.length
    · obtain ⟨d, hd, ed⟩ := drop_at hlt
      rw [ed] at hI
      refine .inr ⟨ok.go i H' sg hlt, fun H2 => ∃ G2 M2 δ2 acc2, Car k σ G1 M1 H1 Dl acc2 G2 M2 H2 δ2 ∧ I (ds.drop (i + 1)) acc2 δ2, fun H2 h2 => ⟨m - 1, by omega, by omega, h2⟩, fun x H2 hy => ?_⟩
      obtain ⟨G2, gr, rx⟩ := ok.yld i d G' H' x H2 c.tr.exG c.st.ex hd hy
      obtain ⟨okv, tn⟩ := turn d _ acc δ' hI
      have st3 := c.st.grow gr
      refine hg.run G2 M' (L2.wipe σ vs) H2 (wp δ' vs) x d _ _ (st3.wipe vs) rx tn fun G3 M3 σ3 H3 δ3 st4 t4 hk h3 => ?_
      obtain ⟨w1, w2, w3⟩ := wipe_keep hw hk.1 hk.2
      refine ⟨w1, ht G3 M3 σ3 H3 δ3 _ _ st4 h3 fun b G4 M4 H4 δ4 st5 t5 h4 => ?_⟩
      have tt5 : Tr G' M' H' G4 M4 H4 := (Grow.tr gr).trans (t4.trans t5)
      cases b with
      | false =>
        rw [if_neg Bool.false_ne_true] at h4 ⊢
        exact ⟨G4, M4, _, acc, car_no c tt5 st5 w2 w3 okv, h4⟩
      | true =>
        rw [if_pos rfl] at h4 ⊢
        refine hi1 G4 M4 σ3 H4 δ4 _ _ st5 h4 fun J1 es G5 M5 H5 δ5 st6 t6 ok1 h5 => ?_
        obtain ⟨I1, j0, turn1, fin1⟩ := h5
        -- what is carried within, over the names of the first clause
        have c0 : Car k σ3 G4 M4 H4 Dl acc G5 M5 H5 δ5 := by
          obtain ⟨accV, hd', ra⟩ := c.hd
          obtain ⟨n1, g1', h1'⟩ := (tt5.trans t6).away c.nm c.gp hd'
          exact ⟨st6, t6, n1, g1', accV, h1', ra.mono (tt5.trans t6).exG⟩
        obtain ⟨accV0, hd0, ra0⟩ := c.hd
        obtain ⟨n4, g4, h4'⟩ := tt5.away c.nm c.gp hd0
        -- Dl is new since the comprehension's start
        refine ⟨fun j k1 H'' => j + k1 = es.length ∧ ∃ G' M' δ'' acc1, (Stt k G' M' σ3 H'' δ'' ∧ Tr G1 M1 H1 G' M' H'' ∧ ¬ M' Dl ∧ G' Dl = none ∧ (∃ accV, H'' Dl = some (.lst accV) ∧ Reps k G' accV acc1) ∧ Same G5 G') ∧ I1 (es.drop j) acc1 δ'',
          ⟨es.length, Nat.zero_add _, G5, M5, δ5, acc, ⟨st6, c.tr.trans (tt5.trans t6), c0.nm, c0.gp, c0.hd, Same.refl _⟩, j0⟩, ?_⟩
        rintro j k1 H'' ⟨ek, G6, M6, δ6, acc1, ⟨s6, t6', nm6, gp6, hd6, sg6⟩, hJ⟩
        have sg1 : Same G5 H'' := sg6.trans s6.ex
        by_cases hlt1 : j < es.length
        · obtain ⟨e, he', ee⟩ := drop_at hlt1
          rw [ee] at hJ
          refine .inr ⟨ok1.go j H'' sg1 hlt1, fun H2 => ∃ G2 M2 δ2 acc2, (Stt k G2 M2 σ3 H2 δ2 ∧ Tr G1 M1 H1 G2 M2 H2 ∧ ¬ M2 Dl ∧ G2 Dl = none ∧ (∃ accV, H2 Dl = some (.lst accV) ∧ Reps k G2 accV acc2) ∧ Same G5 G2) ∧ I1 (es.drop (j + 1)) acc2 δ2, fun H2 h2 => ⟨k1 - 1, by omega, by omega, h2⟩, fun x H2 hy => ?_⟩
          obtain ⟨G7, gr7, rx7⟩ := ok1.yld j e G6 H'' x H2 sg6 s6.ex he' hy
          obtain ⟨okv1, tn1⟩ := turn1 e _ acc1 δ6 hJ
          have s7 := s6.grow gr7
          refine hg1.run G7 M6 (L2.wipe σ3 vs1) H2 (wp δ6 vs1) x e _ _ (s7.wipe vs1) rx7 tn1 fun G8 M8 σ8 H8 δ8 s8 t8 hk8 h8 => ?_
          obtain ⟨x1, x2, x3⟩ := wipe_keep hw1 hk8.1 hk8.2
          refine ⟨x1, ht1 G8 M8 σ8 H8 δ8 _ _ s8 h8 fun b G9 M9 H9 δ9 s9 t9 h9 => ?_⟩
          have tt9 : Tr G6 M6 H'' G9 M9 H9 := (Grow.tr gr7).trans (t8.trans t9)
          have c6 : Car k σ3 G1 M1 H1 Dl acc1 G6 M6 H'' δ6 := ⟨s6, t6', nm6, gp6, hd6⟩
          cases b with
          | false =>
            rw [if_neg Bool.false_ne_true] at h9 ⊢
            have c9 := car_no c6 tt9 s9 x2 x3 okv1
            exact ⟨G9, M9, _, acc1, ⟨c9.st, c9.tr, c9.nm, c9.gp, c9.hd, sg6.trans tt9.exG⟩, h9⟩
          | true =>
            rw [if_pos rfl] at h9 ⊢
            refine he G9 M9 σ8 H9 δ9 _ _ s9 h9 fun v y Ga Ma Ha δa sa ta ra ha => ?_
            obtain ⟨accV, e1, e2, ca⟩ := car_yes c6 hD (tt9.trans ta) sa x2 x3 okv1 ra
            exact ⟨accV, e1, by rw [e2]; exact line_lt ha.1, Ga, Ma, _, _, ⟨ca.st, ca.tr, ca.nm, ca.gp, ca.hd, sg6.trans (tt9.trans ta).exG⟩, ha.2⟩
        · have ej : j = es.length := by omega
          subst ej
          rw [List.drop_length] at hJ
          refine .inl ⟨ok1.stop H'' sg1, G6, M6, _, acc1, ⟨?_, t6', nm6, gp6, hd6⟩, fin1 acc1 δ6 hJ⟩
          -- back to the comprehension's own names
          have el : δ'.length = δ6.length := by rw [← c.st.len, ← s6.len, w2]
          have f : ∀ cc mm fs, gs (bk δ' δ6 vs) cc = .mu mm fs → gs δ6 cc = .mu mm fs := fun cc mm fs hh => by
            rw [gs_bkE el, Nat.zero_add] at hh
            split at hh
            · rename_i z
              have qq := okw_at okv (i := cc) (by simpa using z)
              rw [hh] at qq
              exact qq.elim
            · exact hh
          have eg' : Same G' G6 := (tt5.trans t6).exG.trans sg6
          refine ⟨s6.ex, s6.dis, s6.trk, by rw [bkE_length el]; exact c.st.len, fun ii => ?_, fun aa bb l dss mm ess hab ha hb => s6.ne aa bb l dss mm ess hab (f aa _ _ ha) (f bb _ _ hb)⟩
          rw [gs_bkE el, Nat.zero_add]
          split
          · rename_i z
            have qq := okw_at okv (i := ii) (by simpa using z)
            have ww := c.st.slot ii
            cases e : gs δ' ii with
            | un => trivial
            | da dd =>
              rw [e] at ww
              obtain ⟨v, h1, h2⟩ := ww
              exact ⟨v, h1, h2.mono eg'⟩
            | mu l dss => rw [e] at qq; exact qq.elim
            | ob x C fs => rw [e] at qq; exact qq.elim
          · rename_i z
            rw [← w3 ii (fun w => z (by simpa using w))]
            exact s6.slot ii
    · have ei : i = ds.length := by omega
      subst ei
      rw [List.drop_length] at hI
      obtain ⟨accV, hd, ra⟩ := c.hd
      exact .inl ⟨ok.stop H' sg, q Dl accV acc G' M' H' δ' c.st (t1.trans c.tr) c.nm c.gp (.inr (t1.free hD)) hd ra (fin acc δ' hI)⟩
end
end Ab
set_option maxHeartbeats 4000000
namespace Ab
open PySem PySem.Spec PyProof.Rows L2

/-! ### slices -/
def cutD {α : Type} (xs : List α) (lo hi : Option Int) : List α := (xs.drop (HT.sIx xs.length 0 lo)).take (HT.sIx xs.length xs.length hi - HT.sIx xs.length 0 lo)
def fSl : D → Option Int → Option Int → (D → Prop) → Prop
  | .tup xs, lo, hi, A => A (.tup (cutD xs lo hi))
  | .lst xs, lo, hi, A => A (.lst (cutD xs lo hi))
  | _, _, _, _ => False
def fRev : D → (D → Prop) → Prop
  | .lst xs, A => A (.lst xs.reverse)
  | _, _ => False
def aSl (a : AE) (p q : APt) : AE := fun δ A => a δ fun d δ1 => p δ1 fun lo δ2 => q δ2 fun hi δ3 => fSl d lo hi fun z => A z δ3
abbrev rSlX (K : PySem.W.Frag) : V → Option Int → Option Int → Hp → VK → Prop := fun x lo hi H Q => rSlA K x lo hi H Q ∨ rSlL K x lo hi H Q
/-! ### calls of built-ins -/
def fLen : List D → (D → Prop) → Prop
  | [.tup xs], A => A (.int xs.length)
  | [.lst xs], A => A (.int xs.length)
  | [.scr xs], A => A (.int xs.length)
  | _, _ => False
def fInt : List D → (D → Prop) → Prop
  | [.int i], A => A (.int i)
  | [.bl b], A => A (.int (if b = true then 1 else 0))
  | _, _ => False
def fTup : List D → (D → Prop) → Prop
  | [.tup xs], A => A (.tup xs)
  | [.lst xs], A => A (.tup xs)
  | _, _ => False
def fMax : List D → (D → Prop) → Prop
  | [.int i, .int j], A => A (.int (if j > i then j else i))
  | _, _ => False
def fMin : List D → (D → Prop) → Prop
  | [.int i, .int j], A => A (.int (if j < i then j else i))
  | _, _ => False
def fTerms : D → (D → Prop) → Prop
  | .rule t, A => A t
  | _, _ => False
def fRows : D → (D → Prop) → Prop
  | .cut t, A => A t
  | _, _ => False
def aListOf (r : AA) : AO := fun δ A => r δ fun ds δ1 => match ds with
  | [.tup xs] => A xs δ1
  | [.lst xs] => A xs δ1
  | _ => False
def aListRg (a : AE) : AO := fun δ A => a δ fun d δ1 => isI d fun n => 0 ≤ n ∧ n ≤ 16777216 ∧ A (rngD 0 n.toNat) δ1
inductive Ty where
  | int | bool | tuple | list
def Ty.nm : Ty → String
  | .int => "int" | .bool => "bool" | .tuple => "tuple" | .list => "list"
def isiD : Ty → D → Option Bool
  | .int, .int _ => some true
  | .bool, .int _ => some false
  | .bool, .bl _ => some true
  | .tuple, .tup _ => some true
  | .list, .lst _ => some true
  | _, _ => none
def aIsi (T : Ty) (a : AE) : AE := fun δ A => a δ fun d δ1 => match isiD T d with
  | some b => A (.bl b) δ1
  | none => False
def aIsRule (a : AE) : AE := fun δ A => a δ fun d δ1 => match d with
  | .rule _ => A (.bl true) δ1
  | _ => False
def aIsCut (a : AE) : AE := fun δ A => a δ fun d δ1 => match d with
  | .cut _ => A (.bl true) δ1
  | _ => False
/-- what the text knows of a class of one's own -/
structure ClF (K : PySem.W.Frag) (C : Addr) (f : Str) : Prop where
  cl : Cls K C
  nf : NoAttr K C f
  ha : PySem.W.findIn K (.ref C) "__class__" = some (some (.builtin "object.__class__"))
  hn : PySem.W.specialIn K (.builtin "object.__class__") "__get__" = some (some (.builtin "getset_descriptor.__get__"))
  htk : PySem.W.takesIn K (.builtin "object.__class__") = some true
  hm : PySem.W.mroIn K C (.type "object") = some true
  kit : PySem.W.kitOne K (.ref C) (.ref C) = some true
section
variable {k : Kx} {ta tb te : TE} {a b : AE} {tl th : TO} {p q : APt} {tr : TA} {ar : AA}
theorem cutV_reps {G : Hp} {vs : List V} {ds : List D} (r : Reps k G vs ds) (lo hi : Option Int) : Reps k G (cutV vs lo hi) (cutD ds lo hi) := by
  unfold cutV cutD
  rw [r.length]
  exact (r.drop _).take _
theorem si_sl (ha : SimE k ta a) (hp : SimP k tl p) (hq : SimP k th q) : SimE k (tSl (rSlX k.K) ta tl th) (aSl a p q) := fun G M σ H δ A Q st h g =>
  ha G M σ H δ _ _ st h fun v d G1 M1 H1 δ1 s1 t1 r1 h1 => hp G1 M1 σ H1 δ1 _ _ s1 h1 fun lo G2 M2 H2 δ2 s2 t2 h2 => hq G2 M2 σ H2 δ2 _ _ s2 h2 fun hi G3 M3 H3 δ3 s3 t3 h3 => by
    have r3 := r1.mono (t2.exG.trans t3.exG)
    have tt := (t1.trans t2).trans t3
    cases r3 with
    | @tup e vs ds hp rs =>
      refine .inl ⟨e, vs, rfl, .inl (.inl (s3.ex _ _ hp)), fun hw => ?_, fun hw pp np => ?_⟩
      · have e1 : cutD ds lo hi = ds := by
          unfold cutD
          rw [← rs.length, hw.1, hw.2]
          simp
          rw [rs.length, List.take_length]
        have h3' : A (.tup (cutD ds lo hi)) δ3 := h3
        rw [e1] at h3'
        exact g _ _ G3 M3 H3 δ3 s3 tt (.tup hp rs) h3'
      · have gr : Grow G3 H3 _ _ := Grow.new (o := .tup (cutV vs lo hi)) s3.ex np
        exact g _ _ _ M3 _ δ3 (s3.grow gr) (tt.trans gr.tr) (.tup upd_same ((cutV_reps rs lo hi).mono gr.g)) h3
    | @lst e vs ds hp rs =>
      refine .inr ⟨e, vs, rfl, .inl (.inl (s3.ex _ _ hp)), fun pp np => ?_⟩
      have gr : Grow G3 H3 _ _ := Grow.new (o := .lst (cutV vs lo hi)) s3.ex np
      exact g _ _ _ M3 _ δ3 (s3.grow gr) (tt.trans gr.tr) (.lst upd_same ((cutV_reps rs lo hi).mono gr.g)) h3
    | _ => exact h3.elim
theorem si_rev (ha : SimE k ta a) : SimE k (tRevL k.K ta) (aUn fRev a) := fun G M σ H δ A Q st h g =>
  ha G M σ H δ _ _ st h fun v d G1 M1 H1 δ1 s1 t1 r1 h1 => by
    cases r1 with
    | @lst e vs ds hp rs =>
      refine ⟨e, vs, rfl, .inl (.inl (s1.ex _ _ hp)), fun pp np => ?_⟩
      have gr : Grow G1 H1 _ _ := Grow.new (o := .lst vs.reverse) s1.ex np
      exact g _ _ _ M1 _ δ1 (s1.grow gr) (t1.trans gr.tr) (.lst upd_same (rs.reverse.mono gr.g)) h1
    | _ => exact h1.elim
theorem cs_len : CallS k (fun xs H Q => ∃ p ys, xs = [.ref p] ∧ (SqL k.K H p ys ∨ SqT k.K H p ys) ∧ Q (.int ys.length) H) fLen := by
  intro G H vs ds A Q eg r hf q
  cases r with
  | nil => exact hf.elim
  | cons r rr =>
    cases rr with
    | cons _ _ => cases r <;> exact hf.elim
    | nil =>
      cases r with
      | @tup p us es hp rs => exact ⟨p, us, rfl, .inr (.inl (.inl (eg _ _ hp))), by rw [rs.length]; exact q _ _ G H (.refl eg) (.int _) hf⟩
      | @lst p us es hp rs => exact ⟨p, us, rfl, .inl (.inl (.inl (eg _ _ hp))), by rw [rs.length]; exact q _ _ G H (.refl eg) (.int _) hf⟩
      | @scr p ns hp => exact ⟨p, _, rfl, .inl (eg.seq hp), by rw [List.length_map]; exact q _ _ G H (.refl eg) (.int _) hf⟩
      | _ => exact hf.elim
theorem cs_int : CallS k (fun xs H Q => (∃ i, xs = [.int i] ∧ Q (.int i) H) ∨ ∃ k, xs = [.bl k] ∧ Q (.int (if k then 1 else 0)) H) fInt := by
  intro G H vs ds A Q eg r hf q
  cases r with
  | nil => exact hf.elim
  | cons r rr =>
    cases rr with
    | cons _ _ => cases r <;> exact hf.elim
    | nil =>
      cases r with
      | int i => exact .inl ⟨i, rfl, q _ _ G H (.refl eg) (.int _) hf⟩
      | bl i => exact .inr ⟨i, rfl, q _ _ G H (.refl eg) (.int _) hf⟩
      | _ => exact hf.elim
theorem cs_tup : CallS k (fun xs H Q => ∃ p ys, xs = [.ref p] ∧ ((SqL k.K H p ys ∧ ∀ l, H l = none → Q (.ref l) (upd H l (.tup ys))) ∨ (SqT k.K H p ys ∧ Q (.ref p) H))) fTup := by
  intro G H vs ds A Q eg r hf q
  cases r with
  | nil => exact hf.elim
  | cons r rr =>
    cases rr with
    | cons _ _ => cases r <;> exact hf.elim
    | nil =>
      cases r with
      | @tup p us es hp rs => exact ⟨p, us, rfl, .inr ⟨.inl (.inl (eg _ _ hp)), q _ _ G H (.refl eg) (.tup hp rs) hf⟩⟩
      | @lst p us es hp rs =>
        refine ⟨p, us, rfl, .inl ⟨.inl (.inl (eg _ _ hp)), fun l hl => ?_⟩⟩
        have gr : Grow G H _ _ := Grow.new (o := .tup us) eg hl
        exact q _ _ _ _ gr (.tup upd_same (rs.mono gr.g)) hf
      | _ => exact hf.elim
theorem cs_max : CallS k (fun xs H Q => ∃ i j, xs = [.int i, .int j] ∧ Q (.int (if j > i then j else i)) H) fMax := by
  intro G H vs ds A Q eg r hf q
  cases r with
  | nil => exact hf.elim
  | cons r rr =>
    cases rr with
    | nil => cases r <;> exact hf.elim
    | cons r2 rr =>
      cases rr with
      | cons _ _ => cases r <;> cases r2 <;> exact hf.elim
      | nil => cases r <;> cases r2 <;> first | exact hf.elim | exact ⟨_, _, rfl, q _ _ G H (.refl eg) (.int _) hf⟩
theorem cs_min : CallS k (fun xs H Q => ∃ i j, xs = [.int i, .int j] ∧ Q (.int (if j < i then j else i)) H) fMin := by
  intro G H vs ds A Q eg r hf q
  cases r with
  | nil => exact hf.elim
  | cons r rr =>
    cases rr with
    | nil => cases r <;> exact hf.elim
    | cons r2 rr =>
      cases rr with
      | cons _ _ => cases r <;> cases r2 <;> exact hf.elim
      | nil => cases r <;> cases r2 <;> first | exact hf.elim | exact ⟨_, _, rfl, q _ _ G H (.refl eg) (.int _) hf⟩
theorem so_listOf (ha : SimA k tr ar) : SimO k (tCB (fun xs H Q => ∃ p ys, xs = [.ref p] ∧ (SqL k.K H p ys ∨ SqT k.K H p ys) ∧ ∀ l, H l = none → Q (.ref l) (upd H l (.lst ys))) tr) (aListOf ar) := fun G M σ H δ A Q st h g =>
  ha G M σ H δ _ _ st h fun vs ds G1 M1 H1 δ1 s1 t1 r1 h1 => by
    have fin : ∀ (us : List V) (es : List D), Reps k G1 us es → A es δ1 → ∀ l, H1 l = none → Q (.ref l) (upd H1 l (.lst us)) := fun us es rs hA l hl => by
      obtain ⟨s2, t2, nm, gp⟩ := s1.newOwn (o := .lst us) hl
      exact g l us es G1 M1 _ δ1 s2 (t1.trans t2) nm gp (.inr (t1.free hl)) upd_same rs hA
    cases r1 with
    | nil => exact h1.elim
    | cons r rr =>
      cases rr with
      | cons _ _ => cases r <;> exact h1.elim
      | nil =>
        cases r with
        | @tup p us es hp rs => exact ⟨p, us, rfl, .inr (.inl (.inl (s1.ex _ _ hp))), fin us es rs h1⟩
        | @lst p us es hp rs => exact ⟨p, us, rfl, .inl (.inl (.inl (s1.ex _ _ hp))), fin us es rs h1⟩
        | _ => exact h1.elim
theorem rgV_reps {G : Hp} {n : Int} : Reps k G (rgV 0 n) (rngD 0 n.toNat) := by
  unfold rgV rngD
  rw [show (n - 0).toNat = n.toNat by omega]
  generalize List.range n.toNat = l
  induction l with
  | nil => exact .nil
  | cons x r ih => exact .cons (.int _) ih
theorem so_listRg (ha : SimE k ta a) : SimO k (tLstRg (tRg1 ta)) (aListRg a) := fun G M σ H δ A Q st h g =>
  ha G M σ H δ _ _ st h fun v d G1 M1 H1 δ1 s1 t1 r1 h1 => by
    obtain ⟨n, rfl, n0, n1, h1⟩ := isI_elim h1
    refine ⟨n, r1.int_eq, RgOk.of_le (Int.le_refl 0) n1 (by decide) n0, fun l hl => ?_⟩
    obtain ⟨s2, t2, nm, gp⟩ := s1.newOwn (o := .lst (rgV 0 n)) hl
    exact g l _ _ G1 M1 _ δ1 s2 (t1.trans t2) nm gp (.inr (t1.free hl)) upd_same rgV_reps h1
theorem si_isi {T : Ty} (ha : SimE k ta a) : SimE k (tCB (rIsi k.K) (tCons ta (tCons (tC (.ty T.nm)) tNil))) (aIsi T a) := fun G M σ H δ A Q st h g =>
  ha G M σ H δ _ _ st h fun v d G1 M1 H1 δ1 s1 t1 r1 h1 => by
    have key : ∀ (t : String) (b : Bool), TyX k.K H1 v (.type t) → kitB t T.nm = some b → A (.bl b) δ1 → rIsi k.K [v, .ty T.nm] H1 Q := fun t b ht hk hA =>
      ⟨v, .ty T.nm, _, _, b, rfl, .ty _, ht, kit_ty hk, g _ _ G1 M1 H1 δ1 s1 t1 (.bl b) hA⟩
    cases r1 with
    | int i =>
      cases T with
      | int => exact key "int" true (.base (.int i)) (by decide +kernel) h1
      | bool => exact key "int" false (.base (.int i)) (by decide +kernel) h1
      | _ => exact h1.elim
    | bl i =>
      cases T with
      | bool => exact key "bool" true (.base (.bl i)) (by decide +kernel) h1
      | _ => exact h1.elim
    | @tup p us es hp rs =>
      cases T with
      | tuple => exact key "tuple" true (.base (.tup (s1.ex _ _ hp))) (by decide +kernel) h1
      | _ => exact h1.elim
    | @lst p us es hp rs =>
      cases T with
      | list => exact key "list" true (.base (.lst (s1.ex _ _ hp))) (by decide +kernel) h1
      | _ => exact h1.elim
    | _ => cases T <;> exact h1.elim
theorem si_isRule (F : ClF k.K k.c.CR "terms") (ha : SimE k ta a) : SimE k (tCB (rIsi k.K) (tCons ta (tCons (tC (.ref k.c.CR)) tNil))) (aIsRule a) := fun G M σ H δ A Q st h g =>
  ha G M σ H δ _ _ st h fun v d G1 M1 H1 δ1 s1 t1 r1 h1 => by
    cases r1 with
    | @rule p dx v t hp rs => exact ⟨_, _, _, _, true, rfl, .own _, .base (.ins (s1.ex _ _ hp) F.cl F.ha F.hn F.htk F.hm), F.kit, g _ _ G1 M1 H1 δ1 s1 t1 (.bl true) h1⟩
    | _ => exact h1.elim
theorem si_isCut (F : ClF k.K k.c.CS "rows") (ha : SimE k ta a) : SimE k (tCB (rIsi k.K) (tCons ta (tCons (tC (.ref k.c.CS)) tNil))) (aIsCut a) := fun G M σ H δ A Q st h g =>
  ha G M σ H δ _ _ st h fun v d G1 M1 H1 δ1 s1 t1 r1 h1 => by
    cases r1 with
    | @cut p dx v t hp rs => exact ⟨_, _, _, _, true, rfl, .own _, .base (.ins (s1.ex _ _ hp) F.cl F.ha F.hn F.htk F.hm), F.kit, g _ _ G1 M1 H1 δ1 s1 t1 (.bl true) h1⟩
    | _ => exact h1.elim
theorem lookup_one (f : Str) (v : V) : ([(f, v)] : List (Str × V)).lookup f = some v := by
  rw [List.lookup_cons, beq_self_eq_true]
theorem si_terms (F : ClF k.K k.c.CR "terms") (ha : SimE k ta a) : SimE k (tFld k.K ta "terms") (aUn fTerms a) := fun G M σ H δ A Q st h g =>
  ha G M σ H δ _ _ st h fun v d G1 M1 H1 δ1 s1 t1 r1 h1 => by
    cases r1 with
    | @rule p dx v t hp rs => exact ⟨p, _, dx, _, v, rfl, s1.ex _ _ hp, F.cl, F.nf, lookup_one _ _, g _ _ G1 M1 H1 δ1 s1 t1 rs h1⟩
    | _ => exact h1.elim
theorem si_rows (F : ClF k.K k.c.CS "rows") (ha : SimE k ta a) : SimE k (tFld k.K ta "rows") (aUn fRows a) := fun G M σ H δ A Q st h g =>
  ha G M σ H δ _ _ st h fun v d G1 M1 H1 δ1 s1 t1 r1 h1 => by
    cases r1 with
    | @cut p dx v t hp rs => exact ⟨p, _, dx, _, v, rfl, s1.ex _ _ hp, F.cl, F.nf, lookup_one _ _, g _ _ G1 M1 H1 δ1 s1 t1 rs h1⟩
    | _ => exact h1.elim
end

/-! ### defs: their promises -/
def spD (k : Kx) (fs : List D → (D → Prop) → Prop) : Sp := fun vs H Q _ => ∃ (G : Hp) (ds : List D) (A : D → Prop), Same G H ∧ Reps k G vs ds ∧ fs ds A ∧
  ∀ v z G' H', Grow G H G' H' → Rep k G' v z → A z → Q v H'
/-- a new list of the caller's own comes back -/
def spO (k : Kx) (fs : List D → (List D → Prop) → Prop) : Sp := fun vs H Q _ => ∃ (G : Hp) (ds : List D) (A : List D → Prop), Same G H ∧ Reps k G vs ds ∧ fs ds A ∧
  ∀ p us zs G' H', Grow G H G' H' → G' p = none → H p = none → H' p = some (.lst us) → Reps k G' us zs → A zs → Q (.ref p) H'
/-- the first argument is a list of the caller's own, changed -/
def spB (k : Kx) (fs : List D → List D → (D → List D → Prop) → Prop) : Sp := fun vs H Q _ => ∃ (G : Hp) (l : Addr) (ws vs' : List V) (bs ds : List D) (A : D → List D → Prop), vs = .ref l :: vs' ∧ Same G H ∧ G l = none ∧ H l = some (.lst ws) ∧ Reps k G ws bs ∧ Reps k G vs' ds ∧ fs bs ds A ∧
  ∀ v z us cs G' H', Tr G (fun a => a = l) H G' (fun a => a = l) H' → Same G' H' → G' l = none → H' l = some (.lst us) → Reps k G' us cs → Rep k G' v z → A z cs → Q v H'
/-- an __init__ that stores one field -/
def spN (k : Kx) (C : Addr) (f : Str) (fs : List D → (D → Prop) → Prop) : Sp := fun vs H Q _ => ∃ (G : Hp) (x dx : Addr) (vs' : List V) (ds : List D) (A : D → Prop), vs = .ref x :: vs' ∧ Same G H ∧ G x = none ∧ H x = some (.ins C dx []) ∧ Reps k G vs' ds ∧ fs ds A ∧
  ∀ v z G' H' dx', Tr G (fun a => a = x) H G' (fun a => a = x) H' → Same G' H' → G' x = none → H' x = some (.ins C dx' [(f, v)]) → Rep k G' v z → A z → Q .non H'
def aCall (fs : List D → (D → Prop) → Prop) (r : AA) : AE := fun δ A => r δ fun ds δ1 => fs ds fun z => A z δ1
def aCallO (fs : List D → (List D → Prop) → Prop) (r : AA) : AO := fun δ A => r δ fun ds δ1 => fs ds fun z => A z δ1
def aCallB (fs : List D → List D → (D → List D → Prop) → Prop) (j : Nat) (r : AA) : AE := fun δ A => isM (gs δ j) fun l _ => r δ fun ds δ1 => isM (gs δ1 j) fun l' bs => l' = l ∧ fs bs ds fun z cs => A z (ss δ1 j (.mu l cs))
def aCallT (fs : List D → List D → (D → List D → Prop) → Prop) (o : AO) (r : AA) : AE := fun δ A => o δ fun bs δ1 => r δ1 fun ds δ2 => fs bs ds fun z _ => A z δ2
section
variable {k : Kx} {ta tb te : TE} {a b : AE} {tr : TA} {ar : AA} {E : XK}
theorem si_call {fs : List D → (D → Prop) → Prop} (ha : SimA k tr ar) : SimE k (tCall (spD k fs) [] E tr) (aCall fs ar) := fun G M σ H δ A Q st h q =>
  ha G M σ H δ _ _ st h fun vs ds G1 M1 H1 δ1 s1 t1 r1 h1 => ⟨G1, ds, _, s1.ex, by rw [List.append_nil]; exact r1, h1, fun v z G' H' g r hA => q v z G' M1 H' δ1 (s1.grow g) (t1.trans g.tr) r hA⟩
theorem so_call {fs : List D → (List D → Prop) → Prop} (ha : SimA k tr ar) : SimO k (tCall (spO k fs) [] E tr) (aCallO fs ar) := fun G M σ H δ A Q st h q =>
  ha G M σ H δ _ _ st h fun vs ds G1 M1 H1 δ1 s1 t1 r1 h1 => ⟨G1, ds, _, s1.ex, by rw [List.append_nil]; exact r1, h1, fun p us zs G' H' g gp hp hl r hA =>
    q p us zs G' M1 H' δ1 (s1.grow g) (t1.trans g.tr) (fun m => s1.trk p m hp) gp (.inr (t1.free hp)) hl r hA⟩
/-- a step in which one list of one's own changes -/
theorem Stt.lent {G G' H H' : Hp} {M : Addr → Prop} {σ : L2.St} {δ : Env} {j : Nat} {l : Addr} {bs cs : List D} {us : List V} (s : Stt k G M σ H δ) (hj : gs δ j = .mu l bs) (t : Tr G (fun a => a = l) H G' (fun a => a = l) H') (e : Same G' H') (gl : G' l = none)
    (hl : H' l = some (.lst us)) (r : Reps k G' us cs) : Stt k G' M σ H' (ss δ j (.mu l cs)) ∧ Tr G M H G' M H' := by
  obtain ⟨h1, hm, ws, hw, rw'⟩ := s.mu hj
  have hlen : j < δ.length := gs_len (by rw [hj]; exact fun z => nomatch z)
  have keep : ∀ a, M a → a ≠ l → H' a = H a := fun a m n => by
    obtain ⟨o, q⟩ := ne_none.mp (s.trk a m)
    rw [q, t.keep a o q n]
  refine ⟨⟨e, fun a m => ?_, fun a m => t.up a (s.trk a m), by rw [ss_length]; exact s.len, fun i => ?_, fun a b l' ds' m es' hab ha hb => ?_⟩, t.exG, fun a o h n => t.keep a o h fun z => n (by rw [z]; exact hm), fun a h => ?_, fun a m => .inl m, t.up⟩
  · by_cases en : a = l
    · rw [en]; exact gl
    · cases q : G' a with
      | none => rfl
      | some o =>
        rcases t.old a (by rw [q]; exact fun z => nomatch z) with w | w | w
        · exact absurd (s.dis a m) w
        · exact absurd w en
        · exact absurd w (s.trk a m)
  · by_cases en : j = i
    · subst en
      rw [gs_ss_get hlen]
      exact ⟨h1, hm, us, hl, r⟩
    · rw [gs_ss_ne en]
      have q := s.slot i
      cases hs : gs δ i with
      | un => trivial
      | da d =>
        rw [hs] at q
        obtain ⟨v, q1, q2⟩ := q
        exact ⟨v, q1, q2.mono t.exG⟩
      | mu m fs =>
        rw [hs] at q
        obtain ⟨q1, q2, ws', q3, q4⟩ := q
        exact ⟨q1, q2, ws', by rw [keep m q2 (s.ne i j m fs l bs (Ne.symm en) hs hj)]; exact q3, q4.mono t.exG⟩
      | ob x C fs =>
        rw [hs] at q
        obtain ⟨q1, q2, dx, fv, q3, q4⟩ := q
        exact ⟨q1, q2, dx, fv, by rw [keep x q2 (ne_of q3 hw (by intro z; cases z))]; exact q3, q4.mono t.exG⟩
  · have f : ∀ c m fs, gs (ss δ j (.mu l cs)) c = .mu m fs → ∃ gs', gs δ c = .mu m gs' := fun c m fs h => by
      by_cases en : j = c
      · subst en
        rw [gs_ss_get hlen] at h
        cases h
        exact ⟨bs, hj⟩
      · rw [gs_ss_ne en] at h
        exact ⟨fs, h⟩
    obtain ⟨d1, e1⟩ := f a _ _ ha
    obtain ⟨d2, e2⟩ := f b _ _ hb
    exact s.ne a b _ _ _ _ hab e1 e2
  · rcases t.old a h with w | w | w
    · exact .inl w
    · exact .inr (.inl (by rw [w]; exact hm))
    · exact .inr (.inr w)
theorem si_callB {fs : List D → List D → (D → List D → Prop) → Prop} {j : Nat} (ha : SimA k tr ar) : SimE k (tCall (spB k fs) [] E (tCons (tVar j) tr)) (aCallB fs j ar) := fun G M σ H δ A Q st h q => by
  obtain ⟨l, es, e, h⟩ := isM_elim h
  refine ⟨.ref l, (st.mu e).1, ha G M σ H δ _ _ st h fun vs ds G1 M1 H1 δ1 s1 t1 r1 h1 => ?_⟩
  obtain ⟨l', bs, e1, h3⟩ := isM_elim h1
  obtain ⟨el, h4⟩ := h3
  subst el
  obtain ⟨_, hm, ws, hw, rs⟩ := s1.mu e1
  refine ⟨G1, l', ws, vs, bs, ds, _, by rw [List.append_nil], s1.ex, s1.dis l' hm, hw, rs, r1, h4, fun v z us cs G' H' t e' gl hl r rv hA => ?_⟩
  obtain ⟨s2, t2⟩ := s1.lent e1 t e' gl hl r
  exact q v z G' M1 H' _ s2 (t1.trans t2) rv hA
theorem si_callT {fs : List D → List D → (D → List D → Prop) → Prop} {o : AO} (ho : SimO k ta o) (ha : SimA k tr ar) : SimE k (tCall (spB k fs) [] E (tCons ta tr)) (aCallT fs o ar) := fun G M σ H δ A Q st h q =>
  ho G M σ H δ _ _ st h fun p ws bs G1 M1 H1 δ1 s1 t1 nm gp hp hw rs h1 => ha G1 M1 σ H1 δ1 _ _ s1 h1 fun vs ds G2 M2 H2 δ2 s2 t2 r2 h2 => by
    obtain ⟨n2, g2, w2⟩ := t2.away nm gp hw
    refine ⟨G2, p, ws, vs, bs, ds, _, by rw [List.append_nil], s2.ex, g2, w2, rs.mono t2.exG, r2, h2, fun v z us cs G' H' t e' gl hl r rv hA => ?_⟩
    have keep : ∀ a, M2 a → H' a = H2 a := fun a m => by
      obtain ⟨o, q⟩ := ne_none.mp (s2.trk a m)
      rw [q, t.keep a o q (fun e => n2 (by rw [← e]; exact m))]
    refine q v z G' M2 H' δ2 ⟨e', fun a m => ?_, fun a m => t.up a (s2.trk a m), s2.len, fun i => (s2.slot i).mono t.exG fun l m => ⟨m, keep l m⟩, s2.ne⟩ ?_ rv hA
    · cases w : G' a with
      | none => rfl
      | some o =>
        rcases t.old a (by rw [w]; exact fun z => nomatch z) with x | x | x
        · exact absurd (s2.dis a m) x
        · exact absurd (by rw [← x]; exact m) n2
        · exact absurd x (s2.trk a m)
    · -- p was new since the start, or was one's own
      have tt := t1.trans t2
      refine ⟨tt.exG.trans t.exG, fun a o ha n => ?_, fun a ha => ?_, fun a m => tt.own a m, fun a ha => t.up a (tt.up a ha)⟩
      · refine t.keep a o (tt.keep a o ha n) fun e => ?_
        subst e
        rcases hp with m | m
        · exact n m
        · rw [ha] at m; cases m
      · rcases t.old a ha with x | x | x
        · exact tt.old a x
        · subst x
          rcases hp with m | m
          · exact .inr (.inl m)
          · exact .inr (.inr m)
        · exact .inr (.inr (tt.free x))
theorem si_mkRule {fs : List D → (D → Prop) → Prop} (ha : SimA k tr ar) : SimE k (tMake k.c.CR (spN k k.c.CR "terms" fs) [] E tr) (aCall (fun ds A => fs ds fun z => A (.rule z)) ar) := fun G M σ H δ A Q st h q =>
  ha G M σ H δ _ _ st h fun vs ds G1 M1 H1 δ1 s1 t1 r1 h1 => by
    intro x dx nx ndx nex
    have sH : Same H1 (upd (upd H1 dx (.own x)) x (.ins k.c.CR dx [])) := fun b o e => by rw [upd_ne (ne_of_none e nx), upd_ne (ne_of_none e ndx)]; exact e
    refine ⟨G1, x, dx, vs, ds, _, by rw [List.append_nil], s1.ex.trans sH, s1.ex.free nx, upd_same, r1, h1, fun v z G' H' dx' t e' gx hx rv hA => ⟨rfl, ?_⟩⟩
    have eg : Same G' (upd G' x (.ins k.c.CR dx' [("terms", v)])) := fun b o e => by rw [upd_ne (ne_of_none e gx)]; exact e
    have gr : Grow G1 H1 (upd G' x (.ins k.c.CR dx' [("terms", v)])) H' := by
      refine ⟨t.exG.trans eg, fun b o e => t.keep b o (sH b o e) (fun w => by subst w; rw [nx] at e; cases e), fun b o e => ?_, fun b hb => ?_⟩
      · by_cases w : b = x
        · subst w; rw [upd_same] at e; cases e; exact hx
        · rw [upd_ne w] at e; exact e' b o e
      · by_cases w : b = x
        · subst w; exact .inr nx
        · rw [upd_ne w] at hb
          rcases t.old b hb with y | y | y
          · exact .inl y
          · exact absurd y w
          · by_cases w2 : b = dx
            · subst w2; exact .inr ndx
            · rw [upd_ne w, upd_ne w2] at y; exact .inr y
    exact q _ _ _ M1 H' δ1 (s1.grow gr) (t1.trans gr.tr) (.rule upd_same (rv.mono eg)) hA
/-- a list given to ShelfCut, which copies it -/
def spCut (k : Kx) : Sp := fun vs H Q _ => ∃ (x dx p : Addr) (us : List V), vs = [.ref x, .ref p] ∧ H x = some (.ins k.c.CS dx []) ∧ H p = some (.lst us) ∧
  ∀ t, H t = none → Q .non (upd (upd H t (.tup us)) x (.ins k.c.CS dx [("rows", .ref t)]))
def fCut : List D → (D → Prop) → Prop
  | [.lst xs], A => A (.cut (.tup xs))
  | _, _ => False
theorem cut_core {G1 H1 : Hp} {M1 : Addr → Prop} {σ : L2.St} {δ1 : Env} {p : Addr} {us : List V} {es : List D} {Q : VK} {E : XK} (s1 : Stt k G1 M1 σ H1 δ1) (hp : H1 p = some (.lst us)) (rs : Reps k G1 us es)
    (fin : ∀ v G' H', Grow G1 H1 G' H' → Rep k G' v (.cut (.tup es)) → Q v H') (x dx : Addr) (nx : H1 x = none) (ndx : H1 dx = none) (nex : dx ≠ x) :
    spCut k [.ref x, .ref p] (upd (upd H1 dx (.own x)) x (.ins k.c.CS dx [])) (fun v H2 => v = .non ∧ Q (.ref x) H2) E := by
  have sH : Same H1 (upd (upd H1 dx (.own x)) x (.ins k.c.CS dx [])) := fun b o e => by rw [upd_ne (ne_of_none e nx), upd_ne (ne_of_none e ndx)]; exact e
  refine ⟨x, dx, p, us, rfl, upd_same, sH _ _ hp, fun t ht0 => ⟨rfl, ?_⟩⟩
  have tx : t ≠ x := fun e => by subst e; rw [upd_same] at ht0; cases ht0
  have tdx : t ≠ dx := fun e => by subst e; rw [upd_ne nex, upd_same] at ht0; cases ht0
  have t0 : H1 t = none := by rw [upd_ne tx, upd_ne tdx] at ht0; exact ht0
  have gr1 : Grow G1 H1 (upd G1 t (.tup us)) (upd H1 t (.tup us)) := Grow.new s1.ex t0
  have gx : G1 x = none := s1.ex.free nx
  have eg1 : Same G1 (upd G1 t (.tup us)) := gr1.g
  have gx1 : (upd G1 t (.tup us)) x = none := by rw [upd_ne (Ne.symm tx)]; exact gx
  have eg2 : Same (upd G1 t (.tup us)) (upd (upd G1 t (.tup us)) x (.ins k.c.CS dx [("rows", .ref t)])) := fun b o e => by rw [upd_ne (ne_of_none e gx1)]; exact e
  have keep : ∀ b o, H1 b = some o → (upd (upd (upd (upd H1 dx (.own x)) x (.ins k.c.CS dx [])) t (.tup us)) x (.ins k.c.CS dx [("rows", .ref t)])) b = some o := fun b o e => by
    rw [upd_ne (ne_of_none e nx), upd_ne (ne_of_none e t0)]; exact sH b o e
  refine fin (.ref x) (upd (upd G1 t (.tup us)) x (.ins k.c.CS dx [("rows", .ref t)])) _ ⟨eg1.trans eg2, keep, fun b o e => ?_, fun b hb => ?_⟩ (.cut upd_same (.tup (by rw [upd_ne tx]; exact upd_same) (rs.mono (eg1.trans eg2))))
  · by_cases w : b = x
    · subst w; rw [upd_same] at e ⊢; exact e
    · rw [upd_ne w] at e
      by_cases w2 : b = t
      · subst w2; rw [upd_same] at e; rw [upd_ne w, upd_same]; exact e
      · rw [upd_ne w2] at e; exact keep b o (s1.ex b o e)
  · by_cases w : b = x
    · subst w; exact .inr nx
    · rw [upd_ne w] at hb
      by_cases w2 : b = t
      · subst w2; exact .inr t0
      · rw [upd_ne w2] at hb; exact .inl hb
theorem si_mkCut (ha : SimA k tr ar) : SimE k (tMake k.c.CS (spCut k) [] E tr) (aCall fCut ar) := fun G M σ H δ A Q st h q =>
  ha G M σ H δ _ _ st h fun vs ds G1 M1 H1 δ1 s1 t1 r1 h1 => by
    cases r1 with
    | nil => exact h1.elim
    | cons r rr =>
      cases rr with
      | cons _ _ => cases r <;> exact h1.elim
      | nil =>
        cases r with
        | @lst p us es hp rs => exact fun x dx nx ndx nex => cut_core s1 (s1.ex _ _ hp) rs (fun v G' H' gr rv => q v _ G' M1 H' δ1 (s1.grow gr) (t1.trans gr.tr) rv h1) x dx nx ndx nex
        | _ => exact h1.elim
def aCutM (j : Nat) : AE := fun δ A => isM (gs δ j) fun _ ds => A (.cut (.tup ds)) δ
theorem si_mkCutM {j : Nat} : SimE k (tMake k.c.CS (spCut k) [] E (tCons (tVar j) tNil)) (aCutM j) := fun G M σ H δ A Q st h q => by
  obtain ⟨l, ds, e, h⟩ := isM_elim h
  obtain ⟨h1, hm, us, hl, rs⟩ := st.mu e
  exact ⟨.ref l, h1, fun x dx nx ndx nex => cut_core st hl rs (fun v G' H' gr rv => q v _ G' M H' δ (st.grow gr) gr.tr rv h) x dx nx ndx nex⟩
/-- the field of what is being made: the first name -/
def noOb (s : Slot) : Prop := match s with
  | .ob _ _ _ => False
  | _ => True
def noObs : Env → Prop
  | [] => True
  | s :: r => noOb s ∧ noObs r
theorem noObs_at : ∀ {δ : Env} {i : Nat} {x C : Addr} {fs : List (Str × D)}, noObs δ → gs δ i = .ob x C fs → False
  | [], _, _, _, _, _, h => by cases h
  | s :: r, 0, _, _, _, o, h => by
    have z := o.1
    rw [show s = _ from h] at z
    exact z
  | s :: r, i + 1, _, _, _, o, h => noObs_at (δ := r) (i := i) o.2 h
def aFld (C : Addr) (f : Str) (a : AE) : AS := fun A δ => a δ fun d δ1 => match δ1 with
  | .ob x C' [] :: r => C' = C ∧ noObs r ∧ A.nx (.ob x C [(f, d)] :: r)
  | _ => False
theorem ss_fld {C : Addr} {f : Str} (hc : Cls k.K C) (hn : NoAttr k.K C f) (ha : SimE k ta a) : SimS k (sFld k.K (tVar 0) ta f) (aFld C f a) := fun G M σ H δ A E st h q =>
  ha G M σ H δ _ _ st h fun v d G1 M1 H1 δ1 s1 t1 r1 h1 => by
    match δ1, s1, h1 with
    | .ob x C' [] :: r, s1, h1 =>
      obtain ⟨w1, hm, dx, fv, hx, rf⟩ := (show SlotOk k G1 M1 H1 σ[0]? (.ob x C' []) from s1.slot 0)
      cases rf
      obtain ⟨eC, no, hA⟩ := h1
      subst eC
      refine ⟨.ref x, w1, x, C', dx, [], rfl, hx, hc, hn, by decide, ?_⟩
      show E.nx σ (upd H1 x (.ins C' dx [(f, v)]))
      have gx := s1.dis x hm
      refine q.nx G1 M1 σ _ (.ob x C' [(f, d)] :: r) ⟨fun a o ha => ?_, s1.dis, fun a m => ?_, s1.len, fun i => ?_, fun a b l' ds' m es' hab ha hb => ?_⟩ (t1.trans ⟨Same.refl _, fun a o ha n => ?_, fun _ ha => .inl ha, fun _ ha => .inl ha, fun a ha => ?_⟩) hA
      · by_cases w : a = x
        · subst w; rw [gx] at ha; cases ha
        · rw [upd_ne w]; exact s1.ex a o ha
      · by_cases w : a = x
        · subst w; rw [upd_same]; exact fun z => nomatch z
        · rw [upd_ne w]; exact s1.trk a m
      · cases i with
        | zero => exact ⟨w1, hm, dx, _, upd_same, .one r1⟩
        | succ i =>
          have z := s1.slot (i + 1)
          show SlotOk k G1 M1 _ σ[i + 1]? (gs r i)
          have z : SlotOk k G1 M1 H1 σ[i + 1]? (gs r i) := z
          cases hs : gs r i with
          | un => trivial
          | da d => rw [hs] at z; exact z
          | mu m fs =>
            rw [hs] at z
            obtain ⟨z1, z2, us, z3, z4⟩ := z
            exact ⟨z1, z2, us, by rw [upd_ne (ne_of z3 hx (by intro z; cases z))]; exact z3, z4⟩
          | ob y C2 fs => exact (noObs_at no hs).elim
      · have f' : ∀ c m fs, gs (Slot.ob x C' [(f, d)] :: r) c = .mu m fs → gs (Slot.ob x C' [] :: r) c = .mu m fs := fun c m fs h => by
          cases c with
          | zero => cases h
          | succ c => exact h
        exact s1.ne a b _ _ _ _ hab (f' a _ _ ha) (f' b _ _ hb)
      · rw [upd_ne (fun w => n (by rw [w]; exact hm))]; exact ha
      · by_cases w : a = x
        · subst w; rw [upd_same]; exact fun z => nomatch z
        · rw [upd_ne w]; exact ha
    | [], _, h1 => exact h1.elim
    | .un :: _, _, h1 => exact h1.elim
    | .da _ :: _, _, h1 => exact h1.elim
    | .mu _ _ :: _, _, h1 => exact h1.elim
    | .ob _ _ (_ :: _) :: _, _, h1 => exact h1.elim
end

/-! ### a def keeps its promise -/
def envOf (n : Nat) (ss : List Slot) : Env := ss ++ List.replicate (n - ss.length) Slot.un
theorem gs_append : ∀ {a b : Env} {i : Nat}, gs (a ++ b) i = if i < a.length then gs a i else gs b (i - a.length)
  | [], b, i => by simp
  | s :: a, b, 0 => by simp [gs]
  | s :: a, b, i + 1 => by
    have h := gs_append (a := a) (b := b) (i := i)
    show gs (a ++ b) i = _
    rw [h]
    simp [gs]
theorem gs_un : ∀ {n i : Nat}, gs (List.replicate n Slot.un) i = .un
  | 0, _ => rfl
  | n + 1, 0 => rfl
  | n + 1, i + 1 => gs_un (n := n) (i := i)
theorem gs_da : ∀ {ds : List D} {i : Nat}, gs (ds.map Slot.da) i = match ds[i]? with
    | some d => .da d
    | none => .un
  | [], _ => rfl
  | d :: r, 0 => rfl
  | d :: r, i + 1 => by
    have h := gs_da (ds := r) (i := i)
    show gs (r.map Slot.da) i = _
    rw [h] <;> rfl
theorem start_get {N : List Str} {vs : List V} {i : Nat} {v : V} (h : vs[i]? = some v) : (L2.start N vs)[i]? = some (some v) := by
  unfold L2.start
  have hl := (List.getElem?_eq_some_iff.mp h).1
  rw [List.getElem?_append_left (by simpa using hl), List.getElem?_map, h]
  rfl
theorem start_length {N : List Str} {vs : List V} : (L2.start N vs).length = vs.length + (N.length - vs.length) := by unfold L2.start; simp
section
variable {k : Kx}
theorem stt_start {G H : Hp} {N : List Str} {vs : List V} {ds : List D} (e : Same G H) (r : Reps k G vs ds) : Stt k G (fun _ => False) (L2.start N vs) H (envOf N.length (ds.map .da)) where
  ex := e
  dis := fun _ h => h.elim
  trk := fun _ h => h.elim
  len := by rw [start_length]; unfold envOf; simp [r.length]
  slot := fun i => by
    unfold envOf
    rw [gs_append]
    split
    · rw [gs_da]
      cases q : ds[i]? with
      | none => trivial
      | some d =>
        obtain ⟨v, hv, rv⟩ := r.getD q
        exact ⟨v, start_get hv, rv⟩
    · rw [gs_un]; trivial
  ne := fun a b l es m fs _ ha _ => by
    unfold envOf at ha
    rw [gs_append] at ha
    split at ha
    · rw [gs_da] at ha
      split at ha <;> cases ha
    · rw [gs_un] at ha; cases ha
theorem stt_startB {G H : Hp} {N : List Str} {l : Addr} {ws vs : List V} {bs ds : List D} (e : Same G H) (gl : G l = none) (hl : H l = some (.lst ws)) (rb : Reps k G ws bs) (r : Reps k G vs ds) :
    Stt k G (fun a => a = l) (L2.start N (.ref l :: vs)) H (envOf N.length (.mu l bs :: ds.map .da)) where
  ex := e
  dis := fun a h => by rw [h]; exact gl
  trk := fun a h => by rw [h, hl]; exact fun z => nomatch z
  len := by
    rw [start_length]; unfold envOf; simp [r.length]
    omega
  slot := fun i => by
    unfold envOf
    cases i with
    | zero => exact ⟨start_get rfl, rfl, ws, hl, rb⟩
    | succ i =>
      show SlotOk k G _ H _ (gs (ds.map .da ++ _) i)
      rw [gs_append]
      split
      · rw [gs_da]
        cases q : ds[i]? with
        | none => trivial
        | some d =>
          obtain ⟨v, hv, rv⟩ := r.getD q
          exact ⟨v, start_get (i := i + 1) hv, rv⟩
      · rw [gs_un]; trivial
  ne := fun a b l' es m fs hab ha hb => by
    have f : ∀ c m fs, gs (envOf N.length (.mu l bs :: ds.map .da)) c = .mu m fs → c = 0 := fun c m fs h => by
      cases c with
      | zero => rfl
      | succ c =>
        unfold envOf at h
        have h : gs (ds.map Slot.da ++ List.replicate _ Slot.un) c = .mu m fs := h
        rw [gs_append] at h
        split at h
        · rw [gs_da] at h
          split at h <;> cases h
        · rw [gs_un] at h; cases h
    exact absurd ((f a _ _ ha).trans (f b _ _ hb).symm) hab
theorem stt_startN {G H : Hp} {N : List Str} {x C dx : Addr} {vs : List V} {ds : List D} (e : Same G H) (gl : G x = none) (hl : H x = some (.ins C dx [])) (r : Reps k G vs ds) :
    Stt k G (fun a => a = x) (L2.start N (.ref x :: vs)) H (envOf N.length (.ob x C [] :: ds.map .da)) where
  ex := e
  dis := fun a h => by rw [h]; exact gl
  trk := fun a h => by rw [h, hl]; exact fun z => nomatch z
  len := by
    rw [start_length]; unfold envOf; simp [r.length]
    omega
  slot := fun i => by
    unfold envOf
    cases i with
    | zero => exact ⟨start_get rfl, rfl, dx, [], hl, .nil⟩
    | succ i =>
      show SlotOk k G _ H _ (gs (ds.map .da ++ _) i)
      rw [gs_append]
      split
      · rw [gs_da]
        cases q : ds[i]? with
        | none => trivial
        | some d =>
          obtain ⟨v, hv, rv⟩ := r.getD q
          exact ⟨v, start_get (i := i + 1) hv, rv⟩
      · rw [gs_un]; trivial
  ne := fun a b l' es m fs hab ha hb => by
    cases a with
    | zero => cases ha
    | succ c =>
      unfold envOf at ha
      have h : gs (ds.map Slot.da ++ List.replicate _ Slot.un) c = .mu l' es := ha
      rw [gs_append] at h
      split at h
      · rw [gs_da] at h
        split at h <;> cases h
      · rw [gs_un] at h; cases h
end
section
variable {P : Program} {w : World} {K : PySem.W.Frag} {mg : Str → Option Value} {base : Heap} {c : Cl} {x qual : Str} {st : Stmt} {f : Addr} {fd : FuncData} {N ps : List Str} {j : Nat} {as : AS}
/-- a body's derivation, for every frame -/
def Body (P : Program) (w : World) (K : PySem.W.Frag) (mg : Str → Option Value) (base : Heap) (c : Cl) (N : List Str) (qual : Str) (st : Stmt) (f : Addr) (j : Nat) (as : AS) : Prop :=
  ∀ (cdv : Value) (A : Around) (outer : List PySem.Env) (s : Shared) (H : Hp) (E : XK), Room j (A.deeper (envOfC qual (defScope st) s.heap.objs.size f cdv)) → ∃ ts, PSs (cxOf CX0 P w K mg base N qual (defScope st) f cdv A outer s H E).nox (defBody st) ts ∧ SimS ⟨K, c⟩ ts as
theorem fn_D {fs : List D → (D → Prop) → Prop} (F : Fun K x qual st f fd) (S : FnScope N ps (defScope st)) (hl : ∀ ds A, fs ds A → ds.length = ps.length) (hb : Body P w K mg base c N qual st f j as)
    (hr : ∀ ds A, fs ds A → as { nx := fun _ => A .non, rt := fun d _ => A d } (envOf N.length (ds.map .da))) : FnOk P w K mg base CX0 (j + 1) f fd ps (spD ⟨K, c⟩ fs) := by
  refine F.ok S (fun vs H Q E h => ?_) (fun cdv A outer s H vs Q E hr' h => ?_)
  · obtain ⟨G, ds, A, _, r, h, _⟩ := h
    rw [r.length]; exact hl ds A h
  · obtain ⟨G, ds, A', eg, r, h, q⟩ := h
    obtain ⟨ts, p, sim⟩ := hb cdv A outer s H E hr'
    refine ⟨ts, p, sim G (fun _ => False) _ H _ _ _ (stt_start eg r) (hr ds A' h) ⟨fun G' M' σ' H' δ' s' t h' => ?_, fun _ _ _ _ _ _ _ z => z.elim, fun _ _ _ _ _ _ _ z => z.elim, fun v d G' M' σ' H' δ' s' t rv h' => ?_, fun _ _ _ _ _ _ _ _ _ _ _ _ _ _ _ z => z.elim⟩⟩
    · exact q _ _ G' H' ⟨t.exG, fun a o ha => t.keep a o ha id, s'.ex, fun a ha => (t.old a ha).elim .inl fun z => .inr (z.resolve_left id)⟩ .non h'
    · exact q _ _ G' H' ⟨t.exG, fun a o ha => t.keep a o ha id, s'.ex, fun a ha => (t.old a ha).elim .inl fun z => .inr (z.resolve_left id)⟩ rv h'
theorem fn_O {fs : List D → (List D → Prop) → Prop} (F : Fun K x qual st f fd) (S : FnScope N ps (defScope st)) (hl : ∀ ds A, fs ds A → ds.length = ps.length) (hb : Body P w K mg base c N qual st f j as)
    (hr : ∀ ds A, fs ds A → as { nx := fun _ => False, rt := fun _ _ => False, ro := fun d _ => A d } (envOf N.length (ds.map .da))) : FnOk P w K mg base CX0 (j + 1) f fd ps (spO ⟨K, c⟩ fs) := by
  refine F.ok S (fun vs H Q E h => ?_) (fun cdv A outer s H vs Q E hr' h => ?_)
  · obtain ⟨G, ds, A, _, r, h, _⟩ := h
    rw [r.length]; exact hl ds A h
  · obtain ⟨G, ds, A', eg, r, h, q⟩ := h
    obtain ⟨ts, p, sim⟩ := hb cdv A outer s H E hr'
    refine ⟨ts, p, sim G (fun _ => False) _ H _ _ _ (stt_start eg r) (hr ds A' h) ⟨fun _ _ _ _ _ _ _ z => z.elim, fun _ _ _ _ _ _ _ z => z.elim, fun _ _ _ _ _ _ _ z => z.elim, fun _ _ _ _ _ _ _ _ _ _ z => z.elim, fun p us ds' G' M' σ' H' δ' s' t nm gp hp hlu rv h' => ?_⟩⟩
    exact q p us ds' G' H' ⟨t.exG, fun a o ha => t.keep a o ha id, s'.ex, fun a ha => (t.old a ha).elim .inl fun z => .inr (z.resolve_left id)⟩ gp (hp.resolve_left id) hlu rv h'
theorem fn_B {fs : List D → List D → (D → List D → Prop) → Prop} (F : Fun K x qual st f fd) (S : FnScope N ps (defScope st)) (hl : ∀ bs ds A, fs bs ds A → ds.length + 1 = ps.length) (hb : Body P w K mg base c N qual st f j as)
    (hr : ∀ bs ds A l, fs bs ds A → as { nx := fun _ => False, rt := fun d δ => isM (gs δ 0) fun l' cs => l' = l ∧ A d cs } (envOf N.length (.mu l bs :: ds.map .da))) : FnOk P w K mg base CX0 (j + 1) f fd ps (spB ⟨K, c⟩ fs) := by
  refine F.ok S (fun vs H Q E h => ?_) (fun cdv A outer s H vs Q E hr' h => ?_)
  · obtain ⟨G, l, ws, vs', bs, ds, A, rfl, _, _, _, _, r, h, _⟩ := h
    rw [List.length_cons, r.length]; exact hl bs ds A h
  · obtain ⟨G, l, ws, vs', bs, ds, A', rfl, eg, gl, hw, rb, r, h, q⟩ := h
    obtain ⟨ts, p, sim⟩ := hb cdv A outer s H E hr'
    refine ⟨ts, p, sim G (fun a => a = l) _ H _ _ _ (stt_startB eg gl hw rb r) (hr bs ds A' l h) ⟨fun _ _ _ _ _ _ _ z => z.elim, fun _ _ _ _ _ _ _ z => z.elim, fun _ _ _ _ _ _ _ z => z.elim, fun v d G' M' σ' H' δ' s' t rv h' => ?_, fun _ _ _ _ _ _ _ _ _ _ _ _ _ _ _ z => z.elim⟩⟩
    obtain ⟨l', cs, e, el, hA⟩ := isM_elim h'
    subst el
    obtain ⟨_, hm, us, hu, ru⟩ := s'.mu e
    exact q v d us cs G' H' ⟨t.exG, t.keep, t.old, fun a m => by subst m; exact .inl rfl, t.up⟩ s'.ex (s'.dis l' hm) hu ru rv hA
theorem fn_N {C : Addr} {fl : Str} {fs : List D → (D → Prop) → Prop} (F : Fun K x qual st f fd) (S : FnScope N ps (defScope st)) (hl : ∀ ds A, fs ds A → ds.length + 1 = ps.length) (hb : Body P w K mg base c N qual st f j as)
    (hr : ∀ ds A x, fs ds A → as { nx := fun δ => ∃ z r, δ = .ob x C [(fl, z)] :: r ∧ A z, rt := fun _ _ => False } (envOf N.length (.ob x C [] :: ds.map .da))) : FnOk P w K mg base CX0 (j + 1) f fd ps (spN ⟨K, c⟩ C fl fs) := by
  refine F.ok S (fun vs H Q E h => ?_) (fun cdv A outer s H vs Q E hr' h => ?_)
  · obtain ⟨G, l, dx, vs', ds, A, rfl, _, _, _, r, h, _⟩ := h
    rw [List.length_cons, r.length]; exact hl ds A h
  · obtain ⟨G, l, dx, vs', ds, A', rfl, eg, gl, hw, r, h, q⟩ := h
    obtain ⟨ts, p, sim⟩ := hb cdv A outer s H E hr'
    refine ⟨ts, p, sim G (fun a => a = l) _ H _ _ _ (stt_startN eg gl hw r) (hr ds A' l h) ⟨fun G' M' σ' H' δ' s' t h' => ?_, fun _ _ _ _ _ _ _ z => z.elim, fun _ _ _ _ _ _ _ z => z.elim, fun _ _ _ _ _ _ _ _ _ _ z => z.elim, fun _ _ _ _ _ _ _ _ _ _ _ _ _ _ _ z => z.elim⟩⟩
    obtain ⟨z, r', e, hA⟩ := h'
    subst e
    obtain ⟨_, hm, dx2, fv, hu, ru⟩ := (show SlotOk ⟨K, c⟩ G' M' H' σ'[0]? (.ob l C [(fl, z)]) from s'.slot 0)
    cases ru with
    | one rz =>
      exact q _ z G' H' dx2 ⟨t.exG, t.keep, t.old, fun a m => by subst m; exact .inl rfl, t.up⟩ s'.ex (s'.dis l hm) hu rz hA
end
end Ab
set_option maxHeartbeats 4000000
/-! enumerate over a tuple -/
namespace PySem
open Sem (wp)
open AutoSeq1 (wpAny_loadPart')
theorem meets_enumerate_newTu (l : Addr) (items : Array Value) (n : Nat) (dct : Option Addr) (sl : Array (Option Value)) :
    Meets (Builtin.«enumerate.__new__» ⟨[.type "enumerate", .ref l], []⟩) (fun _ R s => s.heap.get? l = some { cls := .type "tuple", dict := dct, data := .seq items n, slots := sl } ∧
      R (.ok (.ret (.ref (s.heap.push { cls := .type "tuple_iterator", data := .fields #[.ref l, .int 0 0] }).objs.size)))
        { s with heap := (s.heap.push { cls := .type "tuple_iterator", data := .fields #[.ref l, .int 0 0] }).push { cls := .type "enumerate", data := .fields #[.none, .bool false, .ref s.heap.objs.size, rawInt 0, .none, .none] } }) :=
  .of_wp fun prog w A R s h => by
    obtain ⟨hp, g, d, tk, os⟩ := s; obtain ⟨hl, h⟩ := h
    have hsub := sub_enumerate
    have hL : Heap.IsTuple (Shared.heap ⟨hp, g, d, tk, os⟩) l items := ⟨_, hl, rfl, n, rfl⟩
    wp_walk using wpAny_loadPart' hl
    refine wpAny_stack_any fun st => wpAny_pure ?_
    split
    · rename_i c _ _ _ _ _
      cases (c == Value.type "enumerate")
      · wp_walk using wpAny_loadPart' hl, wpAny_pyIter_tuple hL
        exact ⟨_, rfl, h⟩
      · wp_walk using wpAny_loadPart' hl, wpAny_pyIter_tuple hL
        exact ⟨_, rfl, h⟩
    · wp_walk using wpAny_loadPart' hl, wpAny_pyIter_tuple hL
      exact ⟨_, rfl, h⟩
theorem call_enumerate_tuple {prog : Program} {w : World} {A : Around} {E : Value → Shared → Prop} {s : Shared} {l : Addr} {items : Array Value} {Q : Value → Shared → Prop} (hL : s.heap.IsTuple l items)
    (h : ∀ h', IsEnum h' (s.heap.objs.size + 1) s.heap.objs.size 0 .none → h'.IsTupleIter s.heap.objs.size l 0 → h'.objs.size = s.heap.objs.size + 2 →
      (∀ b o, s.heap.get? b = some o → h'.get? b = some o) → Q (.ref (s.heap.objs.size + 1)) { s with heap := h' }) :
    wpAny (model prog w) A (call (.type "enumerate") [.ref l]) Q E s := by
  obtain ⟨⟨c, dct, dt, sl⟩, hl, hc, n, hd⟩ := hL
  replace hc : c = .type "tuple" := hc
  replace hd : dt = .seq items n := hd
  subst hc hd
  refine callType_new F.called_enumerate (by decide) (F.typeCall_enumerate_1 _) (F.newCall_enumerate_1 _) (fun obj => F.args_object_init_2 obj _) F.entry_enumerate_new
    (meets_enumerate_newTu l items n dct sl) ⟨hl, ?_⟩
  have hz : (s.heap.push { cls := .type "tuple_iterator", data := .fields #[.ref l, .int 0 0] }).objs.size = s.heap.objs.size + 1 := Heap.size_push ..
  show _ ∧ _
  rw [hz]
  have he : IsEnum ((s.heap.push { cls := .type "tuple_iterator", data := .fields #[.ref l, .int 0 0] }).push
      { cls := .type "enumerate", data := .fields #[.none, .bool false, .ref s.heap.objs.size, rawInt 0, .none, .none] }) (s.heap.objs.size + 1) s.heap.objs.size 0 .none := by
    have := Heap.get?_push_size (s.heap.push { cls := .type "tuple_iterator", data := .fields #[.ref l, .int 0 0] })
      (o := { cls := .type "enumerate", data := .fields #[.none, .bool false, .ref s.heap.objs.size, rawInt 0, .none, .none] }) rfl
    rw [hz] at this; exact this
  refine ⟨⟨_, he, rfl⟩, h _ he ⟨_, Heap.get?_push_of_some _ (Heap.get?_push_size _ rfl), rfl, rfl⟩ (by rw [Heap.size_push, hz]) fun b o x => Heap.get?_push_of_some _ (Heap.get?_push_of_some _ x)⟩
end PySem
namespace Ab
open PySem PySem.Spec PyProof.Rows L2
def IteT (K : PySem.W.Frag) (a : Addr) : It :=
  ⟨fun i H => ∃ (xs : List V) (x : V), SqT K H a xs ∧ xs[i]? = some x, fun i H v H' => ∃ T x, v = .ref T ∧ H T = none ∧ H' = upd H T (.tup [.int (i : Nat), x]) ∧ ∀ xs, SqT K H a xs → xs[i]? = some x, fun i H => ∃ xs : List V, SqT K H a xs ∧ xs.length ≤ i⟩
theorem turn_enumT {P : Program} {w : World} {K : PySem.W.Frag} {elts : List Expr} {kk : Nat} {tpos : Pos} (a e it : Addr) :
    Turn P w K (.Tuple elts kk tpos) (IteT K a) [e, it] e (fun i h => (∃ old, IsEnum h e it ((i : Nat) : Int) old) ∧ h.IsTupleIter it a i ∧ e ≠ it) where
  mem := by simp
  obj := fun i h st b hb => by
    obtain ⟨⟨old, he⟩, ⟨o, ho, hc, hd⟩, _⟩ := st
    have e' : b = e ∨ b = it := by simpa using hb
    rcases e' with z | z
    · rw [z]; exact ⟨_, he, fun v q => nomatch q⟩
    · rw [z]; exact ⟨o, ho, fun v q => by rw [hd] at q; cases q⟩
  keep := fun i h h' st k => let ⟨⟨old, he⟩, hi, hne⟩ := st; ⟨⟨old, k e (by simp) _ he⟩, hi.at fun o q => k it (by simp) o q, hne⟩
  item := by
    intro X hP hw hK hc i pins s σ H E I hf st hg
    subst hP hw hK
    obtain ⟨⟨old, he⟩, hit, hne⟩ := st
    obtain ⟨xs, x, hq, hx⟩ := hg
    obtain ⟨its, rv, p, hz⟩ := I.tuple hq
    obtain ⟨u, hu, ru⟩ := rv.get hx
    have pt : s.heap.IsTuple a its.toArray := p
    have hel : e < s.heap.objs.size := Heap.lt_size he
    have hil : it < s.heap.objs.size := by obtain ⟨_, q, _⟩ := hit; exact Heap.lt_size q
    have hai : a ≠ it := fun z => by
      subst z
      obtain ⟨o1, q1, c1, _⟩ := pt
      obtain ⟨o2, q2, c2, _⟩ := hit
      rw [q1] at q2
      cases q2
      rw [c1] at c2
      exact absurd c2 (by decide)
    have hae : a ≠ e := fun z => by
      subst z
      obtain ⟨o1, q1, c1, _⟩ := pt
      have he' : s.heap.get? a = some _ := he
      rw [q1] at he'
      cases he'
      have c1' : Value.type "enumerate" = Value.type "tuple" := c1
      exact absurd c1' (by decide)
    refine wpAny_pyNext_enum_itemD (n := its.toArray.size) (i := i) (P := fun i v => its.toArray[i]? = some v) (Draws.tuple (A := X.A.in1) (by rw [show X.A.in1.handled = X.A.handled from rfl]; exact I.ok.hd hc) it a hai its.toArray) he ⟨hit, pt⟩ ?_ hne ?_ fun v h' tk hv ho st' hT hsz hk => ?_
    · have := (List.getElem?_eq_some_iff.mp hx).1
      have hl := rv.length
      simp; omega
    · simp [hne, Ne.symm hae]
    have ev : v = u := by
      have : its[i]? = some v := by simpa using hv
      rw [hu] at this
      exact (Option.some.inj this).symm
    subst ev
    obtain ⟨hit', _⟩ := st'
    refine ⟨_, rfl, wpAny_letOwnedTupleGo_enum (s := { s with heap := h', toks := tk + 1 }) ho fun h'' he' sb => ?_⟩
    have hT2 : h''.get? s.heap.objs.size = some { cls := .type "tuple", data := .seq #[.int i tk, v] } := (sb.2 _ (Nat.ne_of_gt hel)).trans hT
    have new : ObjOk X.prog X.w (upd H s.heap.objs.size (.tup [.int (i : Nat), x])) h'' s.heap.objs.size (.tup [.int (i : Nat), x]) :=
      ⟨by show 2 ≤ sizeLine; decide, [.int i tk, v], .cons ⟨_, rfl⟩ (.cons ru .nil), ⟨_, hT2, rfl, _, rfl⟩⟩
    have I1 : Inv X pins σ (upd H s.heap.objs.size (.tup [.int (i : Nat), x])) { s with heap := h'', toks := tk + 1 } :=
      I.turnedNew (ch := [e, it]) (fun b ob hb q => (sb.2 b (fun z => hb (by simp [z]))).trans (hk b ob (fun z => hb (by simp [z])) (fun z => hb (by simp [z])) q)) hf (Nat.le_refl _) new
    refine ⟨.ref s.heap.objs.size, _, I1, rfl, ⟨_, x, rfl, I.hok.fresh (Nat.le_refl _), rfl, fun ys hy => by rw [I.tuple_inj hy hq]; exact hx⟩, ⟨⟨v, ?_⟩, hit'.at fun o q => (sb.2 it (Ne.symm hne)).trans q, hne⟩, fun b hb => ?_⟩
    · have e1 : ((i + 1 : Nat) : Int) = (i : Int) + 1 := by omega
      rw [e1]; exact he'
    · have hb' : b < s.heap.objs.size := by
        have e' : b = e ∨ b = it := by simpa using hb
        rcases e' with z | z
        · rw [z]; exact hel
        · rw [z]; exact hil
      rw [upd_ne (Nat.ne_of_lt hb')]
      exact (hf b hb).1
  done := by
    intro X hP hw hK hc i pins s σ H E I hf st hg
    subst hP hw hK
    obtain ⟨⟨old, he⟩, hit, hne⟩ := st
    obtain ⟨xs, hq, hx⟩ := hg
    obtain ⟨its, rv, p, hz⟩ := I.tuple hq
    have pt : s.heap.IsTuple a its.toArray := p
    obtain ⟨f0, f1, f2, f3, f4, f5⟩ := hf it (by simp)
    have hl := rv.length
    have hai : a ≠ it := fun z => by
      subst z
      obtain ⟨o1, q1, c1, _⟩ := pt
      obtain ⟨o2, q2, c2, _⟩ := hit
      rw [q1] at q2
      cases q2
      rw [c1] at c2
      exact absurd c2 (by decide)
    have D1 : Draws X.prog X.w X.A.in1 it [it, a] i (fun i v => its.toArray[i]? = some v) (fun j h => j ≤ i ∧ (j < i → False) ∧ h.IsTupleIter it a i ∧ h.IsTuple a its.toArray) := {
      live := fun _ _ st => let ⟨o, ho, _⟩ := st.2.2.1; ⟨o, ho⟩
      frame := fun _ _ _ st hk => ⟨st.1, st.2.1, st.2.2.1.at fun o e => hk it (by simp) o e, st.2.2.2.at fun o e => hk a (by simp) o e⟩
      item := fun j s Q E hj st _ => (st.2.1 hj).elim
      done := fun s Q E st hE => wpAny_nextOf_tuple_end (by rw [show X.A.in1.handled = X.A.handled from rfl]; exact I.ok.hd hc) st.2.2.1 st.2.2.2 (by simp; omega) hE }
    exact wpAny_pyNext_enum_endD D1 he ⟨Nat.le_refl _, fun z => absurd z (Nat.lt_irrefl _), hit, pt⟩ fun h' eb => ⟨rfl, I.turned (t' := s.toks) (fun b o hb q => eb b o hb q) f0 f1 f3 f4 f5⟩
  self := fun A i s Q E st h => let ⟨⟨_, he⟩, _⟩ := st; wpAny_pyIter_enum he h
def iEnumT (K : PySem.W.Frag) (ta : TA) : TI := fun σ H R => ta σ H fun vs H1 => ∃ a xs, vs = [.ref a] ∧ SqT K H1 a xs ∧ R (IteT K a) H1
theorem pi_enumT {X : Cx} {e : Expr} {ta : TA} {p pos tpos : Pos} {elts : List Expr} {kk : Nat} (hg : Gl X "enumerate") (hm : X.mg "enumerate" = none) (ha : PA X [e] ta) (hs : starEach [e] X.env = [(false, eval e X.env)] := by rfl) :
    PI X (.Tuple elts kk tpos) (.Call (.Name "enumerate" p) [e] [] pos) (iEnumT X.K ta) := by
  refine ⟨fun pins s σ H R I h => ?_⟩
  refine Call_ (ld_blt I hg hm boot_enumerate (PyProof.Rows.callWith_type1 (thn (ha.run pos pins s σ H _ I h) fun us s1 ⟨vs, H1, I1, r1, q1⟩ => ?_) hs rfl))
  obtain ⟨a, xs, ex, hq, q⟩ := q1
  subst ex
  cases r1 with
  | cons r rr =>
    cases rr
    cases r
    obtain ⟨its, rv, p', hz⟩ := I1.tuple hq
    refine call_enumerate_tuple (show s1.heap.IsTuple a its.toArray from p') fun h' he hit hsz hk => wpAny_pyIter_enum he ?_
    have I2 : Inv X pins σ H1 { s1 with heap := h' } := I1.kept (t' := s1.toks) hk
    refine ⟨s1.heap.objs.size + 1, [s1.heap.objs.size + 1, s1.heap.objs.size], _, _, H1, rfl, I2, turn_enumT a (s1.heap.objs.size + 1) s1.heap.objs.size, ⟨⟨.none, he⟩, hit, Nat.succ_ne_self _⟩, fun b hb => ?_, q⟩
    have e' : b = s1.heap.objs.size + 1 ∨ b = s1.heap.objs.size := by simpa using hb
    have hle : s1.heap.objs.size ≤ b := by
      rcases e' with z | z
      · rw [z]; exact Nat.le_add_right _ _
      · rw [z]; exact Nat.le_refl _
    exact I1.fpOk hle (I1.hok.fresh hle)
/-- (0, x), (1, y), .. -/
def enumD : Nat → List D → List D
  | _, [] => []
  | n, x :: r => .tup [.int (n : Int), x] :: enumD (n + 1) r
theorem enumD_length : ∀ {n : Nat} {xs : List D}, (enumD n xs).length = xs.length
  | _, [] => rfl
  | n, x :: r => by
    show (enumD (n + 1) r).length + 1 = r.length + 1
    rw [enumD_length]
theorem enumD_get : ∀ {n i : Nat} {xs : List D} {d : D}, (enumD n xs)[i]? = some d → ∃ x, xs[i]? = some x ∧ d = .tup [.int ((n + i : Nat) : Int), x]
  | _, _, [], _, h => by simp [enumD] at h
  | n, 0, x :: r, d, h => by
    have e : D.tup [.int (n : Int), x] = d := Option.some.inj h
    exact ⟨x, rfl, e.symm⟩
  | n, i + 1, x :: r, d, h => by
    obtain ⟨y, h1, h2⟩ := enumD_get (n := n + 1) (i := i) (xs := r) (d := d) h
    exact ⟨y, h1, by rw [h2, show n + 1 + i = n + (i + 1) by omega]⟩
def aiEnum (a : AA) : AI := fun δ A => a δ fun ds δ1 => match ds with
  | [.tup xs] => A (enumD 0 xs) δ1
  | _ => False
section
variable {k : Kx} {tr : TA} {ar : AA}
theorem itee_ok {G : Hp} {p : Addr} {vs : List V} {ds : List D} (h : G p = some (.tup vs)) (r : Reps k G vs ds) : IterOk k G (IteT k.K p) (enumD 0 ds) where
  go := fun i H e hi => by
    rw [enumD_length] at hi
    obtain ⟨v, hv, _⟩ := r.getD (List.getElem?_eq_getElem hi)
    exact ⟨vs, v, .inl (.inl (e _ _ h)), hv⟩
  stop := fun H e => ⟨vs, .inl (.inl (e _ _ h)), by rw [r.length, enumD_length]; exact Nat.le_refl _⟩
  yld := fun i d G' H x H' e1 e2 hd hy => by
    obtain ⟨T, y, rfl, nT, rfl, f⟩ := hy
    obtain ⟨d', hd', rd⟩ := r.get (f vs (.inl (.inl ((e1.trans e2) _ _ h))))
    obtain ⟨z, hz, rfl⟩ := enumD_get hd
    have ed : d' = z := Option.some.inj (hd'.symm.trans hz)
    subst ed
    have g : Grow G' H _ _ := Grow.new (o := .tup [.int ((i : Nat) : Int), y]) e2 nT
    refine ⟨_, g, .tup upd_same (.cons ?_ (.one ((rd.mono e1).mono g.g)))⟩
    rw [Nat.zero_add]
    exact .int _
theorem sit_enum (ha : SimA k tr ar) : SimI k (iEnumT k.K tr) (aiEnum ar) := fun G M σ H δ A R st h q => ha G M σ H δ _ _ st h fun vs ds G1 M1 H1 δ1 st1 t1 r1 h1 => by
  cases r1 with
  | nil => exact h1.elim
  | cons r rr =>
    cases rr with
    | cons _ _ => cases r <;> exact h1.elim
    | nil =>
      cases r with
      | @tup p us es hp rs => exact ⟨p, us, rfl, .inl (.inl (st1.ex _ _ hp)), q _ _ G1 M1 H1 δ1 st1 t1 (itee_ok hp rs) h1⟩
      | _ => exact h1.elim
end
end Ab
set_option maxHeartbeats 4000000
namespace Ab
open PySem PySem.Spec PyProof.Rows L2

abbrev rLenX (K : PySem.W.Frag) : List V → Hp → VK → Prop := fun xs H Q => ∃ p ys, xs = [.ref p] ∧ (SqL K H p ys ∨ SqT K H p ys) ∧ Q (.int ys.length) H
abbrev rIntX : List V → Hp → VK → Prop := fun xs H Q => (∃ i, xs = [.int i] ∧ Q (.int i) H) ∨ ∃ k, xs = [.bl k] ∧ Q (.int (if k then 1 else 0)) H
abbrev rTupX (K : PySem.W.Frag) : List V → Hp → VK → Prop := fun xs H Q => ∃ p ys, xs = [.ref p] ∧ ((SqL K H p ys ∧ ∀ l, H l = none → Q (.ref l) (upd H l (.tup ys))) ∨ (SqT K H p ys ∧ Q (.ref p) H))
abbrev rListX (K : PySem.W.Frag) : List V → Hp → VK → Prop := fun xs H Q => ∃ p ys, xs = [.ref p] ∧ (SqL K H p ys ∨ SqT K H p ys) ∧ ∀ l, H l = none → Q (.ref l) (upd H l (.lst ys))
abbrev rMaxX : List V → Hp → VK → Prop := fun xs H Q => ∃ i j, xs = [.int i, .int j] ∧ Q (.int (if j > i then j else i)) H
abbrev rMinX : List V → Hp → VK → Prop := fun xs H Q => ∃ i j, xs = [.int i, .int j] ∧ Q (.int (if j < i then j else i)) H
abbrev rInsX : V → List V → Hp → VK → Prop := fun x vs H Q => ∃ (l : Addr) (xs : List V) (i : Int) (y : V), x = .ref l ∧ vs = [.int i, y] ∧ H l = some (.lst xs) ∧ xs.length < sizeLine ∧ 0 ≤ i ∧ i < 2 ^ 63 ∧
    Q .non (upd H l (.lst (xs.take i.toNat ++ [y] ++ xs.drop i.toNat)))
structure XE (X : Cx) (k : Kx) (e : Expr) (te : TE) (a : AE) : Prop where
  p : PE X e te
  s : SimE k te a
structure XO (X : Cx) (k : Kx) (e : Expr) (te : TE) (a : AO) : Prop where
  p : PE X e te
  s : SimO k te a
structure XT (X : Cx) (k : Kx) (e : Expr) (tt : TT) (a : AT) : Prop where
  p : PT X e tt
  s : SimT k tt a
structure XW (X : Cx) (k : Kx) (e : Expr) (tt : TT) (a : AT) : Prop where
  p : PW X e tt
  s : SimT k tt a
structure XA (X : Cx) (k : Kx) (es : List Expr) (ta : TA) (a : AA) : Prop where
  p : PA X es ta
  s : SimA k ta a
structure XP (X : Cx) (k : Kx) (e : Option Expr) (to : TO) (a : APt) : Prop where
  p : PO X e to
  s : SimP k to a
structure XS (X : Cx) (k : Kx) (st : Stmt) (ts : TS) (a : AS) : Prop where
  p : PS X st ts
  s : SimS k ts a
structure XB (X : Cx) (k : Kx) (st : List Stmt) (ts : TS) (a : AS) : Prop where
  p : PSs X st ts
  s : SimS k ts a
structure XI (X : Cx) (k : Kx) (tg e : Expr) (wi : TI) (a : AI) : Prop where
  p : PI X tg e wi
  s : SimI k wi a
structure XG (X : Cx) (k : Kx) (e : Expr) (g : TG) (a : AG) (ws : List Nat) : Prop where
  p : PG X e g
  s : SimG k g a ws
structure XTs (X : Cx) (k : Kx) (es : List Expr) (tt : TT) (a : AT) : Prop where
  p : PTs X es tt
  s : SimT k tt a
/-- a def of the text, called by its name -/
structure Df (P : Program) (w : World) (K : PySem.W.Frag) (mg : Str → Option Value) (base : Heap) (x : Str) (lv : Nat) (ps : List Str) (sp : Sp) : Prop where
  ex : ∃ (f : Addr) (fd : FuncData), FnOk P w K mg base CX0 lv f fd ps sp ∧ mg x = some (.ref f) ∧ PySem.W.keepIn K (.ref f) = true ∧ Binds K fd ps []
/-- a class of the text, made by its name -/
structure Dm (P : Program) (w : World) (K : PySem.W.Frag) (mg : Str → Option Value) (base : Heap) (x : Str) (C : Addr) (lv : Nat) (ps : List Str) (sp : Sp) : Prop where
  ex : ∃ (f : Addr) (fd : FuncData), FnOk P w K mg base CX0 lv f fd ps sp ∧ mg x = some (.ref C) ∧ Mk K C f ∧ Binds K fd ps []
/-- the built-in names are the built-ins -/
structure Bi (mg : Str → Option Value) : Prop where
  len : mg "len" = none
  int : mg "int" = none
  bool : mg "bool" = none
  list : mg "list" = none
  tuple : mg "tuple" = none
  range : mg "range" = none
  enumerate : mg "enumerate" = none
  isinstance : mg "isinstance" = none
  max : mg "max" = none
  min : mg "min" = none

section
variable {X : Cx} {k : Kx} {e o l : Expr} {es : List Expr} {te ta tb tc : TE} {a b d : AE} {ao : AO} {pos p p2 apos : Pos} {tt tu : TT} {q q2 : AT} {tr : TA} {ar : AA} {x y : Expr} {lv : Nat} {nm : Str}

/-! ### expressions -/
theorem xv (i : Nat) {nm : Str} {pos : Pos} (hN : X.N[i]? = some nm := by rfl) (hv : Vis X.env.scope nm := by first | exact Or.inl rfl | exact Or.inr (Or.inl rfl) | exact Or.inr (Or.inr rfl)) (hd : (nm == ("__debug__" : Str)) = false := by decide)
    (hcd : (nm == ("__classdict__" : Str)) = false := by decide) : XE X k (.Name nm pos) (tVar i) (aVar i) := ⟨pv i hN hv hd hcd, si_var⟩
theorem xi {i j pos} : XE X k (.Constant (.int i) j pos) (tC (.int i)) (aC (.int i)) := ⟨pe_int, si_int⟩
theorem xb {i j pos} : XE X k (.Constant (.bool i) j pos) (tC (.bl i)) (aC (.bl i)) := ⟨pe_bl, si_bl⟩
theorem xn {j pos} : XE X k (.Constant .none j pos) (tC .non) (aC .non) := ⟨pe_non, si_non⟩
theorem xg {i : Int} {t : Tok} (hm : X.mg nm = some (.int i t)) (hg : Gl X nm := by rfl) (hd : (nm == ("__debug__" : Str)) = false := by decide) : XE X k (.Name nm pos) (tC (.int i)) (aC (.int i)) := ⟨pe_glob hg hm ⟨_, rfl⟩ hd, si_int⟩
theorem xbin {op : Operator} {r : R2} {f : D → D → (D → Prop) → Prop} (ho : OpX X k (binaryOp op) r f) (ha : XE X k x ta a) (hb : XE X k y tb b) : XE X k (.BinOp x op y pos) (tOp r ta tb) (aOp f a b) := ⟨pe_op ho.o ha.p hb.p, si_op ho.s ha.s hb.s⟩
theorem xneg (ha : XE X k x ta a) : XE X k (.UnaryOp .USub x pos) (tUn (rU fun i => .int (-i)) ta) (aUn fNeg a) := ⟨pe_un un_neg ha.p, si_un us_neg ha.s⟩
theorem xcmp {op : CmpOp} {r : R2} {f : D → D → (D → Prop) → Prop} (ho : OpX X k (compareOp op) r f) (ha : XE X k x ta a) (hb : XE X k y tb b) (hm : behindInMarks op y = false := by first | exact nomark _ | rfl) :
    XE X k (.Compare x [op] [y] pos) (tOp r ta tb) (aOp f a b) := ⟨pe_cmpR ho.o ha.p hb.p hm, si_op ho.s ha.s hb.s⟩
theorem xand (ha : XE X k x ta a) (hb : XE X k (.BoolOp .And (y :: es) pos) tb b) : XE X k (.BoolOp .And (x :: y :: es) pos) (tAndV ta tb) (aAndV a b) := ⟨pe_and ha.p hb.p, si_andV ha.s hb.s⟩
theorem xor (ha : XE X k x ta a) (hb : XE X k (.BoolOp .Or (y :: es) pos) tb b) : XE X k (.BoolOp .Or (x :: y :: es) pos) (tOrV ta tb) (aOrV a b) := ⟨pe_or ha.p hb.p, si_orV ha.s hb.s⟩
theorem xone {op} (ha : XE X k x ta a) : XE X k (.BoolOp op [x] pos) ta a := ⟨pe_one ha.p, ha.s⟩
theorem xnot (ha : XE X k x ta a) : XE X k (.UnaryOp .Not x pos) (tNotV ta) (aNotV a) := ⟨pe_not ha.p, si_notV ha.s⟩
theorem xif (hc : XT X k e tt q) (ha : XE X k x ta a) (hb : XE X k y tb b) : XE X k (.IfExp e x y pos) (tIf tt ta tb) (aIfE q a b) := ⟨pe_ifExp hc.p ha.p hb.p, si_ifE hc.s ha.s hb.s⟩
theorem xtup {x1} (h : XA X k es tr ar) : XE X k (.Tuple es x1 pos) (tTup tr) (aTup ar) := ⟨pe_tup h.p, si_tup h.s⟩
theorem olst (h : XA X k es tr ar) : XO X k (.List es pos) (tLst tr) (aLst ar) := ⟨pe_lst h.p, si_lst h.s⟩
theorem xfrz (h : XO X k e te ao) : XE X k e te (aFrz ao) := ⟨h.p, si_frz h.s⟩
theorem xix (ha : XE X k x ta a) (hb : XE X k y tb b) (hs : PlainIx y := by exact fun _ _ => rfl) (hK : X.K = k.K := by rfl) : XE X k (.Subscript x y pos) (tOp (rIx k.K) ta tb) (aOp fIx a b) := by
  obtain ⟨K0, c⟩ := k
  cases hK
  exact ⟨pe_ix ix_seq ha.p hb.p hs, si_op os_ix ha.s hb.s⟩
theorem xixM (j : Nat) {nm : Str} {p' : Pos} (hx : XE X k (.Name nm p') (tVar j) (aVar j)) (hb : XE X k y tb b) (hs : PlainIx y := by exact fun _ _ => rfl) (hK : X.K = k.K := by rfl) : XE X k (.Subscript (.Name nm p') y pos) (tOp (rIx k.K) (tVar j) tb) (aIxM j b) := by
  obtain ⟨K0, c⟩ := k
  cases hK
  exact ⟨pe_ix ix_seq hx.p hb.p hs, si_ixM hb.s⟩
theorem xsl {lo hi : Option Expr} {tl th : TO} {ap aq : APt} (ha : XE X k x ta a) (hl : XP X k lo tl ap) (hu : XP X k hi th aq) (hK : X.K = k.K := by rfl) : XE X k (.Subscript x (.Slice lo hi none p2) pos) (tSl (rSlX k.K) ta tl th) (aSl a ap aq) := by
  obtain ⟨K0, c⟩ := k
  cases hK
  exact ⟨pe_slice (sl_tupA.or sl_list) ha.p hl.p hu.p, si_sl ha.s hl.s hu.s⟩
theorem xrev {k' : Nat} {p1 p3 p4 : Pos} (ha : XE X k x ta a) (hK : X.K = k.K := by rfl) : XE X k (.Subscript x (.Slice none none (some (.UnaryOp .USub (.Constant (.int 1) k' p1) p3)) p4) pos) (tRevL k.K ta) (aUn fRev a) := by
  obtain ⟨K0, c⟩ := k
  cases hK
  exact ⟨pe_revL ha.p, si_rev ha.s⟩
theorem pnone : XP X k none tNoPart aNoP := ⟨po_none, si_noP⟩
theorem psome (ha : XE X k x ta a) : XP X k (some x) (tPart ta) (aPart a) := ⟨po_some ha.p, si_part ha.s⟩
theorem anil : XA X k [] tNil aNil := ⟨pa_nil, si_nil⟩
theorem acons (ha : XE X k x ta a) (hr : XA X k es tr ar) (hs : starEach (x :: es) X.env = (false, eval x X.env) :: starEach es X.env := by rfl) : XA X k (x :: es) (tCons ta tr) (aCons a ar) := ⟨pa_cons ha.p hr.p hs, si_cons ha.s hr.s⟩
/-- one's own list beside an operation -/
theorem xcmpL (j : Nat) {nm : Str} {p' : Pos} {op : CmpOp} {r : R2} {f : D → D → (D → Prop) → Prop} (ho : OpX X k (compareOp op) r f) (hx : XE X k (.Name nm p') (tVar j) (aVar j)) (hb : XE X k y tb b) (hm : behindInMarks op y = false := by first | exact nomark _ | rfl) :
    XE X k (.Compare (.Name nm p') [op] [y] pos) (tOp r (tVar j) tb) (aOpM f j b) := ⟨pe_cmpR ho.o hx.p hb.p hm, si_opM ho.s hb.s⟩
theorem xcmpR (j : Nat) {nm : Str} {p' : Pos} {op : CmpOp} {r : R2} {f : D → D → (D → Prop) → Prop} (ho : OpX X k (compareOp op) r f) (ha : XE X k x ta a) (hy : XE X k (.Name nm p') (tVar j) (aVar j)) (hm : behindInMarks op (.Name nm p') = false := by first | exact nomark _ | rfl) :
    XE X k (.Compare x [op] [.Name nm p'] pos) (tOp r ta (tVar j)) (aOpMR f a j) := ⟨pe_cmpR ho.o ha.p hy.p hm, si_opMR ho.s ha.s⟩

/-! ### tests -/
theorem tcmp {op : CmpOp} {r : R2} {f : D → D → (D → Prop) → Prop} (ho : OpX X k (compareOp op) r f) (ha : XE X k x ta a) (hb : XE X k y tb b) (hm : behindInMarks op y = false := by first | exact nomark _ | rfl) :
    XT X k (.Compare x [op] [y] pos) (tTest (tOp r ta tb)) (aB (aOp f a b)) := ⟨pt_cmpR ho.o ha.p hb.p hm, si_test (si_op ho.s ha.s hb.s)⟩
theorem tcmpL (j : Nat) {nm : Str} {p' : Pos} {op : CmpOp} {r : R2} {f : D → D → (D → Prop) → Prop} (ho : OpX X k (compareOp op) r f) (hx : XE X k (.Name nm p') (tVar j) (aVar j)) (hb : XE X k y tb b) (hm : behindInMarks op y = false := by first | exact nomark _ | rfl) :
    XT X k (.Compare (.Name nm p') [op] [y] pos) (tTest (tOp r (tVar j) tb)) (aB (aOpM f j b)) := ⟨pt_cmpR ho.o hx.p hb.p hm, si_test (si_opM ho.s hb.s)⟩
theorem tcmpR (j : Nat) {nm : Str} {p' : Pos} {op : CmpOp} {r : R2} {f : D → D → (D → Prop) → Prop} (ho : OpX X k (compareOp op) r f) (ha : XE X k x ta a) (hy : XE X k (.Name nm p') (tVar j) (aVar j)) (hm : behindInMarks op (.Name nm p') = false := by first | exact nomark _ | rfl) :
    XT X k (.Compare x [op] [.Name nm p'] pos) (tTest (tOp r ta (tVar j))) (aB (aOpMR f a j)) := ⟨pt_cmpR ho.o ha.p hy.p hm, si_test (si_opMR ho.s ha.s)⟩
theorem tval (ha : XE X k x ta a) (he : ∀ whole, isTrue x X.env whole = (do let v ← whole; standAt x.pos; holding [v] (truthy v)) := by intro _; rfl) : XT X k x (tB ta) (aB a) := ⟨pt_val ha.p he, si_B ha.s⟩
theorem tnot (ha : XT X k x tt q) : XT X k (.UnaryOp .Not x pos) (tNot tt) (aNot q) := ⟨pt_not ha.p, si_not ha.s⟩
theorem tw (ha : XW X k x tt q) : XT X k x tt q := ⟨ha.p.pt, ha.s⟩
theorem wand1 (ha : XT X k x tt q) : XW X k (.BoolOp .And [x] pos) tt q := ⟨pw_and1 ha.p, ha.s⟩
theorem wor1 (ha : XT X k x tt q) : XW X k (.BoolOp .Or [x] pos) tt q := ⟨pw_or1 ha.p, ha.s⟩
theorem wand (ha : XT X k x tt q) (hb : XW X k (.BoolOp .And (y :: es) pos) tu q2) : XW X k (.BoolOp .And (x :: y :: es) pos) (tAnd tt tu) (aAnd q q2) := ⟨pw_and ha.p hb.p, si_and ha.s hb.s⟩
theorem wor (ha : XT X k x tt q) (hb : XW X k (.BoolOp .Or (y :: es) pos) tu q2) : XW X k (.BoolOp .Or (x :: y :: es) pos) (tOr tt tu) (aOr q q2) := ⟨pw_or ha.p hb.p, si_or ha.s hb.s⟩
end

/-! ### chains -/
def aChain (f g : D → D → (D → Prop) → Prop) (a b d : AE) : AE := fun δ A => a δ fun x δ1 => b δ1 fun y δ2 => f x y fun z => isB z fun c => if c = true then d δ2 fun u δ3 => g y u fun z => A z δ3 else A (.bl false) δ2
def aChain3 (f g h : D → D → (D → Prop) → Prop) (a b d e : AE) : AE := fun δ A => a δ fun x δ1 => b δ1 fun y δ2 => f x y fun z => isB z fun c => if c = true then d δ2 fun u δ3 => g y u fun z => isB z fun c => if c = true then
  e δ3 fun v δ4 => h u v fun z => A z δ4 else A (.bl false) δ3 else A (.bl false) δ2
def tChain3 (r r' r'' : R2) (ta tb tc td : TE) : TE := fun σ H Q => ta σ H fun x H1 => tb σ H1 fun y H2 => r x y H2 fun z H3 => ∃ k, z = .bl k ∧
  (if k = true then tc σ H3 fun u H4 => r' y u H4 fun z' H5 => ∃ k', z' = .bl k' ∧ (if k' = true then td σ H5 fun v H6 => r'' u v H6 Q else Q (.bl false) H5) else Q (.bl false) H3)
section
variable {X : Cx} {k : Kx} {x y z u : Expr} {ta tb tc td : TE} {a b d e : AE} {pos : Pos}
theorem pt_chain3 {op op' op'' : CmpOp} {r r' r'' : R2} (ho : OpR X (compareOp op) r) (ho' : OpR X (compareOp op') r') (ho'' : OpR X (compareOp op'') r'') (ha : PE X x ta) (hb : PE X y tb) (hc : PE X z tc) (hd : PE X u td)
    (hm : lastMarks [op, op', op''] [y, z, u] = false := by with_unfolding_all rfl) : PT X (.Compare x [op, op', op''] [y, z, u] pos) (tTest (tChain3 r r' r'' ta tb tc td)) := by
  refine ⟨fun pins s σ H Q I h => ?_⟩
  refine isTrue_chain (thn (ha.run pins s σ H _ I h) fun v s1 ⟨x, H1, I1, r1, q1⟩ => test_link (thn (hb.run pins s1 σ H1 _ I1 q1) fun u s2 ⟨y, H2, I2, r2, q2⟩ =>
    thn (ho pins s2 σ H2 x y v u _ I2 r1 r2 q2) fun d s3 ⟨z, H3, I3, r3, k, e, q3⟩ => ?_)) hm
  subst e
  cases r3
  refine wpAny_truthy_bool ?_
  cases k with
  | false =>
    obtain ⟨k', e', q'⟩ := q3
    cases e'
    exact ite_ff ⟨H3, I3, q'⟩
  | true =>
    refine ite_tt (test_link (thn (hc.run pins s3 σ H3 _ I3 q3) fun w' s4 ⟨z', H4, I4, r4, q4⟩ => thn (ho' pins s4 σ H4 y z' u w' _ I4 r2 r4 q4) fun d' s5 ⟨z2, H5, I5, r5, k2, e2, q5⟩ => ?_))
    subst e2
    cases r5
    refine wpAny_truthy_bool ?_
    cases k2 with
    | false =>
      obtain ⟨k', e', q'⟩ := q5
      cases e'
      exact ite_ff ⟨H5, I5, q'⟩
    | true =>
      refine ite_tt (test_last (thn (hd.run pins s5 σ H5 _ I5 q5) fun w2 s6 ⟨z3, H6, I6, r6, q6⟩ => thn (ho'' pins s6 σ H6 z' z3 w' w2 _ I6 r4 r6 q6) fun d2 s7 ⟨z4, H7, I7, r7, k3, e3, q7⟩ => ?_))
      subst e3
      cases r7
      exact wpAny_truthy_bool ⟨H7, I7, q7⟩
theorem si_chain {k : Kx} {r r' : R2} {f g : D → D → (D → Prop) → Prop} (h1 : OpS k r f) (h2 : OpS k r' g) (ha : SimE k ta a) (hb : SimE k tb b) (hd : SimE k tc d) : SimE k (tChain r r' ta tb tc) (aChain f g a b d) := fun G M σ H δ A Q s h q =>
  ha G M σ H δ _ _ s h fun x dx G1 M1 H1 δ1 s1 t1 r1 k1 => hb G1 M1 σ H1 δ1 _ _ s1 k1 fun y dy G2 M2 H2 δ2 s2 t2 r2 k2 => h1 G2 H2 x y dx dy _ _ s2.ex (r1.mono t2.exG) r2 k2 fun v z G3 H3 g3 rz hz => by
    obtain ⟨c, rfl, hzz⟩ := isB_elim hz
    refine ⟨c, rz.bl_eq, ?_⟩
    have s3 := s2.grow g3
    have t3 := (t1.trans t2).trans (Grow.tr g3 (M := M2))
    cases c with
    | false =>
      rw [if_neg Bool.false_ne_true] at hzz ⊢
      exact q _ _ G3 M2 H3 δ2 s3 t3 (.bl false) hzz
    | true =>
      rw [if_pos rfl] at hzz ⊢
      refine hd G3 M2 σ H3 δ2 _ _ s3 hzz fun w dw G4 M4 H4 δ4 s4 t4 r4 k4 => h2 G4 H4 y w dy dw _ _ s4.ex (r2.mono (g3.g.trans t4.exG)) r4 k4 fun v' z' G5 H5 g5 rz' hz' => ?_
      exact q _ _ G5 M4 H5 δ4 (s4.grow g5) ((t3.trans t4).trans g5.tr) rz' hz'
theorem si_chain3 {k : Kx} {r r' r'' : R2} {f g h : D → D → (D → Prop) → Prop} (h1 : OpS k r f) (h2 : OpS k r' g) (h3 : OpS k r'' h) (ha : SimE k ta a) (hb : SimE k tb b) (hd : SimE k tc d) (he : SimE k td e) :
    SimE k (tChain3 r r' r'' ta tb tc td) (aChain3 f g h a b d e) := fun G M σ H δ A Q s hh q =>
  ha G M σ H δ _ _ s hh fun x dx G1 M1 H1 δ1 s1 t1 r1 k1 => hb G1 M1 σ H1 δ1 _ _ s1 k1 fun y dy G2 M2 H2 δ2 s2 t2 r2 k2 => h1 G2 H2 x y dx dy _ _ s2.ex (r1.mono t2.exG) r2 k2 fun v z G3 H3 g3 rz hz => by
    obtain ⟨c, rfl, hzz⟩ := isB_elim hz
    refine ⟨c, rz.bl_eq, ?_⟩
    have s3 := s2.grow g3
    have t3 := (t1.trans t2).trans (Grow.tr g3 (M := M2))
    cases c with
    | false =>
      rw [if_neg Bool.false_ne_true] at hzz ⊢
      exact q _ _ G3 M2 H3 δ2 s3 t3 (.bl false) hzz
    | true =>
      rw [if_pos rfl] at hzz ⊢
      refine hd G3 M2 σ H3 δ2 _ _ s3 hzz fun w dw G4 M4 H4 δ4 s4 t4 r4 k4 => h2 G4 H4 y w dy dw _ _ s4.ex (r2.mono (g3.g.trans t4.exG)) r4 k4 fun v' z' G5 H5 g5 rz' hz' => ?_
      obtain ⟨c2, rfl, hz2⟩ := isB_elim hz'
      refine ⟨c2, rz'.bl_eq, ?_⟩
      have s5 := s4.grow g5
      have t5 := (t3.trans t4).trans (Grow.tr g5 (M := M4))
      cases c2 with
      | false =>
        rw [if_neg Bool.false_ne_true] at hz2 ⊢
        exact q _ _ G5 M4 H5 δ4 s5 t5 (.bl false) hz2
      | true =>
        rw [if_pos rfl] at hz2 ⊢
        refine he G5 M4 σ H5 δ4 _ _ s5 hz2 fun w2 dw2 G6 M6 H6 δ6 s6 t6 r6 k6 => h3 G6 H6 w w2 dw dw2 _ _ s6.ex (r4.mono (g5.g.trans t6.exG)) r6 k6 fun v'' z'' G7 H7 g7 rz'' hz'' => ?_
        exact q _ _ G7 M6 H7 δ6 (s6.grow g7) ((t5.trans t6).trans g7.tr) rz'' hz''
theorem xchain {op op' : CmpOp} {r r' : R2} {f g : D → D → (D → Prop) → Prop} (ho : OpX X k (compareOp op) r f) (ho' : OpX X k (compareOp op') r' g) (ha : XE X k x ta a) (hb : XE X k y tb b) (hd : XE X k z tc d)
    (hm : lastMarks [op, op'] [y, z] = false := by with_unfolding_all rfl) : XE X k (.Compare x [op, op'] [y, z] pos) (tChain r r' ta tb tc) (aChain f g a b d) := ⟨pe_chain ho.o ho'.o ha.p hb.p hd.p hm, si_chain ho.s ho'.s ha.s hb.s hd.s⟩
theorem tchain3 {op op' op'' : CmpOp} {r r' r'' : R2} {f g h : D → D → (D → Prop) → Prop} (ho : OpX X k (compareOp op) r f) (ho' : OpX X k (compareOp op') r' g) (ho'' : OpX X k (compareOp op'') r'' h) (ha : XE X k x ta a) (hb : XE X k y tb b) (hd : XE X k z tc d) (he : XE X k u td e)
    (hm : lastMarks [op, op', op''] [y, z, u] = false := by with_unfolding_all rfl) : XT X k (.Compare x [op, op', op''] [y, z, u] pos) (tTest (tChain3 r r' r'' ta tb tc td)) (aB (aChain3 f g h a b d e)) :=
  ⟨pt_chain3 ho.o ho'.o ho''.o ha.p hb.p hd.p he.p hm, si_test (si_chain3 ho.s ho'.s ho''.s ha.s hb.s hd.s he.s)⟩
end

/-! ### calls -/
section
variable {X : Cx} {k : Kx} {e : Expr} {es : List Expr} {te ta tb : TE} {a b : AE} {ao : AO} {pos p p2 apos : Pos} {tr : TA} {ar : AA} {x y : Expr} {lv : Nat} {nm : Str} {ps : List Str}
theorem xlen (B : Bi X.mg) (ha : XA X k [x] tr ar) (hg : Gl X "len" := by rfl) (he : starEach [x] X.env = (false, eval x X.env) :: starEach [] X.env := by rfl) (hK : X.K = k.K := by rfl) : XE X k (.Call (.Name "len" p) [x] [] pos) (tCB (rLenX k.K) tr) (aCB fLen ar) := by
  obtain ⟨K0, c⟩ := k
  cases hK
  exact ⟨pe_callB call_len_seq hg B.len PySem.boot_len ha.p (he := he), si_cb cs_len ha.s⟩
theorem xlenM (B : Bi X.mg) (j : Nat) {nm : Str} {p' : Pos} (hx : XE X k (.Name nm p') (tVar j) (aVar j)) (hg : Gl X "len" := by rfl) (hK : X.K = k.K := by rfl) : XE X k (.Call (.Name "len" p) [.Name nm p'] [] pos) (tCB (rLenX k.K) (tCons (tVar j) tNil)) (aLenM j) := by
  obtain ⟨K0, c⟩ := k
  cases hK
  exact ⟨pe_callB call_len_seq hg B.len PySem.boot_len (pa_cons hx.p pa_nil), si_lenM⟩
theorem xint (B : Bi X.mg) (ha : XA X k [x] tr ar) (hg : Gl X "int" := by rfl) (he : starEach [x] X.env = (false, eval x X.env) :: starEach [] X.env := by rfl) : XE X k (.Call (.Name "int" p) [x] [] pos) (tCB rIntX tr) (aCB fInt ar) :=
  ⟨pe_callTy call_int1 hg B.int (by decide +kernel) ha.p (he := he), si_cb cs_int ha.s⟩
theorem xtuple (B : Bi X.mg) (ha : XA X k [x] tr ar) (hg : Gl X "tuple" := by rfl) (he : starEach [x] X.env = (false, eval x X.env) :: starEach [] X.env := by rfl) (hK : X.K = k.K := by rfl) : XE X k (.Call (.Name "tuple" p) [x] [] pos) (tCB (rTupX k.K) tr) (aCB fTup ar) := by
  obtain ⟨K0, c⟩ := k
  cases hK
  exact ⟨pe_callTy call_tuple_of hg B.tuple (by decide +kernel) ha.p (he := he), si_cb cs_tup ha.s⟩
theorem olist (B : Bi X.mg) (ha : XA X k [x] tr ar) (hg : Gl X "list" := by rfl) (he : starEach [x] X.env = (false, eval x X.env) :: starEach [] X.env := by rfl) (hK : X.K = k.K := by rfl) : XO X k (.Call (.Name "list" p) [x] [] pos) (tCB (rListX k.K) tr) (aListOf ar) := by
  obtain ⟨K0, c⟩ := k
  cases hK
  exact ⟨pe_callTy call_list_of hg B.list (by decide +kernel) ha.p (he := he), so_listOf ha.s⟩
theorem olistRg (B : Bi X.mg) (ha : XE X k x ta a) (hc : X.calm = true := by rfl) (hg : Gl X "list" := by rfl) (hg2 : Gl X "range" := by rfl) (na : starEach [x] X.env = (false, eval x X.env) :: starEach [] X.env := by rfl)
    (na2 : starEach [.Call (.Name "range" p2) [x] [] apos] X.env = (false, eval (.Call (.Name "range" p2) [x] [] apos) X.env) :: starEach [] X.env := by rfl) :
    XO X k (.Call (.Name "list" p) [.Call (.Name "range" p2) [x] [] apos] [] pos) (tLstRg (tRg1 ta)) (aListRg a) := ⟨pe_listRg hc hg B.list (prg_1 hg2 B.range ha.p na) na2, so_listRg ha.s⟩
theorem xmax (B : Bi X.mg) (ha : XA X k [x, y] tr ar) (hc : X.calm = true := by rfl) (hg : Gl X "max" := by rfl) (he : starEach [x, y] X.env = (false, eval x X.env) :: starEach [y] X.env := by rfl) (hpl : (backTo pos (starEach [y] X.env)).any (·.1) = false := by rfl) :
    XE X k (.Call (.Name "max" p) [x, y] [] pos) (tCB rMaxX tr) (aCB fMax ar) := ⟨pe_callB (call_max2 hc) hg B.max (by decide +kernel) ha.p (he := he) (hpl := hpl), si_cb cs_max ha.s⟩
theorem xmin (B : Bi X.mg) (ha : XA X k [x, y] tr ar) (hc : X.calm = true := by rfl) (hg : Gl X "min" := by rfl) (he : starEach [x, y] X.env = (false, eval x X.env) :: starEach [y] X.env := by rfl) (hpl : (backTo pos (starEach [y] X.env)).any (·.1) = false := by rfl) :
    XE X k (.Call (.Name "min" p) [x, y] [] pos) (tCB rMinX tr) (aCB fMin ar) := ⟨pe_callB (call_min2 hc) hg B.min (by decide +kernel) ha.p (he := he) (hpl := hpl), si_cb cs_min ha.s⟩
theorem xisi (T : Ty) {tn : Str} (B : Bi X.mg) (ha : XE X k x ta a) (hm : X.mg tn = none) (hv : bootBuiltins tn = some (.type T.nm)) (hn : tn ≠ "__name__" := by decide) (hd : (tn == ("__debug__" : Str)) = false := by decide) (hg : Gl X "isinstance" := by rfl) (hg2 : Gl X tn := by rfl)
    (he : starEach [x, .Name tn p2] X.env = (false, eval x X.env) :: starEach [.Name tn p2] X.env := by rfl) (he2 : starEach [.Name tn p2] X.env = (false, eval (.Name tn p2) X.env) :: starEach [] X.env := by rfl) (hpl : (backTo pos (starEach [.Name tn p2] X.env)).any (·.1) = false := by rfl) (hK : X.K = k.K := by rfl) :
    XE X k (.Call (.Name "isinstance" p) [x, .Name tn p2] [] pos) (tCB (rIsi k.K) (tCons ta (tCons (tC (.ty T.nm)) tNil))) (aIsi T a) := by
  obtain ⟨K0, c⟩ := k
  cases hK
  exact ⟨pe_callB call_isi hg B.isinstance (by decide +kernel) (pa_cons ha.p (pa_cons (pe_bltn hg2 hm hv rfl hn hd) pa_nil he2) he) (he := he) (hpl := hpl), si_isi ha.s⟩
theorem xisRule (B : Bi X.mg) (F : ClF X.K k.c.CR "terms") (ha : XE X k x ta a) (hm : X.mg "Rule" = some (.ref k.c.CR)) (hg : Gl X "isinstance" := by rfl) (hg2 : Gl X "Rule" := by rfl)
    (he : starEach [x, .Name "Rule" p2] X.env = (false, eval x X.env) :: starEach [.Name "Rule" p2] X.env := by rfl) (hK : X.K = k.K := by rfl) :
    XE X k (.Call (.Name "isinstance" p) [x, .Name "Rule" p2] [] pos) (tCB (rIsi k.K) (tCons ta (tCons (tC (.ref k.c.CR)) tNil))) (aIsRule a) := by
  obtain ⟨K0, c⟩ := k
  cases hK
  exact ⟨pe_callB call_isi hg B.isinstance (by decide +kernel) (pa_cons ha.p (pa_cons (pe_glob hg2 hm rfl) pa_nil) he) (he := he), si_isRule F ha.s⟩
theorem xisCut (B : Bi X.mg) (F : ClF X.K k.c.CS "rows") (ha : XE X k x ta a) (hm : X.mg "ShelfCut" = some (.ref k.c.CS)) (hg : Gl X "isinstance" := by rfl) (hg2 : Gl X "ShelfCut" := by rfl)
    (he : starEach [x, .Name "ShelfCut" p2] X.env = (false, eval x X.env) :: starEach [.Name "ShelfCut" p2] X.env := by rfl) (hK : X.K = k.K := by rfl) :
    XE X k (.Call (.Name "isinstance" p) [x, .Name "ShelfCut" p2] [] pos) (tCB (rIsi k.K) (tCons ta (tCons (tC (.ref k.c.CS)) tNil))) (aIsCut a) := by
  obtain ⟨K0, c⟩ := k
  cases hK
  exact ⟨pe_callB call_isi hg B.isinstance (by decide +kernel) (pa_cons ha.p (pa_cons (pe_glob hg2 hm rfl) pa_nil) he) (he := he), si_isCut F ha.s⟩
theorem xterms (F : ClF X.K k.c.CR "terms") (ha : XE X k x ta a) (hb : attributeBase x "terms" X.env (eval x X.env) = eval x X.env := by rfl) (hK : X.K = k.K := by rfl) : XE X k (.Attribute x "terms" pos) (tFld k.K ta "terms") (aUn fTerms a) := by
  obtain ⟨K0, c⟩ := k
  cases hK
  exact ⟨pe_fld ha.p hb, si_terms F ha.s⟩
theorem xrows (F : ClF X.K k.c.CS "rows") (ha : XE X k x ta a) (hb : attributeBase x "rows" X.env (eval x X.env) = eval x X.env := by rfl) (hK : X.K = k.K := by rfl) : XE X k (.Attribute x "rows" pos) (tFld k.K ta "rows") (aUn fRows a) := by
  obtain ⟨K0, c⟩ := k
  cases hK
  exact ⟨pe_fld ha.p hb, si_rows F ha.s⟩
theorem xcall {fs : List D → (D → Prop) → Prop} (F : Df X.prog X.w X.K X.mg X.base nm lv ps (spD k fs)) (hr : Room lv X.A) (ha : XA X k (e :: es) tr ar) (hg : Gl X nm := by rfl) (hdb : (nm == ("__debug__" : Str)) = false := by decide)
    (he : starEach (e :: es) X.env = (false, eval e X.env) :: starEach es X.env := by rfl) (hpl : (backTo pos (starEach es X.env)).any (·.1) = false := by rfl) (hK : X.K = k.K := by rfl) : XE X k (.Call (.Name nm p) (e :: es) [] pos) (tCall (spD k fs) [] E0 tr) (aCall fs ar) := by
  obtain ⟨K0, c⟩ := k
  cases hK
  obtain ⟨f, fd, G, hm, hk, hb⟩ := F.ex
  exact ⟨pe_call G hr hg hm hk hb .nil pass0 ha.p hdb he hpl, si_call ha.s⟩
theorem ocall {fs : List D → (List D → Prop) → Prop} (F : Df X.prog X.w X.K X.mg X.base nm lv ps (spO k fs)) (hr : Room lv X.A) (ha : XA X k (e :: es) tr ar) (hg : Gl X nm := by rfl) (hdb : (nm == ("__debug__" : Str)) = false := by decide)
    (he : starEach (e :: es) X.env = (false, eval e X.env) :: starEach es X.env := by rfl) (hpl : (backTo pos (starEach es X.env)).any (·.1) = false := by rfl) (hK : X.K = k.K := by rfl) : XO X k (.Call (.Name nm p) (e :: es) [] pos) (tCall (spO k fs) [] E0 tr) (aCallO fs ar) := by
  obtain ⟨K0, c⟩ := k
  cases hK
  obtain ⟨f, fd, G, hm, hk, hb⟩ := F.ex
  exact ⟨pe_call G hr hg hm hk hb .nil pass0 ha.p hdb he hpl, so_call ha.s⟩
theorem xcallB (j : Nat) {n2 : Str} {fs : List D → List D → (D → List D → Prop) → Prop} (F : Df X.prog X.w X.K X.mg X.base nm lv ps (spB k fs)) (hr : Room lv X.A) (hx : XE X k (.Name n2 p2) (tVar j) (aVar j)) (ha : XA X k es tr ar) (hg : Gl X nm := by rfl) (hdb : (nm == ("__debug__" : Str)) = false := by decide)
    (he : starEach (.Name n2 p2 :: es) X.env = (false, eval (.Name n2 p2) X.env) :: starEach es X.env := by rfl) (hpl : (backTo pos (starEach es X.env)).any (·.1) = false := by rfl) (hK : X.K = k.K := by rfl) : XE X k (.Call (.Name nm p) (.Name n2 p2 :: es) [] pos) (tCall (spB k fs) [] E0 (tCons (tVar j) tr)) (aCallB fs j ar) := by
  obtain ⟨K0, c⟩ := k
  cases hK
  obtain ⟨f, fd, G, hm, hk, hb⟩ := F.ex
  exact ⟨pe_call G hr hg hm hk hb .nil pass0 (pa_cons hx.p ha.p he) hdb he hpl, si_callB ha.s⟩
theorem xcallT {fs : List D → List D → (D → List D → Prop) → Prop} (F : Df X.prog X.w X.K X.mg X.base nm lv ps (spB k fs)) (hr : Room lv X.A) (ho : XO X k e te ao) (ha : XA X k es tr ar) (hg : Gl X nm := by rfl) (hdb : (nm == ("__debug__" : Str)) = false := by decide)
    (he : starEach (e :: es) X.env = (false, eval e X.env) :: starEach es X.env := by rfl) (hpl : (backTo pos (starEach es X.env)).any (·.1) = false := by rfl) (hK : X.K = k.K := by rfl) : XE X k (.Call (.Name nm p) (e :: es) [] pos) (tCall (spB k fs) [] E0 (tCons te tr)) (aCallT fs ao ar) := by
  obtain ⟨K0, c⟩ := k
  cases hK
  obtain ⟨f, fd, G, hm, hk, hb⟩ := F.ex
  exact ⟨pe_call G hr hg hm hk hb .nil pass0 (pa_cons ho.p ha.p he) hdb he hpl, si_callT ho.s ha.s⟩
theorem xmkRule {fs : List D → (D → Prop) → Prop} (F : Dm X.prog X.w X.K X.mg X.base nm k.c.CR lv ps (spN k k.c.CR "terms" fs)) (hr : Room (lv + 1) X.A) (ha : XA X k (e :: es) tr ar) (hg : Gl X nm := by rfl) (hdb : (nm == ("__debug__" : Str)) = false := by decide)
    (he : starEach (e :: es) X.env = (false, eval e X.env) :: starEach es X.env := by rfl) (hpl : (backTo pos (starEach es X.env)).any (·.1) = false := by rfl) (hK : X.K = k.K := by rfl) : XE X k (.Call (.Name nm p) (e :: es) [] pos) (tMake k.c.CR (spN k k.c.CR "terms" fs) [] E0 tr) (aCall (fun ds A => fs ds fun z => A (.rule z)) ar) := by
  obtain ⟨K0, c⟩ := k
  cases hK
  obtain ⟨f, fd, G, hm, hk, hb⟩ := F.ex
  exact ⟨pe_make hk G hr hg hm hb .nil pass0 ha.p hdb he hpl, si_mkRule  ha.s⟩
theorem xmkCut (F : Dm X.prog X.w X.K X.mg X.base nm k.c.CS lv ps (spCut k)) (hr : Room (lv + 1) X.A) (ha : XA X k (e :: es) tr ar) (hg : Gl X nm := by rfl) (hdb : (nm == ("__debug__" : Str)) = false := by decide)
    (he : starEach (e :: es) X.env = (false, eval e X.env) :: starEach es X.env := by rfl) (hpl : (backTo pos (starEach es X.env)).any (·.1) = false := by rfl) (hK : X.K = k.K := by rfl) : XE X k (.Call (.Name nm p) (e :: es) [] pos) (tMake k.c.CS (spCut k) [] E0 tr) (aCall fCut ar) := by
  obtain ⟨K0, c⟩ := k
  cases hK
  obtain ⟨f, fd, G, hm, hk, hb⟩ := F.ex
  exact ⟨pe_make hk G hr hg hm hb .nil pass0 ha.p hdb he hpl, si_mkCut  ha.s⟩
theorem xmkCutM (j : Nat) {n2 : Str} (F : Dm X.prog X.w X.K X.mg X.base nm k.c.CS lv ps (spCut k)) (hr : Room (lv + 1) X.A) (hx : XE X k (.Name n2 p2) (tVar j) (aVar j)) (hg : Gl X nm := by rfl) (hdb : (nm == ("__debug__" : Str)) = false := by decide) (hK : X.K = k.K := by rfl) :
    XE X k (.Call (.Name nm p) [.Name n2 p2] [] pos) (tMake k.c.CS (spCut k) [] E0 (tCons (tVar j) tNil)) (aCutM j) := by
  obtain ⟨K0, c⟩ := k
  cases hK
  obtain ⟨f, fd, G, hm, hk, hb⟩ := F.ex
  exact ⟨pe_make hk G hr hg hm hb .nil pass0 (pa_cons hx.p pa_nil) hdb, si_mkCutM ⟩
theorem omove (j : Nat) {n2 : Str} (hx : XE X k (.Name n2 p2) (tVar j) (aVar j)) : XO X k (.Name n2 p2) (tVar j) (aMove j) := ⟨hx.p, si_move⟩
/-- x.pop(i) -/
theorem xpop (j : Nat) {n2 : Str} (hx : XE X k (.Name n2 p2) (tVar j) (aVar j)) (hb : XE X k y tb b) (hbase : attributeBase (.Name n2 p2) "pop" X.env (eval (.Name n2 p2) X.env) = eval (.Name n2 p2) X.env := by rfl)
    (hfew : ((backTo pos (starEach [y] X.env)).all (fun x => !x.1) && (backToKw pos (keywordEach [] X.env)).all (fun x => x.1.isSome)
      && decide ([y].length + ([] : List Keyword).length + (if ([] : List Keyword).isEmpty then 0 else 1) < 30)) = true := by rfl)
    (hline : (apos.endLine == pos.line) = true := by rfl) (hs : starEach [y] X.env = (false, eval y X.env) :: starEach [] X.env := by rfl) (hK : X.K = k.K := by rfl) :
    XE X k (.Call (.Attribute (.Name n2 p2) "pop" apos) [y] [] pos) (tBM k.K "list" rPopAt (tVar j) (tCons tb tNil)) (aPopM j b) := by
  obtain ⟨K0, c⟩ := k
  cases hK
  exact ⟨pe_bm PySem.F.plainAttrs_list PySem.F.slot_list_pop PySem.F.type_list_pop mt_popAt hx.p (pa_cons hb.p pa_nil hs) hbase hfew hline hs, si_popM hb.s⟩
end

/-! ### targets, iterators, comprehensions -/
section
variable {X : Cx} {k : Kx} {tg e : Expr} {es : List Expr} {te ta tb : TE} {a b : AE} {ao : AO} {pos p p2 apos : Pos} {tr : TA} {ar : AA} {x y : Expr} {lv : Nat} {nm : Str}
theorem gn (i : Nat) {nm : Str} (hN : X.N.Nodup) (hi : X.N[i]? = some nm := by rfl) (hx : Loc X.env.scope nm := by first | exact Or.inl rfl | exact Or.inr rfl) (hf : X.fn nm = true ∨ X.env.scope.names.lookup nm = some .local := by first | exact .inl rfl | exact .inr rfl) : XG X k (.Name nm pos) (gName i) (agName i) [i] :=
  ⟨pg_name hN hi hx hf, sg_name⟩
theorem gt (is : List Nat) {kk n : Nat} (h : PGs X es (gNs is)) (hc : X.calm = true := by rfl) (hn : (assignEach es X.env).length = n := by rfl) (hst : (assignEach es X.env).findIdx? (·.1) = none := by rfl) (hl : n = is.length := by rfl) (hK : X.K = k.K := by rfl) : XG X k (.Tuple es kk pos) (gTup k.K n (gNs is)) (agTup is) is := by
  obtain ⟨K0, c⟩ := k
  cases hK
  exact ⟨pg_tup hc h hn hst, sg_tup hl⟩
theorem gsn : PGs X [] (gNs []) := pgs_nil
theorem gnp (i : Nat) {nm : Str} (hN : X.N.Nodup) (hi : X.N[i]? = some nm := by rfl) (hx : Loc X.env.scope nm := by first | exact Or.inl rfl | exact Or.inr rfl) (hf : X.fn nm = true ∨ X.env.scope.names.lookup nm = some .local := by first | exact .inl rfl | exact .inr rfl) : PG X (.Name nm pos) (gName i) := pg_name hN hi hx hf
theorem gsc (i : Nat) {is : List Nat} (h1 : PG X e (gName i)) (h2 : PGs X es (gNs is)) (hs : (assignEach (e :: es) X.env).map (·.2) = assign e X.env :: (assignEach es X.env).map (·.2) := by rfl) : PGs X (e :: es) (gNs (i :: is)) := pgs_cons h1 h2 hs
theorem iseq (h : XE X k e te a) (hK : X.K = k.K := by rfl) : XI X k tg e (iSeq k.K te) (aiSeq a) := by
  obtain ⟨K0, c⟩ := k
  cases hK
  exact ⟨pi_seq h.p, sit_seq h.s⟩
theorem ir1 (B : Bi X.mg) (h : XA X k [x] tr ar) (hg : Gl X "range" := by rfl) (hs : starEach [x] X.env = [(false, eval x X.env)] := by rfl) : XI X k tg (.Call (.Name "range" p) [x] [] pos) (iRng1 tr) (aiR1 ar) := ⟨pi_range1 hg B.range h.p hs, sit_r1 h.s⟩
theorem ir2 (B : Bi X.mg) (h : XA X k [x, y] tr ar) (hg : Gl X "range" := by rfl) (hs : starEach [x, y] X.env = [(false, eval x X.env), (false, eval y X.env)] := by rfl) (hs2 : starEach [y] X.env = [(false, eval y X.env)] := by rfl) :
    XI X k tg (.Call (.Name "range" p) [x, y] [] pos) (iRng2 tr) (aiR2 ar) := ⟨pi_range2 hg B.range h.p hs hs2, sit_r2 h.s⟩
theorem ienum {elts : List Expr} {kk : Nat} {tpos : Pos} (B : Bi X.mg) (h : XA X k [x] tr ar) (hg : Gl X "enumerate" := by rfl) (hs : starEach [x] X.env = [(false, eval x X.env)] := by rfl) (hK : X.K = k.K := by rfl) : XI X k (.Tuple elts kk tpos) (.Call (.Name "enumerate" p) [x] [] pos) (iEnumT k.K tr) (aiEnum ar) := by
  obtain ⟨K0, c⟩ := k
  cases hK
  exact ⟨pi_enumT hg B.enumerate h.p hs, sit_enum h.s⟩
theorem tsnil : XTs X k [] tYes aYes := ⟨pts_nil, st_yes⟩
theorem tsone {tt : TT} {q : AT} (h : XT X k x tt q) : XTs X k [x] tt q := ⟨pts_one h.p, h.s⟩
/-- in a comprehension's block, for every frame of it -/
abbrev Blk (X : Cx) (scope : Scope) (R : Cx → Prop) : Prop := ∀ (s : Shared) (H : Hp) (C : Addr) (cl : List (Str × Addr)) (fp : List Addr), R (X.blk s H scope (compEnvC scope cl C X.env) fp)
theorem Blk.one {scope : Scope} {R : Cx → Prop} (h : Blk X scope R) : R (X.blk {} (fun _ => none) scope (compEnvC scope [] 0 X.env) []) := h {} (fun _ => none) 0 [] []
theorem olc {own : List (Str × Nat)} {vs : List Nat} {elt iter : Expr} {ifs : List Expr} {scope : Scope} {wi : TI} {ai : AI} {g : TG} {ag : AG} {ws : List Nat} {tt : TT} {q : AT} (hN : X.N.Nodup) (hi : XI X k tg iter wi ai) (hg : ∀ (s : Shared) (H : Hp) (C : Addr) (cl : List (Str × Addr)) (fp : List Addr), XG (X.blk s H scope (compEnvC scope cl C X.env) fp) k tg g ag ws)
    (ht : ∀ (s : Shared) (H : Hp) (C : Addr) (cl : List (Str × Addr)) (fp : List Addr), XTs (X.blk s H scope (compEnvC scope cl C X.env) fp) k ifs tt q) (he : ∀ (s : Shared) (H : Hp) (C : Addr) (cl : List (Str × Addr)) (fp : List Addr), XE (X.blk s H scope (compEnvC scope cl C X.env) fp) k elt te a) (ok : BlkOk X.N X.env.scope scope own) (hw : ∀ i ∈ ws, i ∈ vs) (hvs : own.map (·.2) = vs) (hc : X.calm = true) (hs : ∀ x, foldedSetIterable iter X.env x = pure x) :
    XO X k (.ListComp elt [⟨tg, iter, ifs, 0⟩] scope pos) (tLc wi g tt te vs) (aLc ai ag q a vs) := by
  subst hvs
  exact ⟨pe_lc hc hN hi.p ok (fun s H C cl fp => (hg s H C cl fp).p) (fun s H C cl fp => (ht s H C cl fp).p) (fun s H C cl fp => (he s H C cl fp).p) hs, so_lc hi.s (hg {} (fun _ => none) 0 [] []).s hw (ht {} (fun _ => none) 0 [] []).s (he {} (fun _ => none) 0 [] []).s⟩
theorem olc2 {own : List (Str × Nat)} {vs : List Nat} {vs1 : List Nat} {elt iter iter1 tg1 : Expr} {ifs ifs1 : List Expr} {scope : Scope} {wi wi1 : TI} {ai ai1 : AI} {g g1 : TG} {ag ag1 : AG} {ws ws1 : List Nat} {tt tt1 : TT} {q q1 : AT} (hN : X.N.Nodup) (hi : XI X k tg iter wi ai) (hg : ∀ (s : Shared) (H : Hp) (C : Addr) (cl : List (Str × Addr)) (fp : List Addr), XG (X.blk s H scope (compEnvC scope cl C X.env) fp) k tg g ag ws)
    (ht : ∀ (s : Shared) (H : Hp) (C : Addr) (cl : List (Str × Addr)) (fp : List Addr), XTs (X.blk s H scope (compEnvC scope cl C X.env) fp) k ifs tt q) (hi1 : ∀ (s : Shared) (H : Hp) (C : Addr) (cl : List (Str × Addr)) (fp : List Addr), XI (X.blk s H scope (compEnvC scope cl C X.env) fp) k tg1 iter1 wi1 ai1) (hg1 : ∀ (s : Shared) (H : Hp) (C : Addr) (cl : List (Str × Addr)) (fp : List Addr), XG (X.blk s H scope (compEnvC scope cl C X.env) fp) k tg1 g1 ag1 ws1) (ht1 : ∀ (s : Shared) (H : Hp) (C : Addr) (cl : List (Str × Addr)) (fp : List Addr), XTs (X.blk s H scope (compEnvC scope cl C X.env) fp) k ifs1 tt1 q1) (he : ∀ (s : Shared) (H : Hp) (C : Addr) (cl : List (Str × Addr)) (fp : List Addr), XE (X.blk s H scope (compEnvC scope cl C X.env) fp) k elt te a) (ok : BlkOk X.N X.env.scope scope own)
    (hw : ∀ i ∈ ws, i ∈ vs) (hv : ∀ i ∈ vs1, i ∈ vs) (hw1 : ∀ i ∈ ws1, i ∈ vs1) (hvs : own.map (·.2) = vs) (hc : X.calm = true) (hs : ∀ x, foldedSetIterable iter X.env x = pure x) (hs1 : ∀ env x, foldedSetIterable iter1 env x = pure x) :
    XO X k (.ListComp elt [⟨tg, iter, ifs, 0⟩, ⟨tg1, iter1, ifs1, 0⟩] scope pos) (tLc2 wi g tt wi1 g1 tt1 te vs vs1) (aLc2 ai ag q ai1 ag1 q1 a vs vs1) := by
  subst hvs
  exact ⟨pe_lc2 hc hN hi.p ok hv (fun s H C cl fp => (hg s H C cl fp).p) (fun s H C cl fp => (ht s H C cl fp).p) (fun s H C cl fp => (hi1 s H C cl fp).p) (fun s H C cl fp => (hg1 s H C cl fp).p) (fun s H C cl fp => (ht1 s H C cl fp).p) (fun s H C cl fp => (he s H C cl fp).p) hs hs1,
    so_lc2 hi.s (hg {} (fun _ => none) 0 [] []).s hw (ht {} (fun _ => none) 0 [] []).s (hi1 {} (fun _ => none) 0 [] []).s (hg1 {} (fun _ => none) 0 [] []).s hw1 (ht1 {} (fun _ => none) 0 [] []).s (he {} (fun _ => none) 0 [] []).s⟩
/-- y = [..] -/
theorem slc {i : Nat} {own : List (Str × Nat)} {vs : List Nat} {elt iter : Expr} {ifs : List Expr} {scope : Scope} {y : Str} {py spos : Pos} {wi : TI} {ai : AI} {g : TG} {ag : AG} {ws : List Nat} {tt : TT} {q : AT} (hN : X.N.Nodup) (hi : XI X k tg iter wi ai) (hg : ∀ (s : Shared) (H : Hp) (C : Addr) (cl : List (Str × Addr)) (fp : List Addr), XG (X.blk s H scope (compEnvC scope cl C X.env) fp) k tg g ag ws)
    (ht : ∀ (s : Shared) (H : Hp) (C : Addr) (cl : List (Str × Addr)) (fp : List Addr), XTs (X.blk s H scope (compEnvC scope cl C X.env) fp) k ifs tt q) (he : ∀ (s : Shared) (H : Hp) (C : Addr) (cl : List (Str × Addr)) (fp : List Addr), XE (X.blk s H scope (compEnvC scope cl C X.env) fp) k elt te a) (ok : BlkOk X.N X.env.scope scope own) (hw : ∀ i ∈ ws, i ∈ vs)
    (hsw : swapsWith (.ListComp elt [⟨tg, iter, ifs, 0⟩] scope pos) (some (.Name y py)) spos.line X.env = pure true) (hy : X.N[i]? = some y) (hyl : X.env.scope.names.lookup y = some .local) (hvs : own.map (·.2) = vs) (hc : X.calm = true)
    (hs : ∀ x, foldedSetIterable iter X.env x = pure x) :
    XS X k (.Assign [.Name y py] (.ListComp elt [⟨tg, iter, ifs, 0⟩] scope pos) spos) (tAsg (tLc wi g tt te vs) (gName i)) (aSet i (aFrz (aLc ai ag q a vs))) := by
  subst hvs
  exact ⟨ps_setLc hc hN hy hyl hsw hi.p ok (fun s H C cl fp => (hg s H C cl fp).p) (fun s H C cl fp => (ht s H C cl fp).p) (fun s H C cl fp => (he s H C cl fp).p) hs, ss_set (si_frz (so_lc hi.s (hg {} (fun _ => none) 0 [] []).s hw (ht {} (fun _ => none) 0 [] []).s (he {} (fun _ => none) 0 [] []).s))⟩
theorem slc2 {i : Nat} {own : List (Str × Nat)} {vs : List Nat} {vs1 : List Nat} {elt iter iter1 tg1 : Expr} {ifs ifs1 : List Expr} {scope : Scope} {y : Str} {py spos : Pos} {wi wi1 : TI} {ai ai1 : AI} {g g1 : TG} {ag ag1 : AG} {ws ws1 : List Nat} {tt tt1 : TT} {q q1 : AT} (hN : X.N.Nodup) (hi : XI X k tg iter wi ai) (hg : ∀ (s : Shared) (H : Hp) (C : Addr) (cl : List (Str × Addr)) (fp : List Addr), XG (X.blk s H scope (compEnvC scope cl C X.env) fp) k tg g ag ws)
    (ht : ∀ (s : Shared) (H : Hp) (C : Addr) (cl : List (Str × Addr)) (fp : List Addr), XTs (X.blk s H scope (compEnvC scope cl C X.env) fp) k ifs tt q) (hi1 : ∀ (s : Shared) (H : Hp) (C : Addr) (cl : List (Str × Addr)) (fp : List Addr), XI (X.blk s H scope (compEnvC scope cl C X.env) fp) k tg1 iter1 wi1 ai1) (hg1 : ∀ (s : Shared) (H : Hp) (C : Addr) (cl : List (Str × Addr)) (fp : List Addr), XG (X.blk s H scope (compEnvC scope cl C X.env) fp) k tg1 g1 ag1 ws1) (ht1 : ∀ (s : Shared) (H : Hp) (C : Addr) (cl : List (Str × Addr)) (fp : List Addr), XTs (X.blk s H scope (compEnvC scope cl C X.env) fp) k ifs1 tt1 q1) (he : ∀ (s : Shared) (H : Hp) (C : Addr) (cl : List (Str × Addr)) (fp : List Addr), XE (X.blk s H scope (compEnvC scope cl C X.env) fp) k elt te a) (ok : BlkOk X.N X.env.scope scope own)
    (hw : ∀ i ∈ ws, i ∈ vs) (hv : ∀ i ∈ vs1, i ∈ vs) (hw1 : ∀ i ∈ ws1, i ∈ vs1)
    (hsw : swapsWith (.ListComp elt [⟨tg, iter, ifs, 0⟩, ⟨tg1, iter1, ifs1, 0⟩] scope pos) (some (.Name y py)) spos.line X.env = pure true) (hy : X.N[i]? = some y) (hyl : X.env.scope.names.lookup y = some .local) (hvs : own.map (·.2) = vs) (hc : X.calm = true)
    (hs : ∀ x, foldedSetIterable iter X.env x = pure x) (hs1 : ∀ env x, foldedSetIterable iter1 env x = pure x) :
    XS X k (.Assign [.Name y py] (.ListComp elt [⟨tg, iter, ifs, 0⟩, ⟨tg1, iter1, ifs1, 0⟩] scope pos) spos) (tAsg (tLc2 wi g tt wi1 g1 tt1 te vs vs1) (gName i)) (aSet i (aFrz (aLc2 ai ag q ai1 ag1 q1 a vs vs1))) := by
  subst hvs
  exact ⟨ps_setLc2 hc hN hy hyl hsw hi.p ok hv (fun s H C cl fp => (hg s H C cl fp).p) (fun s H C cl fp => (ht s H C cl fp).p) (fun s H C cl fp => (hi1 s H C cl fp).p) (fun s H C cl fp => (hg1 s H C cl fp).p) (fun s H C cl fp => (ht1 s H C cl fp).p) (fun s H C cl fp => (he s H C cl fp).p) hs hs1,
    ss_set (si_frz (so_lc2 hi.s (hg {} (fun _ => none) 0 [] []).s hw (ht {} (fun _ => none) 0 [] []).s (hi1 {} (fun _ => none) 0 [] []).s (hg1 {} (fun _ => none) 0 [] []).s hw1 (ht1 {} (fun _ => none) 0 [] []).s (he {} (fun _ => none) 0 [] []).s))⟩
end

/-! ### statements -/
def aFz (j : Nat) (s : AS) : AS := fun A δ => isM (gs δ j) fun _ ds => s A (ss δ j (.da (.lst ds)))
section
variable {X : Cx} {k : Kx} {tg e : Expr} {es : List Expr} {te ta tb : TE} {a b : AE} {ao : AO} {pos p p2 apos : Pos} {tr : TA} {ar : AA} {x y : Expr} {lv : Nat} {nm : Str} {st : Stmt} {sts b1 b2 : List Stmt} {ts tu : TS} {s s2 : AS} {tt : TT} {q : AT}
theorem bnil : XB X k [] tNext aNext := ⟨pss_nil, ss_next⟩
theorem bone (h : XS X k st ts s) : XB X k [st] ts s := ⟨pss_one h.p, h.s⟩
theorem bcons (h : XS X k st ts s) (h2 : XB X k sts tu s2) : XB X k (st :: sts) (tSeq ts tu) (aSeq s s2) := ⟨pss_cons h.p h2.p, ss_seq h.s h2.s⟩
theorem bnever : XB X k sts tNever aNever := ⟨pss_never, ss_never⟩
theorem snever : XS X k st tNever aNever := ⟨ps_never, ss_never⟩
/-- one's own list is data from here on -/
theorem ss_fz {k : Kx} {j : Nat} (h : SimS k ts s) : SimS k ts (aFz j s) := fun G M σ H δ A E st hA q => by
  obtain ⟨l, ds, e, hA⟩ := isM_elim hA
  obtain ⟨h1, hm, vs, hl, rs⟩ := st.mu e
  have gl := st.dis l hm
  have s2 := st.moveOut e
  obtain ⟨s3, r3, eg⟩ := s2.freeze (fun m => m.2 rfl) gl hl rs
  have hlen : j < δ.length := gs_len (by rw [e]; exact fun z => nomatch z)
  have s4 : Stt k (upd G l (.lst vs)) (fun a => M a ∧ a ≠ l) σ H (ss δ j (.da (.lst ds))) := by
    refine ⟨s3.ex, s3.dis, s3.trk, by rw [ss_length]; exact st.len, fun i => ?_, fun a b l' ds' m es' hab ha hb => ?_⟩
    · by_cases en : j = i
      · subst en
        rw [gs_ss_get hlen]
        exact ⟨_, h1, r3⟩
      · have z := s3.slot i
        rw [gs_ss_ne en] at z ⊢
        exact z
    · have f : ∀ c m fs, gs (ss δ j (.da (.lst ds))) c = .mu m fs → gs (ss δ j .un) c = .mu m fs := fun c m fs h => by
        by_cases en : j = c
        · subst en
          rw [gs_ss_get hlen] at h
          cases h
        · rw [gs_ss_ne en] at h ⊢
          exact h
      exact s3.ne a b _ _ _ _ hab (f a _ _ ha) (f b _ _ hb)
  refine h _ _ σ H _ A E s4 hA (q.step ⟨eg, fun a o ha n => ha, fun a ha => ?_, fun a m => .inl m.1, fun _ ha => ha⟩)
  by_cases en : a = l
  · exact .inr (.inl (by rw [en]; exact hm))
  · rw [upd_ne en] at ha; exact .inl ha
theorem bfz (j : Nat) (h : XB X k sts ts s) : XB X k sts ts (aFz j s) := ⟨h.p, ss_fz h.s⟩
theorem sfz (j : Nat) (h : XS X k st ts s) : XS X k st ts (aFz j s) := ⟨h.p, ss_fz h.s⟩
theorem sset (i : Nat) {nm : Str} {pos' : Pos} (hN : X.N.Nodup) (he : XE X k e te a) (hi : X.N[i]? = some nm := by rfl) (hx : Loc X.env.scope nm := by first | exact Or.inl rfl | exact Or.inr rfl) (hs : swapsWith e (some (.Name nm pos')) pos.line X.env = pure false := by rfl) (hf : X.fn nm = true ∨ X.env.scope.names.lookup nm = some .local := by first | exact .inl rfl | exact .inr rfl) :
    XS X k (.Assign [.Name nm pos'] e pos) (tAsg te (gName i)) (aSet i a) := ⟨ps_set hN hi hx he.p hs hf, ss_set he.s⟩
theorem ssetO (i : Nat) {nm : Str} {pos' : Pos} (hN : X.N.Nodup) (he : XO X k e te ao) (hi : X.N[i]? = some nm := by rfl) (hx : Loc X.env.scope nm := by first | exact Or.inl rfl | exact Or.inr rfl) (hs : swapsWith e (some (.Name nm pos')) pos.line X.env = pure false := by rfl) (hf : X.fn nm = true ∨ X.env.scope.names.lookup nm = some .local := by first | exact .inl rfl | exact .inr rfl) :
    XS X k (.Assign [.Name nm pos'] e pos) (tAsg te (gName i)) (aSetO i ao) := ⟨ps_set hN hi hx he.p hs hf, ss_setO he.s⟩
theorem ssetG {g : TG} {ag : AG} {ws : List Nat} (he : XE X k e te a) (hg : XG X k tg g ag ws) (hs : swapsWithSole [tg] e pos.line X.env = pure false := by rfl) (hw : swappedStores [tg] e X.env = pure none := by rfl) (h1 : (assignEach [tg] X.env).map (·.2) = [assign tg X.env] := by rfl) :
    XS X k (.Assign [tg] e pos) (tAsg te g) (aSetG a ag) := ⟨ps_asg he.p hg.p hs hw h1, ss_setG he.s hg.s⟩
theorem sput (j : Nat) {n2 : Str} {o2 : Pos} (hx : XE X k (.Name n2 p2) (tVar j) (aVar j)) (hb : XE X k y tb b) (he : XE X k e te a) (hs : swapsWithSole [.Subscript (.Name n2 p2) y o2] e pos.line X.env = pure false := by rfl) (hw : swappedStores [.Subscript (.Name n2 p2) y o2] e X.env = pure none := by rfl)
    (h1 : (assignEach [.Subscript (.Name n2 p2) y o2] X.env).map (·.2) = [assign (.Subscript (.Name n2 p2) y o2) X.env] := by rfl)
    (ha : ∀ v, assign (.Subscript (.Name n2 p2) y o2) X.env v = (do
      let ov ← holding [v] (eval (.Name n2 p2) X.env)
      let iv ← holding [v, ov] (eval y X.env)
      standAt o2
      holding [v, ov, iv] (setItem ov iv v)
      release [v, ov, iv] []) := by intro _; rfl) : XS X k (.Assign [.Subscript (.Name n2 p2) y o2] e pos) (tAsg te (gSub (tVar j) tb rSetL)) (aPut j b a) := ⟨ps_asg he.p (pg_sub hx.p hb.p set_list ha) hs hw h1, ss_put hb.s he.s⟩
theorem sret (he : XE X k e te a) : XS X k (.Return (some e) pos) (tRet te) (aRet a) := ⟨ps_ret he.p, ss_ret he.s⟩
theorem sretO (he : XO X k e te ao) : XS X k (.Return (some e) pos) (tRet te) (aRetO ao) := ⟨ps_ret he.p, ss_retO he.s⟩
theorem sif (hc : XT X k e tt q) (ha : XB X k b1 ts s) (hb : XB X k b2 tu s2) : XS X k (.If e b1 b2 pos) (tIfS tt ts tu) (aIf q s s2) := ⟨ps_if hc.p ha.p hb.p, ss_if hc.s ha.s hb.s⟩
theorem sfor {wi : TI} {ai : AI} {g : TG} {ag : AG} {ws : List Nat} (hi : XI X k tg e wi ai) (hg : XG X k tg g ag ws) (hb : XB X k b1 ts s) (hp : PassesOwn (model X.prog X.w) X.A X.env X.xe := by exact PassesOwn.never) (hc : X.calm = true := by rfl) (hs : ∀ x, foldedSetIterable e X.env x = pure x := by intro _; rfl) :
    XS X k (.For tg e b1 [] pos) (tFor wi g ts) (aFor ai ag s) := ⟨ps_for hp hc hi.p hg.p hb.p hs, ss_for hi.s hg.s hb.s⟩
theorem sforM (j : Nat) {n2 : Str} {g : TG} {ag : AG} {ws : List Nat} (hx : XE X k (.Name n2 p2) (tVar j) (aVar j)) (hg : XG X k tg g ag ws) (hb : XB X k b1 ts s) (hj : j ∉ ws := by decide) (hp : PassesOwn (model X.prog X.w) X.A X.env X.xe := by exact PassesOwn.never) (hc : X.calm = true := by rfl) (hK : X.K = k.K := by rfl) :
    XS X k (.For tg (.Name n2 p2) b1 [] pos) (tFor (iList k.K (tVar j)) g ts) (aForM j ag s) := by
  obtain ⟨K0, c⟩ := k
  cases hK
  exact ⟨ps_for hp hc (pi_list hx.p) hg.p hb.p, ss_forM hg.s hj hb.s⟩
theorem swhile (ht : XT X k e tt q) (hb : XB X k b1 ts s) (hp : PassesOwn (model X.prog X.w) X.A X.env X.xe := by exact PassesOwn.never) : XS X k (.While e b1 [] pos) (tWhile tt ts) (aWhile q s) := ⟨ps_while hp ht.p hb.p, ss_while ht.s hb.s⟩
theorem sapp (j : Nat) {n2 : Str} {cpos : Pos} (hx : XE X k (.Name n2 p2) (tVar j) (aVar j)) (hb : XE X k y tb b) (hsw : swapsWith (.Call (.Attribute (.Name n2 p2) "append" apos) [y] [] cpos) none pos.line X.env = pure false := by rfl)
    (hbase : attributeBase (.Name n2 p2) "append" X.env (eval (.Name n2 p2) X.env) = eval (.Name n2 p2) X.env := by rfl)
    (hfew : ((backTo cpos (starEach [y] X.env)).all (fun x => !x.1) && (backToKw cpos (keywordEach [] X.env)).all (fun x => x.1.isSome)
      && decide ([y].length + ([] : List Keyword).length + (if ([] : List Keyword).isEmpty then 0 else 1) < 30)) = true := by rfl)
    (hline : (apos.endLine == cpos.line) = true := by rfl) (hs : starEach [y] X.env = (false, eval y X.env) :: starEach [] X.env := by rfl) (hK : X.K = k.K := by rfl) :
    XS X k (.Expr (.Call (.Attribute (.Name n2 p2) "append" apos) [y] [] cpos) pos) (tDrop (tBM k.K "list" rAppend (tVar j) (tCons tb tNil))) (aApp j b) := by
  obtain ⟨K0, c⟩ := k
  cases hK
  exact ⟨ps_expr (pe_bm PySem.F.plainAttrs_list PySem.F.slot_list_append PySem.F.type_list_append mt_append hx.p (pa_cons hb.p pa_nil hs) hbase hfew hline hs) hsw, ss_app hb.s⟩
theorem sext (j : Nat) {n2 : Str} {cpos : Pos} (hx : XE X k (.Name n2 p2) (tVar j) (aVar j)) (hb : XE X k y tb b) (hsw : swapsWith (.Call (.Attribute (.Name n2 p2) "extend" apos) [y] [] cpos) none pos.line X.env = pure false := by rfl)
    (hbase : attributeBase (.Name n2 p2) "extend" X.env (eval (.Name n2 p2) X.env) = eval (.Name n2 p2) X.env := by rfl)
    (hfew : ((backTo cpos (starEach [y] X.env)).all (fun x => !x.1) && (backToKw cpos (keywordEach [] X.env)).all (fun x => x.1.isSome)
      && decide ([y].length + ([] : List Keyword).length + (if ([] : List Keyword).isEmpty then 0 else 1) < 30)) = true := by rfl)
    (hline : (apos.endLine == cpos.line) = true := by rfl) (hs : starEach [y] X.env = (false, eval y X.env) :: starEach [] X.env := by rfl) (hK : X.K = k.K := by rfl) :
    XS X k (.Expr (.Call (.Attribute (.Name n2 p2) "extend" apos) [y] [] cpos) pos) (tDrop (tBM k.K "list" rExtend (tVar j) (tCons tb tNil))) (aExt j b) := by
  obtain ⟨K0, c⟩ := k
  cases hK
  exact ⟨ps_expr (pe_bm PySem.F.plainAttrs_list PySem.F.slot_list_extend PySem.F.type_list_extend mt_extend hx.p (pa_cons hb.p pa_nil hs) hbase hfew hline hs) hsw, ss_ext hb.s⟩
theorem sins (j : Nat) {n2 : Str} {cpos : Pos} (hx : XE X k (.Name n2 p2) (tVar j) (aVar j)) (ha : XE X k x ta a) (hb : XE X k y tb b) (hsw : swapsWith (.Call (.Attribute (.Name n2 p2) "insert" apos) [x, y] [] cpos) none pos.line X.env = pure false := by rfl)
    (hbase : attributeBase (.Name n2 p2) "insert" X.env (eval (.Name n2 p2) X.env) = eval (.Name n2 p2) X.env := by rfl)
    (hfew : ((backTo cpos (starEach [x, y] X.env)).all (fun x => !x.1) && (backToKw cpos (keywordEach [] X.env)).all (fun x => x.1.isSome)
      && decide ([x, y].length + ([] : List Keyword).length + (if ([] : List Keyword).isEmpty then 0 else 1) < 30)) = true := by rfl)
    (hline : (apos.endLine == cpos.line) = true := by rfl) (hs : starEach [x, y] X.env = (false, eval x X.env) :: starEach [y] X.env := by rfl) (hs2 : starEach [y] X.env = (false, eval y X.env) :: starEach [] X.env := by rfl) (hpl : (backTo cpos (starEach [y] X.env)).any (·.1) = false := by rfl) (hK : X.K = k.K := by rfl) :
    XS X k (.Expr (.Call (.Attribute (.Name n2 p2) "insert" apos) [x, y] [] cpos) pos) (tDrop (tBM k.K "list" rInsX (tVar j) (tCons ta (tCons tb tNil)))) (aIns j a b) := by
  obtain ⟨K0, c⟩ := k
  cases hK
  exact ⟨ps_expr (pe_bm PySem.F.plainAttrs_list PySem.F.slot_list_insert PySem.F.type_list_insert mt_insert hx.p (pa_cons ha.p (pa_cons hb.p pa_nil hs2) hs) hbase hfew hline hs hpl) hsw, ss_ins ha.s hb.s⟩
theorem sclr (j : Nat) {n2 : Str} {cpos : Pos} (hx : XE X k (.Name n2 p2) (tVar j) (aVar j)) (hsw : swapsWith (.Call (.Attribute (.Name n2 p2) "clear" apos) [] [] cpos) none pos.line X.env = pure false := by rfl)
    (hbase : attributeBase (.Name n2 p2) "clear" X.env (eval (.Name n2 p2) X.env) = eval (.Name n2 p2) X.env := by rfl) (hline : (apos.endLine == cpos.line) = true := by rfl) (hK : X.K = k.K := by rfl) :
    XS X k (.Expr (.Call (.Attribute (.Name n2 p2) "clear" apos) [] [] cpos) pos) (tDrop (tBM0 k.K "list" rClear (tVar j))) (aClr j) := by
  obtain ⟨K0, c⟩ := k
  cases hK
  exact ⟨ps_expr (pe_bm0 PySem.F.plainAttrs_list PySem.F.slot_list_clear PySem.F.type_list_clear mt_clear hx.p hbase hline) hsw, ss_clr⟩
theorem sfld {C : Addr} {n2 f : Str} {o2 : Pos} (hc : Cls X.K C) (hn : NoAttr X.K C f) (hx : XE X k (.Name n2 p2) (tVar 0) (aVar 0)) (he : XE X k e te a) (hs : swapsWith e (some (.Attribute (.Name n2 p2) f o2)) pos.line X.env = pure false := by rfl) (hK : X.K = k.K := by rfl) :
    XS X k (.Assign [.Attribute (.Name n2 p2) f o2] e pos) (sFld k.K (tVar 0) te f) (aFld C f a) := by
  obtain ⟨K0, c⟩ := k
  cases hK
  exact ⟨ps_fld hx.p he.p hs, ss_fld hc hn he.s⟩
end
end Ab
set_option maxHeartbeats 4000000
/-! what each def computes, over plain data; its promise -/
namespace Ab
open PySem PySem.Spec PyProof.Rows L2

abbrev Term := Int × Int
abbrev Pre := List Term
abbrev Roll := List Int
abbrev Rw := Pre × Int × Int
def termD (t : Term) : D := .tup [.int t.1, .int t.2]
def preD (p : Pre) : D := .tup (p.map termD)
def rollD (r : Roll) : D := .tup (r.map D.int)
def rowD (r : Rw) : D := .tup [preD r.1, .int r.2.1, .int r.2.2]
def seqD (b : Bool) (xs : List D) : D := if b = true then .tup xs else .lst xs
def ruleD (p : Pre) : D := .rule (preD p)
def pairD : Option (Nat × Nat) → D
  | none => .non
  | some (i, j) => .tup [.int (i : Int), .int (j : Int)]
def cutOf (rows : List Rw) : D := .cut (.tup (rows.map rowD))

/-- a roll's value at a mark -/
def vl (x : Roll) (m : Int) : Int := x.getD m.toNat 0
def frees (p : Pre) (n : Nat) : List Nat := (List.range n).filter fun (m : Nat) => decide ((m : Int) ∉ p.map (·.1))
def behind (p : Pre) (n : Nat) : List Term := (frees p n).flatMap fun (m : Nat) => [((m : Int), 1), ((m : Int), -1)]
def stepRows (n : Nat) (rows : List Pre) : List Pre := rows.flatMap fun r => (behind r n).map fun t => r ++ [t]
def fullN (n : Nat) : Nat → List Pre
  | 0 => [[]]
  | i + 1 => stepRows n (fullN n i)
def fullRows (n : Nat) : List Pre := fullN n n
def cmp : Pre → Roll → Roll → Int
  | [], _, _ => 0
  | (m, d) :: r, x, y => if vl x m ≠ vl y m then (if decide (vl x m < vl y m) = decide (d = 1) then -1 else 1) else cmp r x y
def side : Pre → Roll → Roll → Int
  | [], _, _ => 0
  | (m, d) :: r, x, y => if vl x m ≠ vl y m then (if vl y m < vl x m then d else -d) else side r x y
abbrev Shelf := List Roll
def rl (sh : Shelf) (i : Nat) : Roll := sh.getD i []
def srt (t : Pre) (sh : Shelf) : Bool := (List.range (sh.length - 1)).all fun i => decide (cmp t (rl sh i) (rl sh (i + 1)) ≠ 1)
def lastL {α : Type} (p : List α) : List α := p.drop (p.length - 1)
def shut (p : Pre) (x y : Roll) : Bool := (p.dropLast.all fun t => decide (vl x t.1 = vl y t.1)) && decide (cmp (lastL p) x y = 1)
/-- the pairs i < j below n, ascending -/
def pairsL (n : Nat) : List (Nat × Nat) := (List.range n).flatMap fun i => ((List.range (n - (i + 1))).map fun k => (i, i + 1 + k))
def leastP (p : Pre) (sh : Shelf) : Option (Nat × Nat) := (pairsL sh.length).find? fun q => shut p (rl sh q.1) (rl sh q.2)
def rowsB (sh : Shelf) (n : Nat) : Nat → Pre → List Rw
  | 0, _ => []
  | f + 1, p => (behind p n).flatMap fun t => match leastP (p ++ [t]) sh with
    | none => rowsB sh n f (p ++ [t])
    | some (i, j) => [(p ++ [t], (i : Int), (j : Int))]
def isPre (p : Pre) (n : Nat) : Bool := ((List.range p.length).all fun i => decide (p.getD i (0, 0) ∈ behind (p.take i) n)) && decide (0 < p.length)
def right (r : Rw) (sh : Shelf) (n : Nat) : Bool := isPre r.1 n && (decide (0 ≤ r.2.1) && decide (r.2.1 < r.2.2) && decide (r.2.2 < (sh.length : Int))) && shut r.1 (rl sh r.2.1.toNat) (rl sh r.2.2.toNat)
def begins (t : Pre) (p : Pre) : Bool := decide (t.take p.length = p)
def begAny (t : Pre) (ps : List Pre) : Bool := ps.any fun p => begins t p
def judge (sh : Shelf) (n : Nat) (rows : List Rw) : Bool := (rows.all fun r => right r sh n) && (fullRows n).all fun t => srt t sh || begAny t (rows.map (·.1))
def uns (t : Pre) (sh : Shelf) : Bool := (pairsL sh.length).any fun q => decide (0 < side t (rl sh q.1) (rl sh q.2))
def due (rows : List Rw) (sh : Shelf) (n : Nat) (unfit : List Pre) : Bool := (rows.all fun r => right r sh n) && unfit.all fun t => rows.any fun r => begins t r.1
def rank (t : Term) : Int := 2 * t.1 + if t.2 < 0 then 1 else 0
/-- every mark of the terms is a mark of rolls of n marks -/
def inR (n : Nat) (p : Pre) : Prop := ∀ t ∈ p, 0 ≤ t.1 ∧ t.1 < (n : Int)
def shOk (n : Nat) (sh : Shelf) : Prop := sh.length ≤ 10 ∧ ∀ r ∈ sh, r.length = n
/-- the bag's list: three whole numbers, the last one small -/
def bagOk (C : Nat) (bs : List D) : Prop := ∃ a b e : Int, bs = [.int a, .int b, .int e] ∧ 0 ≤ e ∧ e ≤ (C : Int)

/-! ### promises -/
def fs_is_integer (ds : List D) (A : D → Prop) : Prop := ∃ i : Int, ds = [.int i] ∧ A (.bl true)
def fs_is_term (ds : List D) (A : D → Prop) : Prop := ∃ t : Term, ds = [termD t] ∧ 0 ≤ t.1 ∧ t.1 ≤ 3 ∧ (t.2 = 1 ∨ t.2 = -1) ∧ A (.bl true)
def fs_terms_behind (ds : List D) (A : D → Prop) : Prop := ∃ (p : Pre) (n : Nat), ds = [preD p, .int (n : Int)] ∧ n ≤ 3 ∧ p.length ≤ 1000 ∧ A (.lst ((behind p n).map termD))
def fs_term_rows (ds : List D) (A : D → Prop) : Prop := ∃ n : Nat, ds = [.int (n : Int)] ∧ n ≤ 3 ∧ A (.tup ((fullRows n).map preD))
def fs_compare_by (ds : List D) (A : D → Prop) : Prop := ∃ (t : Pre) (n : Nat) (x y : Roll), ds = [preD t, rollD x, rollD y] ∧ inR n t ∧ x.length = n ∧ y.length = n ∧ A (.int (cmp t x y))
def fs_RuleInit (ds : List D) (A : D → Prop) : Prop := ∃ p : Pre, ds = [preD p] ∧ p.length ≤ 1000 ∧ (∀ t ∈ p, 0 ≤ t.1 ∧ t.1 ≤ 3 ∧ (t.2 = 1 ∨ t.2 = -1)) ∧ (p.map (·.1)).Nodup ∧ A (preD p)
def fs_all_rules (ds : List D) (A : D → Prop) : Prop := ∃ n : Nat, ds = [.int (n : Int)] ∧ n ≤ 3 ∧ A (.lst ((fullRows n).map ruleD))
def fs_is_sorted (ds : List D) (A : D → Prop) : Prop := ∃ (t : Pre) (b : Bool) (sh : Shelf) (n : Nat), ds = [preD t, seqD b (sh.map rollD)] ∧ inR n t ∧ shOk n sh ∧ A (.bl (srt t sh))
def fs_fitting_rules (ds : List D) (A : D → Prop) : Prop := ∃ (b : Bool) (sh : Shelf) (n : Nat), ds = [seqD b (sh.map rollD), .int (n : Int)] ∧ n ≤ 3 ∧ shOk n sh ∧ A (.lst (((fullRows n).filter fun t => srt t sh).map ruleD))
def fs_is_shut_by (ds : List D) (A : D → Prop) : Prop := ∃ (p : Pre) (n : Nat) (x y : Roll), ds = [preD p, rollD x, rollD y] ∧ inR n p ∧ x.length = n ∧ y.length = n ∧ A (.bl (shut p x y))
def fs_least_pair (ds : List D) (A : D → Prop) : Prop := ∃ (p : Pre) (b : Bool) (sh : Shelf) (n : Nat), ds = [preD p, seqD b (sh.map rollD)] ∧ inR n p ∧ shOk n sh ∧ A (pairD (leastP p sh))
def fsB (f : Nat) (ds : List D) (A : D → Prop) : Prop := ∃ (p : Pre) (b : Bool) (sh : Shelf) (n : Nat), ds = [preD p, seqD b (sh.map rollD), .int (n : Int)] ∧ n ≤ 3 ∧ inR n p ∧ (frees p n).length ≤ f ∧ p.length + f ≤ 100 ∧ shOk n sh ∧ A (.lst ((rowsB sh n f p).map rowD))
/-- the recursive call's promise, for at most so many marks left -/
def fsR (f : Nat) (ds : List D) (A : D → Prop) : Prop := ∃ g, g ≤ f ∧ fsB g ds A
def fs_rows_behind (ds : List D) (A : D → Prop) : Prop := ∃ (b : Bool) (sh : Shelf) (n : Nat), ds = [preD [], seqD b (sh.map rollD), .int (n : Int)] ∧ n ≤ 3 ∧ shOk n sh ∧ A (.lst ((rowsB sh n n []).map rowD))
def fs_shelf_cut (ds : List D) (A : D → Prop) : Prop := ∃ (b : Bool) (sh : Shelf) (n : Nat), ds = [seqD b (sh.map rollD), .int (n : Int)] ∧ n ≤ 3 ∧ shOk n sh ∧ A (cutOf (rowsB sh n n []))
def fs_is_prefix (ds : List D) (A : D → Prop) : Prop := ∃ (p : Pre) (n : Nat), ds = [preD p, .int (n : Int)] ∧ n ≤ 3 ∧ p.length ≤ 1000 ∧ A (.bl (isPre p n))
def fs_is_right_row (ds : List D) (A : D → Prop) : Prop := ∃ (r : Rw) (b : Bool) (sh : Shelf) (n : Nat), ds = [rowD r, seqD b (sh.map rollD), .int (n : Int)] ∧ n ≤ 3 ∧ r.1.length ≤ 1000 ∧ shOk n sh ∧ A (.bl (right r sh n))
def fs_begins_with_any (ds : List D) (A : D → Prop) : Prop := ∃ (t : Pre) (ps : List Pre), ds = [preD t, .lst (ps.map preD)] ∧ t.length ≤ 1000 ∧ (∀ p ∈ ps, p.length ≤ 1000) ∧ A (.bl (begAny t ps))
def fs_judge_cut (ds : List D) (A : D → Prop) : Prop := ∃ (b : Bool) (sh : Shelf) (n : Nat) (rows : List Rw), ds = [seqD b (sh.map rollD), .int (n : Int), cutOf rows] ∧ n ≤ 3 ∧ shOk n sh ∧ rows.length ≤ 1000 ∧ (∀ r ∈ rows, r.1.length ≤ 1000) ∧ A (.bl (judge sh n rows))
def fs_l_box (ds : List D) (A : List D → Prop) : Prop := ∃ (ns : List Int) (pl : Nat), ds = [.scr ns, .int (pl : Int)] ∧ pl ≤ 2 ∧ ∀ bs, bagOk 62 bs → A bs
def fs_l_take (bs ds : List D) (A : D → List D → Prop) : Prop := ∃ (C : Nat) (sz : Int), bagOk C bs ∧ C ≤ 1000000 ∧ ds = [.int sz] ∧ 0 < sz ∧ sz ≤ 1000000000 ∧ ∀ (d : Int) cs, 0 ≤ d → d < sz → bagOk (C + 1) cs → A (.int d) cs
def fs_l_integer (ds : List D) (A : D → Prop) : Prop := ∃ i : Int, ds = [.int i] ∧ A (.bl true)
def fs_l_value (bs ds : List D) (A : D → List D → Prop) : Prop := ∃ (C : Nat) (pl : Int), bagOk C bs ∧ C ≤ 100000 ∧ ds = [.int pl] ∧ ∀ (v : Int) cs, bagOk (C + 4) cs → A (.int v) cs
def fs_l_terms (bs ds : List D) (A : D → List D → Prop) : Prop := ∃ (C n : Nat), bagOk C bs ∧ C ≤ 100000 ∧ ds = [.int (n : Int), .int (n : Int)] ∧ n ≤ 3 ∧ ∀ (t : Pre) cs, inR n t → bagOk (C + 10) cs → A (.lst (t.map termD)) cs
def fs_l_roll (bs ds : List D) (A : D → List D → Prop) : Prop := ∃ (C n : Nat) (k : Int) (v0 v1 v2 : Int), bagOk C bs ∧ C ≤ 100000 ∧ ds = [.int k, .int (n : Int), .lst [.int v0, .int v1, .int v2]] ∧ 0 ≤ k ∧ k ≤ 100 ∧ n ≤ 3 ∧ ∀ (r : Roll) cs, r.length = n → bagOk (C + 10) cs → A (rollD r) cs
def fs_l_side (ds : List D) (A : D → Prop) : Prop := ∃ (b : Bool) (t : Pre) (n : Nat) (x y : Roll), ds = [seqD b (t.map termD), rollD x, rollD y] ∧ inR n t ∧ x.length = n ∧ y.length = n ∧ A (.int (side t x y))
def fs_l_laid (ds : List D) (A : List D → Prop) : Prop := ∃ (t : Pre) (n : Nat) (rs : Shelf), ds = [.lst (t.map termD), .lst (rs.map rollD)] ∧ inR n t ∧ shOk n rs ∧ ∀ zs : Shelf, zs.length = rs.length → (∀ r ∈ zs, r.length = n) → A (zs.map rollD)
def fs_l_shelf (bs ds : List D) (A : D → List D → Prop) : Prop := ∃ n : Nat, bagOk 62 bs ∧ ds = [.int (n : Int)] ∧ n ≤ 3 ∧ ∀ (sh : Shelf) cs, shOk n sh → A (.lst (sh.map rollD)) cs
def fs_l_full (ds : List D) (A : D → Prop) : Prop := ∃ n : Nat, ds = [.int (n : Int)] ∧ n ≤ 3 ∧ A (.lst ((fullRows n).map preD))
def fs_l_unsorted (ds : List D) (A : D → Prop) : Prop := ∃ (t : Pre) (sh : Shelf) (n : Nat), ds = [preD t, .lst (sh.map rollD)] ∧ inR n t ∧ shOk n sh ∧ A (.bl (uns t sh))
def fs_l_rules_are (ds : List D) (A : D → Prop) : Prop := ∃ ts : List Pre, ds = [.lst (ts.map ruleD), .lst (ts.map preD)] ∧ ts.length ≤ 1000 ∧ (∀ t ∈ ts, t.length ≤ 1000) ∧ A (.bl true)
def fs_l_row_kind (ds : List D) (A : D → Prop) : Prop := ∃ r : Rw, ds = [rowD r] ∧ A (.bl true)
def fs_l_right (ds : List D) (A : D → Prop) : Prop := ∃ (r : Rw) (sh : Shelf) (n : Nat), ds = [rowD r, .lst (sh.map rollD), .int (n : Int)] ∧ n ≤ 3 ∧ r.1.length ≤ 1000 ∧ shOk n sh ∧ A (.bl (right r sh n))
/-- no shorter beginning and no lesser pair is right -/
def isLeast (r : Rw) (sh : Shelf) (n : Nat) : Prop := ∀ a b s : Nat, a < b → b < sh.length → 1 ≤ s → s ≤ r.1.length → right (r.1.take s, (a : Int), (b : Int)) sh n = true → ¬ (s < r.1.length ∨ HT.lexLt [(a : Int), (b : Int)] [r.2.1, r.2.2] = true)
def fs_l_least (ds : List D) (A : D → Prop) : Prop := ∃ (r : Rw) (sh : Shelf) (n : Nat), ds = [rowD r, .lst (sh.map rollD), .int (n : Int)] ∧ n ≤ 3 ∧ r.1.length ≤ 1000 ∧ shOk n sh ∧ isLeast r sh n ∧ A (.bl true)
def fs_l_cut_right (ds : List D) (A : D → Prop) : Prop := ∃ (rows : List Rw) (sh : Shelf) (n : Nat), ds = [.tup (rows.map rowD), .lst (sh.map rollD), .int (n : Int)] ∧ n ≤ 3 ∧ shOk n sh ∧ (∀ r ∈ rows, r.1.length ≤ 1000 ∧ r.1 ≠ [] ∧ right r sh n = true ∧ isLeast r sh n) ∧
  rows.Pairwise (fun r s => HT.lexLt (r.1.map rank) (s.1.map rank) = true) ∧ A (.bl true)
def fs_l_begun (ds : List D) (A : D → Prop) : Prop := ∃ (b : Bool) (rows : List Rw) (t : Pre), ds = [seqD b (rows.map rowD), preD t] ∧ rows.length ≤ 1000 ∧ (∀ r ∈ rows, r.1.length ≤ 1000) ∧ t.length ≤ 1000 ∧ A (.lst ((rows.filter fun r => begins t r.1).map rowD))
def fs_l_due (ds : List D) (A : D → Prop) : Prop := ∃ (rows : List Rw) (sh : Shelf) (n : Nat) (unfit : List Pre), ds = [.lst (rows.map rowD), .lst (sh.map rollD), .int (n : Int), .lst (unfit.map preD)] ∧ n ≤ 3 ∧ shOk n sh ∧ rows.length ≤ 1000 ∧ (∀ r ∈ rows, r.1.length ≤ 1000) ∧ (∀ t ∈ unfit, t.length ≤ 1000) ∧ A (.bl (due rows sh n unfit))
def fs_l_last_pair (ds : List D) (A : D → Prop) : Prop := ∃ (p : Pre) (sh : Shelf) (n : Nat), ds = [preD p, .lst (sh.map rollD), .int (n : Int)] ∧ n ≤ 3 ∧ p.length ≤ 1000 ∧ shOk n sh ∧ ∀ i j : Int, A (.tup [.int i, .int j])
def fs_l_other_prefix (bs ds : List D) (A : D → List D → Prop) : Prop := ∃ (C : Nat) (p : Pre) (k : Int) (n : Nat), bagOk C bs ∧ C ≤ 100000 ∧ ds = [preD p, .int k, .int (n : Int)] ∧ p ≠ [] ∧ p.length ≤ 500 ∧ ∀ (q : Pre) cs, q.length ≤ p.length + 1 → bagOk (C + 3) cs → A (preD q) cs
def fs_l_other_row (bs ds : List D) (A : D → List D → Prop) : Prop := ∃ (C : Nat) (r : Rw) (k : Int) (sh : Shelf) (n : Nat), bagOk C bs ∧ C ≤ 90000 ∧ ds = [rowD r, .int k, .lst (sh.map rollD), .int (n : Int)] ∧ n ≤ 3 ∧ shOk n sh ∧ r.1 ≠ [] ∧ r.1.length ≤ 400 ∧
  ∀ (q : Rw) cs, q.1.length ≤ r.1.length + 1 → bagOk (C + 5) cs → A (rowD q) cs
def fs_l_longer (ds : List D) (A : D → Prop) : Prop := ∃ (rows : List Rw) (k : Nat) (sh : Shelf) (n : Nat), ds = [.lst (rows.map rowD), .int (k : Int), .lst (sh.map rollD), .int (n : Int)] ∧ n ≤ 3 ∧ shOk n sh ∧ k < rows.length ∧ rows.length ≤ 500 ∧ (∀ r ∈ rows, r.1.length ≤ 400) ∧
  ∀ rows2 : List Rw, rows2.length ≤ 600 → (∀ r ∈ rows2, r.1.length ≤ 401) → A (.lst (rows2.map rowD))
def fs_l_changed (bs ds : List D) (A : D → List D → Prop) : Prop := ∃ (C : Nat) (rows : List Rw) (k : Nat) (sh : Shelf) (n : Nat), bagOk C bs ∧ C ≤ 10000 ∧ ds = [.tup (rows.map rowD), .int (k : Int), .lst (sh.map rollD), .int (n : Int)] ∧ n ≤ 3 ∧ shOk n sh ∧ k ≤ 10 ∧ rows.length ≤ 400 ∧ (∀ r ∈ rows, r.1 ≠ [] ∧ r.1.length ≤ 300) ∧
  ∀ (rows2 : List Rw) cs, rows2.length ≤ 600 → (∀ r ∈ rows2, r.1.length ≤ 401) → bagOk (C + 20) cs → A (.lst (rows2.map rowD)) cs
def fs_l_judged_right (bs ds : List D) (A : D → List D → Prop) : Prop := ∃ (rows : List Rw) (b : Bool) (sh : Shelf) (n : Nat), bagOk 62 bs ∧ ds = [cutOf rows, .lst (sh.map rollD), seqD b (sh.map rollD), .int (n : Int), .lst (((fullRows n).filter fun t => uns t sh).map preD)] ∧ n ≤ 3 ∧ shOk n sh ∧ rows.length ≤ 400 ∧
  (∀ r ∈ rows, r.1 ≠ [] ∧ r.1.length ≤ 300) ∧ judge sh n rows = true ∧ (∀ rows2 : List Rw, judge sh n rows2 = due rows2 sh n ((fullRows n).filter fun t => uns t sh)) ∧ ∀ cs, A (.bl true) cs
def fs_law (ds : List D) (A : D → Prop) : Prop := ∃ ns : List Int, ds = [.scr ns] ∧ ns.length ≤ 63 ∧ A (.bl true)
end Ab
set_option maxHeartbeats 4000000
namespace Ab
open PySem PySem.Spec PyProof.Rows L2
/-! each def's body as an abstract reading (printed by gen.py) -/
def as_is_integer : AS := (aRet (aAndV (aIsi .int (aVar 0)) (aNotV (aIsi .bool (aVar 0)))))
def as_is_term : AS := (aSeq (aIf (aOr (aNot (aB (aIsi .tuple (aVar 0)))) (aB (aOp fNe (aCB fLen (aCons (aVar 0) aNil)) (aC (.int 2))))) (aRet (aC (.bl false))) aNext)
  (aSeq (aSetG (aVar 0) (agTup [1, 2]))
  (aSeq (aIf (aOr (aNot (aB (aCall fs_is_integer (aCons (aVar 1) aNil)))) (aNot (aB (aCall fs_is_integer (aCons (aVar 2) aNil))))) (aRet (aC (.bl false))) aNext)
  (aRet (aAndV (aChain fLe fLe (aC (.int 0)) (aVar 1) (aC (.int 3))) (aOp (fIn false) (aVar 2) (aTup (aCons (aC (.int 1)) (aCons (aUn fNeg (aC (.int 1))) aNil)))))))))
def as_terms_behind : AS := (aSeq (aSet 2 (aFrz (aLc (aiSeq (aVar 0)) (agTup [3, 4]) aYes (aVar 3) [3, 4])))
  (aRet (aFrz (aLc2 (aiR1 (aCons (aVar 1) aNil)) (agName 3) (aB (aOp (fIn true) (aVar 3) (aVar 2))) (aiSeq (aTup (aCons (aC (.int 1)) (aCons (aUn fNeg (aC (.int 1))) aNil)))) (agName 4) aYes (aTup (aCons (aVar 3) (aCons (aVar 4) aNil))) [3, 4] [4]))))
def as_term_rows : AS := (aSeq (aSet 1 (aFrz (aLst (aCons (aTup aNil) aNil))))
  (aSeq (aWhile (aB (aOp fLt (aCB fLen (aCons (aOp fIx (aVar 1) (aC (.int 0))) aNil)) (aVar 0))) (aSet 1 (aFrz (aLc2 (aiSeq (aVar 1)) (agName 2) aYes (aiSeq (aCall fs_terms_behind (aCons (aVar 2) (aCons (aVar 0) aNil)))) (agName 3) aYes (aOp fAdd (aVar 2) (aTup (aCons (aVar 3) aNil))) [2, 3] [3]))))
  (aRet (aCB fTup (aCons (aVar 1) aNil)))))
def as_compare_by : AS := (aSeq (aFor (aiSeq (aVar 0)) (agTup [3, 4]) (aIf (aB (aOp fNe (aOp fIx (aVar 1) (aVar 3)) (aOp fIx (aVar 2) (aVar 3)))) (aSeq (aIf (aB (aOp fEq (aOp fLt (aOp fIx (aVar 1) (aVar 3)) (aOp fIx (aVar 2) (aVar 3))) (aOp fEq (aVar 4) (aC (.int 1))))) (aRet (aUn fNeg (aC (.int 1)))) aNext)
  (aRet (aC (.int 1)))) aNext))
  (aRet (aC (.int 0))))
def as_RuleInit (c : Cl) : AS := (aSeq (aSetO 2 (aLst aNil))
  (aSeq (aFor (aiEnum (aCons (aVar 1) aNil)) (agTup [3, 4]) (aSeq (aIf (aOr (aNot (aB (aCall fs_is_term (aCons (aVar 4) aNil)))) (aB (aOpMR (fIn false) (aOp fIx (aVar 4) (aC (.int 0))) 2))) aNever aNext)
  (aApp 2 (aOp fIx (aVar 4) (aC (.int 0))))))
  (aFld c.CR "terms" (aCB fTup (aCons (aVar 1) aNil)))))
def as_all_rules : AS := (aRet (aFrz (aLc (aiSeq (aCall fs_term_rows (aCons (aVar 0) aNil))) (agName 1) aYes (aCall (fun ds A => fs_RuleInit ds fun z => A (.rule z)) (aCons (aVar 1) aNil)) [1])))
def as_is_sorted : AS := (aSeq (aFor (aiR1 (aCons (aOp fSub (aCB fLen (aCons (aVar 1) aNil)) (aC (.int 1))) aNil)) (agName 2) (aIf (aB (aOp fEq (aCall fs_compare_by (aCons (aVar 0) (aCons (aOp fIx (aVar 1) (aVar 2)) (aCons (aOp fIx (aVar 1) (aOp fAdd (aVar 2) (aC (.int 1)))) aNil)))) (aC (.int 1)))) (aRet (aC (.bl false))) aNext))
  (aRet (aC (.bl true))))
def as_fitting_rules : AS := (aRet (aFrz (aLc (aiSeq (aCall fs_all_rules (aCons (aVar 1) aNil))) (agName 2) (aB (aCall fs_is_sorted (aCons (aUn fTerms (aVar 2)) (aCons (aVar 0) aNil)))) (aVar 2) [2])))
def as_is_shut_by : AS := (aSeq (aFor (aiSeq (aSl (aVar 0) aNoP (aPart (aUn fNeg (aC (.int 1)))))) (agTup [3, 4]) (aIf (aB (aOp fNe (aOp fIx (aVar 1) (aVar 3)) (aOp fIx (aVar 2) (aVar 3)))) (aRet (aC (.bl false))) aNext))
  (aRet (aOp fEq (aCall fs_compare_by (aCons (aSl (aVar 0) (aPart (aUn fNeg (aC (.int 1)))) aNoP) (aCons (aVar 1) (aCons (aVar 2) aNil)))) (aC (.int 1)))))
def as_least_pair : AS := (aSeq (aFor (aiR1 (aCons (aCB fLen (aCons (aVar 1) aNil)) aNil)) (agName 2) (aFor (aiR2 (aCons (aOp fAdd (aVar 2) (aC (.int 1))) (aCons (aCB fLen (aCons (aVar 1) aNil)) aNil))) (agName 3) (aIf (aB (aCall fs_is_shut_by (aCons (aVar 0) (aCons (aOp fIx (aVar 1) (aVar 2)) (aCons (aOp fIx (aVar 1) (aVar 3)) aNil))))) (aRet (aTup (aCons (aVar 2) (aCons (aVar 3) aNil)))) aNext)))
  (aRet (aC .non)))
def as_rows_behind (fsr : List D → (D → Prop) → Prop) : AS := (aSeq (aSetO 3 (aLst aNil))
  (aSeq (aFor (aiSeq (aCall fs_terms_behind (aCons (aVar 0) (aCons (aVar 2) aNil)))) (agName 4) (aSeq (aSet 5 (aOp fAdd (aVar 0) (aTup (aCons (aVar 4) aNil))))
  (aSeq (aSet 6 (aCall fs_least_pair (aCons (aVar 5) (aCons (aVar 1) aNil))))
  (aIf (aB (aOp (fIs false) (aVar 6) (aC .non))) (aExt 3 (aCall fsr (aCons (aVar 5) (aCons (aVar 1) (aCons (aVar 2) aNil))))) (aApp 3 (aTup (aCons (aVar 5) (aCons (aOp fIx (aVar 6) (aC (.int 0))) (aCons (aOp fIx (aVar 6) (aC (.int 1))) aNil)))))))))
  (aRet (aFrz (aMove 3)))))
def as_shelf_cut : AS := (aRet (aCall fCut (aCons (aCall fs_rows_behind (aCons (aTup aNil) (aCons (aVar 0) (aCons (aVar 1) aNil)))) aNil)))
def as_is_prefix : AS := (aSeq (aFor (aiEnum (aCons (aVar 0) aNil)) (agTup [2, 3]) (aIf (aB (aOp (fIn true) (aVar 3) (aCall fs_terms_behind (aCons (aSl (aVar 0) aNoP (aPart (aVar 2))) (aCons (aVar 1) aNil))))) (aRet (aC (.bl false))) aNext))
  (aRet (aOp fGt (aCB fLen (aCons (aVar 0) aNil)) (aC (.int 0)))))
def as_is_right_row : AS := (aSeq (aSetG (aVar 0) (agTup [3, 4, 5]))
  (aSeq (aIf (aOr (aNot (aB (aCall fs_is_prefix (aCons (aVar 3) (aCons (aVar 2) aNil))))) (aNot (aB (aChain3 fLe fLt fLt (aC (.int 0)) (aVar 4) (aVar 5) (aCB fLen (aCons (aVar 1) aNil)))))) (aRet (aC (.bl false))) aNext)
  (aRet (aCall fs_is_shut_by (aCons (aVar 3) (aCons (aOp fIx (aVar 1) (aVar 4)) (aCons (aOp fIx (aVar 1) (aVar 5)) aNil)))))))
def as_begins_with_any : AS := (aSeq (aFor (aiSeq (aVar 1)) (agName 2) (aIf (aB (aOp fEq (aSl (aVar 0) aNoP (aPart (aCB fLen (aCons (aVar 2) aNil)))) (aVar 2))) (aRet (aC (.bl true))) aNext))
  (aRet (aC (.bl false))))
def as_judge_cut : AS := (aSeq (aFor (aiSeq (aUn fRows (aVar 2))) (agName 3) (aIf (aNot (aB (aCall fs_is_right_row (aCons (aVar 3) (aCons (aVar 0) (aCons (aVar 1) aNil)))))) (aRet (aC (.bl false))) aNext))
  (aSeq (aSet 4 (aFrz (aLc (aiSeq (aUn fRows (aVar 2))) (agName 3) aYes (aOp fIx (aVar 3) (aC (.int 0))) [3])))
  (aSeq (aFor (aiSeq (aCall fs_term_rows (aCons (aVar 1) aNil))) (agName 5) (aIf (aAnd (aNot (aB (aCall fs_is_sorted (aCons (aVar 5) (aCons (aVar 0) aNil))))) (aNot (aB (aCall fs_begins_with_any (aCons (aVar 5) (aCons (aVar 4) aNil)))))) (aRet (aC (.bl false))) aNext))
  (aRet (aC (.bl true))))))
def as_l_box : AS := (aSeq (aIf (aB (aOp fEq (aVar 0) (aFrz (aLst aNil)))) (aRetO (aLst (aCons (aC (.int 1)) (aCons (aC (.int 0)) (aCons (aC (.int 0)) aNil))))) aNext)
  (aSeq (aIf (aB (aOp fGe (aVar 1) (aCB fLen (aCons (aVar 0) aNil)))) (aRetO (aLst (aCons (aC (.int 0)) (aCons (aOp fAdd (aOp fMod (aCB fInt (aCons (aOp fIx (aVar 0) (aC (.int 0))) aNil)) (aC (.int 1000003))) (aVar 1)) (aCons (aOp fMul (aC (.int 31)) (aVar 1)) aNil))))) aNext)
  (aSeq (aIf (aB (aOp fGe (aOp fIx (aVar 0) (aVar 1)) (aOp fPow (aC (.int 10)) (aC (.int 18))))) (aRetO (aLst (aCons (aC (.int 1)) (aCons (aOp fSub (aOp fIx (aVar 0) (aVar 1)) (aOp fPow (aC (.int 10)) (aC (.int 18)))) (aCons (aC (.int 0)) aNil))))) aNext)
  (aRetO (aLst (aCons (aC (.int 0)) (aCons (aOp fMod (aCB fInt (aCons (aOp fIx (aVar 0) (aVar 1)) aNil)) (aC (.int 2147483647))) (aCons (aOp fMul (aC (.int 31)) (aVar 1)) aNil))))))))
def as_l_take : AS := (aSeq (aIf (aB (aOp fEq (aIxM 0 (aC (.int 0))) (aC (.int 1)))) (aSeq (aSet 2 (aOp fMod (aCB fInt (aCons (aIxM 0 (aC (.int 1))) aNil)) (aVar 1)))
  (aSeq (aPut 0 (aC (.int 1)) (aOp fDiv (aIxM 0 (aC (.int 1))) (aVar 1)))
  (aRet (aVar 2)))) aNext)
  (aSeq (aPut 0 (aC (.int 2)) (aOp fAdd (aIxM 0 (aC (.int 2))) (aC (.int 1))))
  (aSeq (aSet 3 (aOp fAdd (aOp fAdd (aOp fAdd (aOp fMul (aIxM 0 (aC (.int 1))) (aC (.int 48271))) (aOp fMul (aOp fMul (aIxM 0 (aC (.int 2))) (aIxM 0 (aC (.int 2)))) (aC (.int 69621)))) (aOp fMul (aIxM 0 (aC (.int 2))) (aC (.int 8191)))) (aC (.int 977))))
  (aSeq (aSet 3 (aOp fMod (aCB fInt (aCons (aVar 3) aNil)) (aC (.int 2147483647))))
  (aSeq (aSet 3 (aOp fMod (aCB fInt (aCons (aOp fAdd (aOp fMul (aVar 3) (aVar 3)) (aOp fMul (aIxM 0 (aC (.int 2))) (aC (.int 30323)))) aNil)) (aC (.int 2147483399))))
  (aRet (aOp fMod (aCB fInt (aCons (aOp fDiv (aVar 3) (aC (.int 11))) aNil)) (aVar 1))))))))
def as_l_integer : AS := (aRet (aAndV (aIsi .int (aVar 0)) (aNotV (aIsi .bool (aVar 0)))))
def as_l_value : AS := (aSeq (aSet 2 (aCallB fs_l_take 0 (aCons (aC (.int 6)) aNil)))
  (aSeq (aIf (aB (aOp fEq (aVar 2) (aC (.int 4)))) (aSeq (aSet 3 (aOp fAdd (aOp fMul (aCallB fs_l_take 0 (aCons (aOp fPow (aC (.int 10)) (aC (.int 9))) aNil)) (aOp fPow (aC (.int 10)) (aC (.int 9)))) (aCallB fs_l_take 0 (aCons (aOp fPow (aC (.int 10)) (aC (.int 9))) aNil))))
  (aRet (aOp fMul (aVar 3) (aOp fSub (aC (.int 1)) (aOp fMul (aC (.int 2)) (aCallB fs_l_take 0 (aCons (aC (.int 2)) aNil))))))) aNext)
  (aSeq (aIf (aB (aOp fEq (aVar 2) (aC (.int 5)))) (aRet (aOp fIx (aFrz (aLst (aCons (aOp fSub (aOp fPow (aC (.int 10)) (aC (.int 18))) (aC (.int 1))) (aCons (aOp fSub (aC (.int 1)) (aOp fPow (aC (.int 10)) (aC (.int 18)))) (aCons (aOp fSub (aOp fPow (aC (.int 10)) (aC (.int 18))) (aC (.int 2))) (aCons (aOp fSub (aC (.int 2)) (aOp fPow (aC (.int 10)) (aC (.int 18)))) aNil)))))) (aCallB fs_l_take 0 (aCons (aC (.int 4)) aNil)))) aNext)
  (aRet (aOp fAdd (aVar 1) (aCallB fs_l_take 0 (aCons (aC (.int 3)) aNil)))))))
def as_l_terms : AS := (aSeq (aSetO 3 (aListRg (aVar 2)))
  (aSeq (aSetO 4 (aLst aNil))
  (aSeq (aFor (aiR1 (aCons (aVar 1) aNil)) (agName 5) (aSeq (aSet 6 (aPopM 3 (aOp fMod (aCB fInt (aCons (aCallB fs_l_take 0 (aCons (aVar 2) aNil)) aNil)) (aLenM 3))))
  (aApp 4 (aTup (aCons (aVar 6) (aCons (aOp fSub (aC (.int 1)) (aOp fMul (aC (.int 2)) (aOp fMod (aCB fInt (aCons (aOp fAdd (aVar 5) (aCallB fs_l_take 0 (aCons (aC (.int 2)) aNil))) aNil)) (aC (.int 2))))) aNil))))))
  (aRet (aFrz (aMove 4))))))
def as_l_roll : AS := (aSeq (aSetO 4 (aLst aNil))
  (aSeq (aFor (aiR1 (aCons (aVar 2) aNil)) (agName 5) (aSeq (aSet 6 (aOp fIx (aVar 3) (aOp fMod (aCB fInt (aCons (aOp fAdd (aOp fMul (aVar 1) (aOp fAdd (aVar 5) (aC (.int 1)))) (aCallB fs_l_take 0 (aCons (aC (.int 3)) aNil))) aNil)) (aC (.int 3)))))
  (aSeq (aSet 7 (aOp fAdd (aVar 6) (aOp fIx (aFrz (aLst (aCons (aC (.int 0)) (aCons (aC (.int 0)) (aCons (aC (.int 0)) (aCons (aC (.int 1)) (aCons (aUn fNeg (aC (.int 1))) aNil))))))) (aCallB fs_l_take 0 (aCons (aC (.int 5)) aNil)))))
  (aApp 4 (aCB fMax (aCons (aOp fSub (aC (.int 1)) (aOp fPow (aC (.int 10)) (aC (.int 18)))) (aCons (aCB fMin (aCons (aOp fSub (aOp fPow (aC (.int 10)) (aC (.int 18))) (aC (.int 1))) (aCons (aVar 7) aNil))) aNil)))))))
  (aFz 4 (aRet (aCB fTup (aCons (aVar 4) aNil))))))
def as_l_side : AS := (aSeq (aFor (aiSeq (aVar 0)) (agTup [3, 4]) (aIf (aB (aOp fNe (aOp fIx (aVar 1) (aVar 3)) (aOp fIx (aVar 2) (aVar 3)))) (aRet (aIfE (aB (aOp fGt (aOp fIx (aVar 1) (aVar 3)) (aOp fIx (aVar 2) (aVar 3)))) (aVar 4) (aUn fNeg (aVar 4)))) aNext))
  (aRet (aC (.int 0))))
def as_l_laid : AS := (aSeq (aSetO 2 (aLst aNil))
  (aSeq (aFor (aiSeq (aVar 1)) (agName 3) (aSeq (aSet 4 (aC (.int 0)))
  (aSeq (aForM 2 (agName 5) (aIf (aB (aOp fLe (aCall fs_l_side (aCons (aVar 0) (aCons (aVar 5) (aCons (aVar 3) aNil)))) (aC (.int 0)))) (aSet 4 (aOp fAdd (aVar 4) (aC (.int 1)))) aNext))
  (aIns 2 (aVar 4) (aVar 3)))))
  (aRetO (aMove 2))))
def as_l_shelf : AS := (aSeq (aSet 2 (aFrz (aLc (aiR1 (aCons (aC (.int 3)) aNil)) (agName 8) aYes (aCallB fs_l_value 0 (aCons (aOp fSub (aVar 8) (aC (.int 1))) aNil)) [8])))
  (aSeq (aSet 3 (aOp fIx (aFrz (aLst (aCons (aC (.int 3)) (aCons (aC (.int 0)) (aCons (aC (.int 1)) (aCons (aC (.int 2)) (aCons (aC (.int 4)) (aCons (aC (.int 5)) (aCons (aC (.int 6)) (aCons (aC (.int 7)) (aCons (aC (.int 10)) aNil))))))))))) (aCallB fs_l_take 0 (aCons (aC (.int 9)) aNil))))
  (aSeq (aSet 4 (aFrz (aLc (aiR1 (aCons (aVar 3) aNil)) (agName 8) aYes (aCallB fs_l_roll 0 (aCons (aVar 8) (aCons (aVar 1) (aCons (aVar 2) aNil)))) [8])))
  (aSeq (aSet 5 (aCallB fs_l_take 0 (aCons (aC (.int 5)) aNil)))
  (aSeq (aIf (aB (aOp fEq (aVar 5) (aC (.int 3)))) (aRet (aVar 4)) aNext)
  (aSeq (aSetO 4 (aCallO fs_l_laid (aCons (aCallB fs_l_terms 0 (aCons (aVar 1) (aCons (aVar 1) aNil))) (aCons (aVar 4) aNil))))
  (aSeq (aIf (aAnd (aB (aOp fEq (aVar 5) (aC (.int 4)))) (aB (aOpM fNe 4 (aFrz (aLst aNil))))) (aSeq (aSet 6 (aCallB fs_l_take 0 (aCons (aLenM 4) aNil)))
  (aSeq (aSet 7 (aPopM 4 (aC (.int 0))))
  (aIns 4 (aVar 6) (aVar 7)))) aNext)
  (aRet (aFrz (aMove 4))))))))))
def as_l_full : AS := (aSeq (aSet 1 (aFrz (aLst (aCons (aFrz (aLst aNil)) aNil))))
  (aSeq (aFor (aiR1 (aCons (aVar 0) aNil)) (agName 2) (aSeq (aSetO 3 (aLst aNil))
  (aSeq (aFor (aiSeq (aVar 1)) (agName 4) (aSeq (aSet 5 (aFrz (aLc (aiSeq (aVar 4)) (agName 7) aYes (aOp fDiv (aVar 7) (aC (.int 2))) [7])))
  (aFor (aiR1 (aCons (aOp fMul (aC (.int 2)) (aVar 0)) aNil)) (agName 6) (aIf (aB (aOp (fIn true) (aOp fDiv (aVar 6) (aC (.int 2))) (aVar 5))) (aApp 3 (aOp fAdd (aVar 4) (aFrz (aLst (aCons (aVar 6) aNil))))) aNext))))
  (aSet 1 (aFrz (aMove 3))))))
  (aRet (aFrz (aLc (aiSeq (aVar 1)) (agName 4) aYes (aCB fTup (aCons (aFrz (aLc (aiSeq (aVar 4)) (agName 6) aYes (aTup (aCons (aOp fDiv (aVar 6) (aC (.int 2))) (aCons (aOp fSub (aC (.int 1)) (aOp fMul (aC (.int 2)) (aOp fMod (aCB fInt (aCons (aVar 6) aNil)) (aC (.int 2))))) aNil))) [6])) aNil)) [4])))))
def as_l_unsorted : AS := (aSeq (aFor (aiR1 (aCons (aCB fLen (aCons (aVar 1) aNil)) aNil)) (agName 2) (aFor (aiR2 (aCons (aOp fAdd (aVar 2) (aC (.int 1))) (aCons (aCB fLen (aCons (aVar 1) aNil)) aNil))) (agName 3) (aIf (aB (aOp fGt (aCall fs_l_side (aCons (aVar 0) (aCons (aOp fIx (aVar 1) (aVar 2)) (aCons (aOp fIx (aVar 1) (aVar 3)) aNil)))) (aC (.int 0)))) (aRet (aC (.bl true))) aNext)))
  (aRet (aC (.bl false))))
def as_l_rules_are : AS := (aSeq (aIf (aOr (aNot (aB (aIsi .list (aVar 0)))) (aB (aOp fNe (aCB fLen (aCons (aVar 0) aNil)) (aCB fLen (aCons (aVar 1) aNil))))) (aRet (aC (.bl false))) aNext)
  (aSeq (aFor (aiR1 (aCons (aCB fLen (aCons (aVar 1) aNil)) aNil)) (agName 2) (aSeq (aIf (aOr (aNot (aB (aIsRule (aOp fIx (aVar 0) (aVar 2))))) (aNot (aB (aIsi .tuple (aUn fTerms (aOp fIx (aVar 0) (aVar 2))))))) (aRet (aC (.bl false))) aNext)
  (aSeq (aIf (aB (aOp fNe (aUn fTerms (aOp fIx (aVar 0) (aVar 2))) (aOp fIx (aVar 1) (aVar 2)))) (aRet (aC (.bl false))) aNext)
  (aFor (aiSeq (aUn fTerms (aOp fIx (aVar 0) (aVar 2)))) (agName 3) (aIf (aOr (aNot (aB (aIsi .tuple (aVar 3)))) (aOr (aNot (aB (aCall fs_l_integer (aCons (aOp fIx (aVar 3) (aC (.int 0))) aNil)))) (aNot (aB (aCall fs_l_integer (aCons (aOp fIx (aVar 3) (aC (.int 1))) aNil)))))) (aRet (aC (.bl false))) aNext)))))
  (aRet (aC (.bl true)))))
def as_l_row_kind : AS := (aSeq (aIf (aOr (aNot (aB (aIsi .tuple (aVar 0)))) (aOr (aB (aOp fNe (aCB fLen (aCons (aVar 0) aNil)) (aC (.int 3)))) (aNot (aB (aIsi .tuple (aOp fIx (aVar 0) (aC (.int 0)))))))) (aRet (aC (.bl false))) aNext)
  (aSeq (aFor (aiSeq (aOp fIx (aVar 0) (aC (.int 0)))) (agName 1) (aSeq (aIf (aOr (aNot (aB (aIsi .tuple (aVar 1)))) (aB (aOp fNe (aCB fLen (aCons (aVar 1) aNil)) (aC (.int 2))))) (aRet (aC (.bl false))) aNext)
  (aIf (aOr (aNot (aB (aCall fs_l_integer (aCons (aOp fIx (aVar 1) (aC (.int 0))) aNil)))) (aNot (aB (aCall fs_l_integer (aCons (aOp fIx (aVar 1) (aC (.int 1))) aNil))))) (aRet (aC (.bl false))) aNext)))
  (aRet (aAndV (aCall fs_l_integer (aCons (aOp fIx (aVar 0) (aC (.int 1))) aNil)) (aCall fs_l_integer (aCons (aOp fIx (aVar 0) (aC (.int 2))) aNil))))))
def as_l_right : AS := (aSeq (aSetG (aVar 0) (agTup [3, 4, 5]))
  (aSeq (aSetO 6 (aLst aNil))
  (aSeq (aFor (aiSeq (aVar 3)) (agTup [7, 8]) (aSeq (aIf (aOr (aB (aOp fLt (aVar 7) (aC (.int 0)))) (aOr (aB (aOp fGe (aVar 7) (aVar 2))) (aOr (aB (aOpMR (fIn false) (aVar 7) 6)) (aB (aOp (fIn true) (aVar 8) (aFrz (aLst (aCons (aC (.int 1)) (aCons (aUn fNeg (aC (.int 1))) aNil))))))))) (aRet (aC (.bl false))) aNext)
  (aApp 6 (aVar 7))))
  (aSeq (aIf (aOr (aB (aOpM fEq 6 (aFrz (aLst aNil)))) (aOr (aB (aOp fLt (aVar 4) (aC (.int 0)))) (aOr (aB (aOp fGe (aVar 4) (aVar 5))) (aB (aOp fGe (aVar 5) (aCB fLen (aCons (aVar 1) aNil))))))) (aRet (aC (.bl false))) aNext)
  (aSeq (aIf (aB (aOp fNe (aCall fs_l_side (aCons (aSl (aVar 3) aNoP (aPart (aUn fNeg (aC (.int 1))))) (aCons (aOp fIx (aVar 1) (aVar 4)) (aCons (aOp fIx (aVar 1) (aVar 5)) aNil)))) (aC (.int 0)))) (aRet (aC (.bl false))) aNext)
  (aRet (aOp fGt (aCall fs_l_side (aCons (aSl (aVar 3) (aPart (aUn fNeg (aC (.int 1)))) aNoP) (aCons (aOp fIx (aVar 1) (aVar 4)) (aCons (aOp fIx (aVar 1) (aVar 5)) aNil)))) (aC (.int 0)))))))))
def as_l_least : AS := (aSeq (aSet 3 (aOp fIx (aVar 0) (aC (.int 0))))
  (aSeq (aFor (aiR1 (aCons (aCB fLen (aCons (aVar 1) aNil)) aNil)) (agName 4) (aFor (aiR2 (aCons (aOp fAdd (aVar 4) (aC (.int 1))) (aCons (aCB fLen (aCons (aVar 1) aNil)) aNil))) (agName 5) (aFor (aiR2 (aCons (aC (.int 1)) (aCons (aOp fAdd (aCB fLen (aCons (aVar 3) aNil)) (aC (.int 1))) aNil))) (agName 6) (aSeq (aSet 7 (aCall fs_l_right (aCons (aTup (aCons (aSl (aVar 3) aNoP (aPart (aVar 6))) (aCons (aVar 4) (aCons (aVar 5) aNil)))) (aCons (aVar 1) (aCons (aVar 2) aNil)))))
  (aIf (aAnd (aB (aVar 7)) (aOr (aB (aOp fLt (aVar 6) (aCB fLen (aCons (aVar 3) aNil)))) (aB (aOp fLt (aTup (aCons (aVar 4) (aCons (aVar 5) aNil))) (aTup (aCons (aOp fIx (aVar 0) (aC (.int 1))) (aCons (aOp fIx (aVar 0) (aC (.int 2))) aNil))))))) (aRet (aC (.bl false))) aNext)))))
  (aRet (aC (.bl true)))))
def as_l_cut_right : AS := (aSeq (aSet 3 (aFrz (aLst aNil)))
  (aSeq (aFor (aiSeq (aVar 0)) (agName 4) (aSeq (aIf (aOr (aNot (aB (aCall fs_l_row_kind (aCons (aVar 4) aNil)))) (aNot (aB (aCall fs_l_right (aCons (aVar 4) (aCons (aVar 1) (aCons (aVar 2) aNil))))))) (aRet (aC (.bl false))) aNext)
  (aSeq (aSet 5 (aFrz (aLc (aiSeq (aOp fIx (aVar 4) (aC (.int 0)))) (agName 6) aYes (aOp fAdd (aOp fMul (aC (.int 2)) (aOp fIx (aVar 6) (aC (.int 0)))) (aCB fInt (aCons (aOp fLt (aOp fIx (aVar 6) (aC (.int 1))) (aC (.int 0))) aNil))) [6])))
  (aSeq (aIf (aOr (aB (aOp fLe (aVar 5) (aVar 3))) (aNot (aB (aCall fs_l_least (aCons (aVar 4) (aCons (aVar 1) (aCons (aVar 2) aNil))))))) (aRet (aC (.bl false))) aNext)
  (aSet 3 (aVar 5))))))
  (aRet (aC (.bl true)))))
def as_l_begun : AS := (aRet (aFrz (aLc (aiSeq (aVar 0)) (agName 2) (aB (aOp fEq (aSl (aVar 1) aNoP (aPart (aCB fLen (aCons (aOp fIx (aVar 2) (aC (.int 0))) aNil)))) (aOp fIx (aVar 2) (aC (.int 0))))) (aVar 2) [2])))
def as_l_due : AS := (aSeq (aFor (aiSeq (aVar 0)) (agName 4) (aIf (aNot (aB (aCall fs_l_right (aCons (aVar 4) (aCons (aVar 1) (aCons (aVar 2) aNil)))))) (aRet (aC (.bl false))) aNext))
  (aSeq (aFor (aiSeq (aVar 3)) (agName 5) (aIf (aB (aOp fEq (aCall fs_l_begun (aCons (aVar 0) (aCons (aVar 5) aNil))) (aFrz (aLst aNil)))) (aRet (aC (.bl false))) aNext))
  (aRet (aC (.bl true)))))
def as_l_last_pair : AS := (aSeq (aSet 3 (aTup (aCons (aC (.int 0)) (aCons (aC (.int 0)) aNil))))
  (aSeq (aFor (aiR1 (aCons (aCB fLen (aCons (aVar 1) aNil)) aNil)) (agName 4) (aFor (aiR2 (aCons (aOp fAdd (aVar 4) (aC (.int 1))) (aCons (aCB fLen (aCons (aVar 1) aNil)) aNil))) (agName 5) (aIf (aB (aCall fs_l_right (aCons (aTup (aCons (aVar 0) (aCons (aVar 4) (aCons (aVar 5) aNil)))) (aCons (aVar 1) (aCons (aVar 2) aNil))))) (aSet 3 (aTup (aCons (aVar 4) (aCons (aVar 5) aNil)))) aNext)))
  (aRet (aVar 3))))
def as_l_other_prefix : AS := (aSeq (aSet 4 (aOp fIx (aFrz (aLst (aCons (aC (.int 0)) (aCons (aUn fNeg (aC (.int 1))) (aCons (aC (.int 1)) (aCons (aC (.int 2)) (aCons (aC (.int 3)) (aCons (aOp fSub (aOp fPow (aC (.int 10)) (aC (.int 18))) (aC (.int 1))) (aCons (aVar 3) aNil))))))))) (aCallB fs_l_take 0 (aCons (aC (.int 7)) aNil))))
  (aSeq (aSet 5 (aOp fIx (aFrz (aLst (aCons (aC (.int 1)) (aCons (aUn fNeg (aC (.int 1))) (aCons (aC (.int 0)) (aCons (aC (.int 2)) (aCons (aUn fNeg (aC (.int 2))) aNil))))))) (aCallB fs_l_take 0 (aCons (aC (.int 5)) aNil))))
  (aSeq (aSet 6 (aCallB fs_l_take 0 (aCons (aCB fLen (aCons (aVar 1) aNil)) aNil)))
  (aSeq (aIf (aB (aOp fEq (aVar 2) (aC (.int 0)))) (aRet (aOp fAdd (aVar 1) (aTup (aCons (aTup (aCons (aVar 4) (aCons (aVar 5) aNil))) aNil)))) aNext)
  (aSeq (aIf (aB (aOp fEq (aVar 2) (aC (.int 1)))) (aRet (aSl (aVar 1) aNoP (aPart (aUn fNeg (aC (.int 1)))))) aNext)
  (aSeq (aIf (aB (aOp fEq (aVar 2) (aC (.int 2)))) (aRet (aOp fAdd (aVar 1) (aSl (aVar 1) aNoP (aPart (aC (.int 1)))))) aNext)
  (aSeq (aIf (aB (aOp fEq (aVar 2) (aC (.int 3)))) (aRet (aOp fAdd (aOp fAdd (aSl (aVar 1) aNoP (aPart (aVar 6))) (aTup (aCons (aTup (aCons (aOp fIx (aOp fIx (aVar 1) (aVar 6)) (aC (.int 0))) (aCons (aVar 5) aNil))) aNil))) (aSl (aVar 1) (aPart (aOp fAdd (aVar 6) (aC (.int 1)))) aNoP))) aNext)
  (aRet (aOp fAdd (aOp fAdd (aSl (aVar 1) aNoP (aPart (aVar 6))) (aTup (aCons (aTup (aCons (aVar 4) (aCons (aOp fIx (aOp fIx (aVar 1) (aVar 6)) (aC (.int 1))) aNil))) aNil))) (aSl (aVar 1) (aPart (aOp fAdd (aVar 6) (aC (.int 1)))) aNoP))))))))))
def as_l_other_row : AS := (aSeq (aSetG (aVar 1) (agTup [5, 6, 7]))
  (aSeq (aSet 8 (aCB fLen (aCons (aVar 3) aNil)))
  (aSeq (aSet 9 (aOp fSub (aCallB fs_l_take 0 (aCons (aOp fAdd (aVar 8) (aC (.int 3))) aNil)) (aC (.int 1))))
  (aSeq (aSet 10 (aOp fSub (aCallB fs_l_take 0 (aCons (aOp fAdd (aVar 8) (aC (.int 3))) aNil)) (aC (.int 1))))
  (aSeq (aIf (aB (aOp fLt (aVar 2) (aC (.int 5)))) (aRet (aTup (aCons (aCallB fs_l_other_prefix 0 (aCons (aVar 5) (aCons (aVar 2) (aCons (aVar 4) aNil)))) (aCons (aVar 6) (aCons (aVar 7) aNil))))) aNext)
  (aSeq (aIf (aB (aOp fEq (aVar 2) (aC (.int 5)))) (aRet (aTup (aCons (aVar 5) (aCons (aVar 7) (aCons (aVar 6) aNil))))) aNext)
  (aSeq (aIf (aB (aOp fEq (aVar 2) (aC (.int 6)))) (aRet (aTup (aCons (aVar 5) (aCons (aOp fSub (aVar 6) (aVar 8)) (aCons (aOp fSub (aVar 7) (aVar 8)) aNil))))) aNext)
  (aSeq (aIf (aB (aOp fEq (aVar 2) (aC (.int 7)))) (aSeq (aSet 11 (aCall fs_l_last_pair (aCons (aVar 5) (aCons (aVar 3) (aCons (aVar 4) aNil)))))
  (aRet (aTup (aCons (aVar 5) (aCons (aOp fIx (aVar 11) (aC (.int 0))) (aCons (aOp fIx (aVar 11) (aC (.int 1))) aNil)))))) aNext)
  (aSeq (aIf (aB (aOp fEq (aVar 2) (aC (.int 8)))) (aRet (aTup (aCons (aVar 5) (aCons (aVar 9) (aCons (aVar 7) aNil))))) aNext)
  (aSeq (aIf (aB (aOp fEq (aVar 2) (aC (.int 9)))) (aRet (aTup (aCons (aVar 5) (aCons (aVar 6) (aCons (aVar 10) aNil))))) aNext)
  (aRet (aTup (aCons (aVar 5) (aCons (aVar 9) (aCons (aVar 10) aNil)))))))))))))))
def as_l_longer : AS := (aSeq (aSetO 4 (aLst aNil))
  (aSeq (aFor (aiR1 (aCons (aVar 3) aNil)) (agName 5) (aFor (aiSeq (aTup (aCons (aC (.int 1)) (aCons (aUn fNeg (aC (.int 1))) aNil)))) (agName 6) (aSeq (aSet 7 (aOp fAdd (aOp fIx (aOp fIx (aVar 0) (aVar 1)) (aC (.int 0))) (aTup (aCons (aTup (aCons (aVar 5) (aCons (aVar 6) aNil))) aNil))))
  (aSeq (aSet 8 (aCall fs_l_last_pair (aCons (aVar 7) (aCons (aVar 2) (aCons (aVar 3) aNil)))))
  (aIf (aB (aCall fs_l_right (aCons (aTup (aCons (aVar 7) (aCons (aOp fIx (aVar 8) (aC (.int 0))) (aCons (aOp fIx (aVar 8) (aC (.int 1))) aNil)))) (aCons (aVar 2) (aCons (aVar 3) aNil))))) (aApp 4 (aTup (aCons (aVar 7) (aCons (aOp fIx (aVar 8) (aC (.int 0))) (aCons (aOp fIx (aVar 8) (aC (.int 1))) aNil))))) aNext)))))
  (aFz 4 (aRet (aOp fAdd (aOp fAdd (aSl (aVar 0) aNoP (aPart (aVar 1))) (aVar 4)) (aSl (aVar 0) (aPart (aOp fAdd (aVar 1) (aC (.int 1)))) aNoP))))))
def as_l_changed : AS := (aSeq (aSetO 5 (aListOf (aCons (aVar 1) aNil)))
  (aSeq (aIf (aB (aOpM fEq 5 (aFrz (aLst aNil)))) (aApp 5 (aTup (aCons (aTup (aCons (aTup (aCons (aC (.int 0)) (aCons (aC (.int 1)) aNil))) aNil)) (aCons (aC (.int 0)) (aCons (aC (.int 1)) aNil))))) aNext)
  (aSeq (aSet 6 (aCallB fs_l_take 0 (aCons (aLenM 5) aNil)))
  (aSeq (aSet 7 (aOp fMod (aCB fInt (aCons (aOp fAdd (aOp fMul (aC (.int 2)) (aVar 2)) (aCallB fs_l_take 0 (aCons (aC (.int 17)) aNil))) aNil)) (aC (.int 17))))
  (aSeq (aIf (aB (aOp fLt (aVar 7) (aC (.int 11)))) (aSeq (aPut 5 (aVar 6) (aCallB fs_l_other_row 0 (aCons (aIxM 5 (aVar 6)) (aCons (aVar 7) (aCons (aVar 3) (aCons (aVar 4) aNil))))))
  (aRet (aFrz (aMove 5)))) aNext)
  (aFz 5 (aSeq (aIf (aB (aOp fEq (aVar 7) (aC (.int 11)))) (aRet (aOp fAdd (aSl (aVar 5) aNoP (aPart (aVar 6))) (aSl (aVar 5) (aPart (aOp fAdd (aVar 6) (aC (.int 1)))) aNoP))) aNext)
  (aSeq (aIf (aB (aOp fEq (aVar 7) (aC (.int 12)))) (aRet (aOp fAdd (aVar 5) (aFrz (aLst (aCons (aOp fIx (aVar 5) (aVar 6)) aNil))))) aNext)
  (aSeq (aIf (aB (aOp fEq (aVar 7) (aC (.int 13)))) (aRet (aUn fRev (aVar 5))) aNext)
  (aSeq (aIf (aB (aOp fEq (aVar 7) (aC (.int 14)))) (aRet (aFrz (aLst aNil))) aNext)
  (aSeq (aIf (aB (aOp fEq (aVar 7) (aC (.int 16)))) (aRet (aCall fs_l_longer (aCons (aVar 5) (aCons (aVar 6) (aCons (aVar 3) (aCons (aVar 4) aNil)))))) aNext)
  (aSeq (aSet 8 (aCallB fs_l_other_row 0 (aCons (aTup (aCons (aTup (aCons (aTup (aCons (aC (.int 0)) (aCons (aC (.int 1)) aNil))) aNil)) (aCons (aC (.int 0)) (aCons (aC (.int 1)) aNil)))) (aCons (aCallB fs_l_take 0 (aCons (aC (.int 11)) aNil)) (aCons (aVar 3) (aCons (aVar 4) aNil))))))
  (aRet (aOp fAdd (aOp fAdd (aSl (aVar 5) aNoP (aPart (aVar 6))) (aFrz (aLst (aCons (aVar 8) aNil)))) (aSl (aVar 5) (aPart (aVar 6)) aNoP)))))))))))))))
def as_l_judged_right : AS := (aSeq (aIf (aB (aOp (fIs true) (aCall fs_judge_cut (aCons (aVar 3) (aCons (aVar 4) (aCons (aVar 1) aNil)))) (aC (.bl true)))) (aRet (aC (.bl false))) aNext)
  (aSeq (aFor (aiR1 (aCons (aC (.int 7)) aNil)) (agName 6) (aSeq (aSet 7 (aCallB fs_l_changed 0 (aCons (aUn fRows (aVar 1)) (aCons (aVar 6) (aCons (aVar 2) (aCons (aVar 4) aNil))))))
  (aSeq (aSetO 8 (aListOf (aCons (aVar 7) aNil)))
  (aSeq (aSet 9 (aCutM 8))
  (aSeq (aClr 8 )
  (aSeq (aIf (aOr (aNot (aB (aIsi .tuple (aUn fRows (aVar 9))))) (aB (aOp fNe (aFrz (aListOf (aCons (aUn fRows (aVar 9)) aNil))) (aVar 7)))) (aRet (aC (.bl false))) aNext)
  (aSeq (aSet 10 (aCall fs_judge_cut (aCons (aVar 3) (aCons (aVar 4) (aCons (aVar 9) aNil)))))
  (aIf (aOr (aNot (aB (aIsi .bool (aVar 10)))) (aB (aOp fNe (aVar 10) (aCall fs_l_due (aCons (aVar 7) (aCons (aVar 2) (aCons (aVar 4) (aCons (aVar 5) aNil)))))))) (aRet (aC (.bl false))) aNext))))))))
  (aRet (aOp (fIs false) (aCall fs_judge_cut (aCons (aVar 3) (aCons (aVar 4) (aCons (aVar 1) aNil)))) (aC (.bl true))))))
def as_law : AS := (aSeq (aSetO 1 (aCallO fs_l_box (aCons (aVar 0) (aCons (aC (.int 0)) aNil))))
  (aSeq (aSet 2 (aOp fIx (aFrz (aLst (aCons (aC (.int 2)) (aCons (aC (.int 3)) (aCons (aC (.int 1)) (aCons (aC (.int 0)) aNil)))))) (aCallB fs_l_take 1 (aCons (aC (.int 4)) aNil))))
  (aSeq (aSet 3 (aCallB fs_l_take 1 (aCons (aC (.int 2)) aNil)))
  (aSeq (aSet 4 (aCallT fs_l_shelf (aCallO fs_l_box (aCons (aVar 0) (aCons (aC (.int 1)) aNil))) (aCons (aVar 2) aNil)))
  (aSeq (aSet 5 (aIfE (aB (aOp fEq (aVar 3) (aC (.int 1)))) (aCB fTup (aCons (aVar 4) aNil)) (aFrz (aListOf (aCons (aVar 4) aNil)))))
  (aSeq (aSet 6 (aCall fs_l_full (aCons (aVar 2) aNil)))
  (aSeq (aSet 7 (aFrz (aLc (aiSeq (aVar 6)) (agName 10) (aB (aCall fs_l_unsorted (aCons (aVar 10) (aCons (aVar 4) aNil)))) (aVar 10) [10])))
  (aSeq (aSet 8 (aFrz (aLc (aiSeq (aVar 6)) (agName 10) (aB (aOp (fIn true) (aVar 10) (aVar 7))) (aVar 10) [10])))
  (aSeq (aIf (aNot (aB (aCall fs_l_rules_are (aCons (aCall fs_fitting_rules (aCons (aVar 5) (aCons (aVar 2) aNil))) (aCons (aVar 8) aNil))))) (aRet (aC (.bl false))) aNext)
  (aSeq (aSet 9 (aCall fs_shelf_cut (aCons (aVar 5) (aCons (aVar 2) aNil))))
  (aSeq (aIf (aOr (aNot (aB (aIsCut (aVar 9)))) (aNot (aB (aIsi .tuple (aUn fRows (aVar 9)))))) (aRet (aC (.bl false))) aNext)
  (aSeq (aIf (aNot (aB (aCall fs_l_cut_right (aCons (aUn fRows (aVar 9)) (aCons (aVar 4) (aCons (aVar 2) aNil)))))) (aRet (aC (.bl false))) aNext)
  (aSeq (aFor (aiSeq (aVar 6)) (agName 10) (aIf (aB (aOp fNe (aCB fLen (aCons (aCall fs_l_begun (aCons (aUn fRows (aVar 9)) (aCons (aVar 10) aNil))) aNil)) (aCB fInt (aCons (aOp (fIn false) (aVar 10) (aVar 7)) aNil)))) (aRet (aC (.bl false))) aNext))
  (aSeq (aSet 11 (aFrz (aListOf (aCons (aUn fRows (aVar 9)) aNil))))
  (aSeq (aSet 12 (aUn fRev (aVar 4)))
  (aSeq (aSet 13 (aFrz (aLc (aiSeq (aVar 6)) (agName 10) (aB (aCall fs_l_unsorted (aCons (aVar 10) (aCons (aVar 12) aNil)))) (aVar 10) [10])))
  (aSeq (aIf (aB (aOp fNe (aCall fs_judge_cut (aCons (aVar 12) (aCons (aVar 2) (aCons (aVar 9) aNil)))) (aCall fs_l_due (aCons (aVar 11) (aCons (aVar 12) (aCons (aVar 2) (aCons (aVar 13) aNil))))))) (aRet (aC (.bl false))) aNext)
  (aSeq (aIf (aNot (aB (aCallT fs_l_judged_right (aCallO fs_l_box (aCons (aVar 0) (aCons (aC (.int 2)) aNil))) (aCons (aVar 9) (aCons (aVar 4) (aCons (aVar 5) (aCons (aVar 2) (aCons (aVar 7) aNil)))))))) (aRet (aC (.bl false))) aNext)
  (aRet (aAndV (aOp fEq (aFrz (aListOf (aCons (aUn fRows (aVar 9)) aNil))) (aVar 11)) (aOp fEq (aFrz (aListOf (aCons (aVar 5) aNil))) (aVar 4))))))))))))))))))))))
end Ab
set_option maxHeartbeats 4000000
namespace Ab
open PySem PySem.Spec PyProof.Rows L2
def topS (i : Nat) : Stmt := PySem.Challenge.pw_fittingpasts_k33_whole_rules_or_cut.main.body.getD i (.Pass ⟨0, 0, 0, 0⟩)
def retScope (s : Stmt) : Scope := match (defBody s).getLast? with
  | some (.Return (some (.ListComp _ _ sc _)) _) => sc
  | _ => { kind := .function, names := [], isGenerator := false, isCoroutine := false }
def BodyX (P : Program) (w : World) (K : PySem.W.Frag) (mg : Str → Option Value) (base : Heap) (c : Cl) (N : List Str) (qual : Str) (st : Stmt) (f : Addr) (j : Nat) (as : AS) : Prop :=
  ∀ (cdv : Value) (A : Around) (outer : List PySem.Env) (s : Shared) (H : Hp) (E : XK), Room j (A.deeper (envOfC qual (defScope st) s.heap.objs.size f cdv)) → ∃ ts, XB (cxOf CX0 P w K mg base N qual (defScope st) f cdv A outer s H E).nox ⟨K, c⟩ (defBody st) ts as
theorem BodyX.body {P : Program} {w : World} {K : PySem.W.Frag} {mg : Str → Option Value} {base : Heap} {c : Cl} {N : List Str} {qual : Str} {st : Stmt} {f : Addr} {j : Nat} {as : AS} (h : BodyX P w K mg base c N qual st f j as) : Body P w K mg base c N qual st f j as :=
  fun cdv A outer s H E hr => by
    obtain ⟨ts, b⟩ := h cdv A outer s H E hr
    exact ⟨ts, b.p, b.s⟩
theorem hu_r {A : Around} {j : Nat} (hr : Room j A) : A.units + 65 < cLine := by
  have := hr.un
  omega
abbrev N_is_integer : List Str := ["value"]
theorem sc_is_integer : FnScope N_is_integer ["value"] (defScope (topS 7)) := ⟨rfl, rfl, rfl, by decide +kernel, rfl, by decide +kernel, by decide +kernel⟩
abbrev N_is_term : List Str := ["term", "mark", "direction"]
theorem sc_is_term : FnScope N_is_term ["term"] (defScope (topS 12)) := ⟨rfl, rfl, rfl, by decide +kernel, rfl, by decide +kernel, by decide +kernel⟩
abbrev N_terms_behind : List Str := ["terms", "count", "used", "mark", "direction"]
theorem sc_terms_behind : FnScope N_terms_behind ["terms", "count"] (defScope (topS 15)) := ⟨rfl, rfl, rfl, by decide +kernel, rfl, by decide +kernel, by decide +kernel⟩
abbrev N_term_rows : List Str := ["count", "rows", "row", "term"]
theorem sc_term_rows : FnScope N_term_rows ["count"] (defScope (topS 16)) := ⟨rfl, rfl, rfl, by decide +kernel, rfl, by decide +kernel, by decide +kernel⟩
abbrev N_compare_by : List Str := ["terms", "first", "second", "mark", "direction"]
theorem sc_compare_by : FnScope N_compare_by ["terms", "first", "second"] (defScope (topS 17)) := ⟨rfl, rfl, rfl, by decide +kernel, rfl, by decide +kernel, by decide +kernel⟩
abbrev N_RuleInit : List Str := ["self", "terms", "marks", "at", "term"]
theorem sc_RuleInit : FnScope N_RuleInit ["self", "terms"] (defScope (inClass (topS 18) 0)) := ⟨rfl, rfl, rfl, by decide +kernel, rfl, by decide +kernel, by decide +kernel⟩
abbrev N_all_rules : List Str := ["count", "terms"]
theorem sc_all_rules : FnScope N_all_rules ["count"] (defScope (topS 19)) := ⟨rfl, rfl, rfl, by decide +kernel, rfl, by decide +kernel, by decide +kernel⟩
abbrev N_ShelfCutInit : List Str := ["self", "rows"]
theorem sc_ShelfCutInit : FnScope N_ShelfCutInit ["self", "rows"] (defScope (inClass (topS 21) 0)) := ⟨rfl, rfl, rfl, by decide +kernel, rfl, by decide +kernel, by decide +kernel⟩
abbrev N_is_sorted : List Str := ["terms", "shelf", "at"]
theorem sc_is_sorted : FnScope N_is_sorted ["terms", "shelf"] (defScope (topS 22)) := ⟨rfl, rfl, rfl, by decide +kernel, rfl, by decide +kernel, by decide +kernel⟩
abbrev N_fitting_rules : List Str := ["shelf", "count", "rule"]
theorem sc_fitting_rules : FnScope N_fitting_rules ["shelf", "count"] (defScope (topS 23)) := ⟨rfl, rfl, rfl, by decide +kernel, rfl, by decide +kernel, by decide +kernel⟩
abbrev N_is_shut_by : List Str := ["prefix", "first", "second", "mark", "direction"]
theorem sc_is_shut_by : FnScope N_is_shut_by ["prefix", "first", "second"] (defScope (topS 24)) := ⟨rfl, rfl, rfl, by decide +kernel, rfl, by decide +kernel, by decide +kernel⟩
abbrev N_least_pair : List Str := ["prefix", "shelf", "i", "j"]
theorem sc_least_pair : FnScope N_least_pair ["prefix", "shelf"] (defScope (topS 25)) := ⟨rfl, rfl, rfl, by decide +kernel, rfl, by decide +kernel, by decide +kernel⟩
abbrev N_rows_behind : List Str := ["prefix", "shelf", "count", "rows", "term", "longer", "pair"]
theorem sc_rows_behind : FnScope N_rows_behind ["prefix", "shelf", "count"] (defScope (topS 26)) := ⟨rfl, rfl, rfl, by decide +kernel, rfl, by decide +kernel, by decide +kernel⟩
abbrev N_shelf_cut : List Str := ["shelf", "count"]
theorem sc_shelf_cut : FnScope N_shelf_cut ["shelf", "count"] (defScope (topS 27)) := ⟨rfl, rfl, rfl, by decide +kernel, rfl, by decide +kernel, by decide +kernel⟩
abbrev N_is_prefix : List Str := ["terms", "count", "at", "term"]
theorem sc_is_prefix : FnScope N_is_prefix ["terms", "count"] (defScope (topS 28)) := ⟨rfl, rfl, rfl, by decide +kernel, rfl, by decide +kernel, by decide +kernel⟩
abbrev N_is_right_row : List Str := ["row", "shelf", "count", "prefix", "first", "second"]
theorem sc_is_right_row : FnScope N_is_right_row ["row", "shelf", "count"] (defScope (topS 29)) := ⟨rfl, rfl, rfl, by decide +kernel, rfl, by decide +kernel, by decide +kernel⟩
abbrev N_begins_with_any : List Str := ["terms", "prefixes", "prefix"]
theorem sc_begins_with_any : FnScope N_begins_with_any ["terms", "prefixes"] (defScope (topS 30)) := ⟨rfl, rfl, rfl, by decide +kernel, rfl, by decide +kernel, by decide +kernel⟩
abbrev N_judge_cut : List Str := ["shelf", "count", "cut", "row", "prefixes", "terms"]
theorem sc_judge_cut : FnScope N_judge_cut ["shelf", "count", "cut"] (defScope (topS 31)) := ⟨rfl, rfl, rfl, by decide +kernel, rfl, by decide +kernel, by decide +kernel⟩
abbrev N_l_box : List Str := ["_law_script", "_law_place"]
theorem sc_l_box : FnScope N_l_box ["_law_script", "_law_place"] (defScope (topS 33)) := ⟨rfl, rfl, rfl, by decide +kernel, rfl, by decide +kernel, by decide +kernel⟩
abbrev N_l_take : List Str := ["_law_bag", "_law_size", "_law_digit", "_law_mixed"]
theorem sc_l_take : FnScope N_l_take ["_law_bag", "_law_size"] (defScope (topS 34)) := ⟨rfl, rfl, rfl, by decide +kernel, rfl, by decide +kernel, by decide +kernel⟩
abbrev N_l_integer : List Str := ["_law_told"]
theorem sc_l_integer : FnScope N_l_integer ["_law_told"] (defScope (topS 35)) := ⟨rfl, rfl, rfl, by decide +kernel, rfl, by decide +kernel, by decide +kernel⟩
abbrev N_l_value : List Str := ["_law_bag", "_law_plain", "_law_kind", "_law_size"]
theorem sc_l_value : FnScope N_l_value ["_law_bag", "_law_plain"] (defScope (topS 36)) := ⟨rfl, rfl, rfl, by decide +kernel, rfl, by decide +kernel, by decide +kernel⟩
abbrev N_l_terms : List Str := ["_law_bag", "_law_many", "_law_marks", "_law_left", "_law_terms_here", "_law_turn", "_law_mark"]
theorem sc_l_terms : FnScope N_l_terms ["_law_bag", "_law_many", "_law_marks"] (defScope (topS 37)) := ⟨rfl, rfl, rfl, by decide +kernel, rfl, by decide +kernel, by decide +kernel⟩
abbrev N_l_roll : List Str := ["_law_bag", "_law_at", "_law_marks", "_law_pool", "_law_row", "_law_mark", "_law_value_here", "_law_near"]
theorem sc_l_roll : FnScope N_l_roll ["_law_bag", "_law_at", "_law_marks", "_law_pool"] (defScope (topS 38)) := ⟨rfl, rfl, rfl, by decide +kernel, rfl, by decide +kernel, by decide +kernel⟩
abbrev N_l_side : List Str := ["_law_terms_here", "_law_one", "_law_two", "_law_mark", "_law_direction"]
theorem sc_l_side : FnScope N_l_side ["_law_terms_here", "_law_one", "_law_two"] (defScope (topS 39)) := ⟨rfl, rfl, rfl, by decide +kernel, rfl, by decide +kernel, by decide +kernel⟩
abbrev N_l_laid : List Str := ["_law_terms_here", "_law_rolls", "_law_laid_here", "_law_roll_here", "_law_at", "_law_one"]
theorem sc_l_laid : FnScope N_l_laid ["_law_terms_here", "_law_rolls"] (defScope (topS 40)) := ⟨rfl, rfl, rfl, by decide +kernel, rfl, by decide +kernel, by decide +kernel⟩
abbrev N_l_shelf : List Str := ["_law_bag", "_law_count", "_law_pool", "_law_many", "_law_rolls", "_law_kind", "_law_place", "_law_roll_here", "_law_at"]
theorem sc_l_shelf : FnScope N_l_shelf ["_law_bag", "_law_count"] (defScope (topS 41)) := ⟨rfl, rfl, rfl, by decide +kernel, rfl, by decide +kernel, by decide +kernel⟩
abbrev N_l_full : List Str := ["_law_count", "_law_rows", "_law_turn", "_law_longer_here", "_law_row", "_law_marks", "_law_rank", "_law_one"]
theorem sc_l_full : FnScope N_l_full ["_law_count"] (defScope (topS 42)) := ⟨rfl, rfl, rfl, by decide +kernel, rfl, by decide +kernel, by decide +kernel⟩
abbrev N_l_unsorted : List Str := ["_law_terms_here", "_law_shelf_here", "_law_one", "_law_two"]
theorem sc_l_unsorted : FnScope N_l_unsorted ["_law_terms_here", "_law_shelf_here"] (defScope (topS 43)) := ⟨rfl, rfl, rfl, by decide +kernel, rfl, by decide +kernel, by decide +kernel⟩
abbrev N_l_rules_are : List Str := ["_law_told", "_law_due_here", "_law_at", "_law_term"]
theorem sc_l_rules_are : FnScope N_l_rules_are ["_law_told", "_law_due_here"] (defScope (topS 44)) := ⟨rfl, rfl, rfl, by decide +kernel, rfl, by decide +kernel, by decide +kernel⟩
abbrev N_l_row_kind : List Str := ["_law_row", "_law_term"]
theorem sc_l_row_kind : FnScope N_l_row_kind ["_law_row"] (defScope (topS 45)) := ⟨rfl, rfl, rfl, by decide +kernel, rfl, by decide +kernel, by decide +kernel⟩
abbrev N_l_right : List Str := ["_law_row", "_law_shelf_here", "_law_count", "_law_prefix", "_law_one", "_law_two", "_law_marks", "_law_mark", "_law_direction"]
theorem sc_l_right : FnScope N_l_right ["_law_row", "_law_shelf_here", "_law_count"] (defScope (topS 46)) := ⟨rfl, rfl, rfl, by decide +kernel, rfl, by decide +kernel, by decide +kernel⟩
abbrev N_l_least : List Str := ["_law_row", "_law_shelf_here", "_law_count", "_law_prefix", "_law_one", "_law_two", "_law_size", "_law_right_here"]
theorem sc_l_least : FnScope N_l_least ["_law_row", "_law_shelf_here", "_law_count"] (defScope (topS 47)) := ⟨rfl, rfl, rfl, by decide +kernel, rfl, by decide +kernel, by decide +kernel⟩
abbrev N_l_cut_right : List Str := ["_law_rows", "_law_shelf_here", "_law_count", "_law_before", "_law_row", "_law_ranks", "_law_term"]
theorem sc_l_cut_right : FnScope N_l_cut_right ["_law_rows", "_law_shelf_here", "_law_count"] (defScope (topS 48)) := ⟨rfl, rfl, rfl, by decide +kernel, rfl, by decide +kernel, by decide +kernel⟩
abbrev N_l_begun : List Str := ["_law_rows", "_law_terms_here", "_law_row"]
theorem sc_l_begun : FnScope N_l_begun ["_law_rows", "_law_terms_here"] (defScope (topS 49)) := ⟨rfl, rfl, rfl, by decide +kernel, rfl, by decide +kernel, by decide +kernel⟩
abbrev N_l_due : List Str := ["_law_rows", "_law_shelf_here", "_law_count", "_law_unfit", "_law_row", "_law_terms_here"]
theorem sc_l_due : FnScope N_l_due ["_law_rows", "_law_shelf_here", "_law_count", "_law_unfit"] (defScope (topS 50)) := ⟨rfl, rfl, rfl, by decide +kernel, rfl, by decide +kernel, by decide +kernel⟩
abbrev N_l_last_pair : List Str := ["_law_prefix", "_law_shelf_here", "_law_count", "_law_pair", "_law_one", "_law_two"]
theorem sc_l_last_pair : FnScope N_l_last_pair ["_law_prefix", "_law_shelf_here", "_law_count"] (defScope (topS 51)) := ⟨rfl, rfl, rfl, by decide +kernel, rfl, by decide +kernel, by decide +kernel⟩
abbrev N_l_other_prefix : List Str := ["_law_bag", "_law_prefix", "_law_kind", "_law_count", "_law_mark", "_law_direction", "_law_place"]
theorem sc_l_other_prefix : FnScope N_l_other_prefix ["_law_bag", "_law_prefix", "_law_kind", "_law_count"] (defScope (topS 52)) := ⟨rfl, rfl, rfl, by decide +kernel, rfl, by decide +kernel, by decide +kernel⟩
abbrev N_l_other_row : List Str := ["_law_bag", "_law_row", "_law_kind", "_law_shelf_here", "_law_count", "_law_prefix", "_law_one", "_law_two", "_law_many", "_law_low", "_law_high", "_law_pair"]
theorem sc_l_other_row : FnScope N_l_other_row ["_law_bag", "_law_row", "_law_kind", "_law_shelf_here", "_law_count"] (defScope (topS 53)) := ⟨rfl, rfl, rfl, by decide +kernel, rfl, by decide +kernel, by decide +kernel⟩
abbrev N_l_longer : List Str := ["_law_rows", "_law_place", "_law_shelf_here", "_law_count", "_law_found", "_law_mark", "_law_direction", "_law_prefix", "_law_pair"]
theorem sc_l_longer : FnScope N_l_longer ["_law_rows", "_law_place", "_law_shelf_here", "_law_count"] (defScope (topS 54)) := ⟨rfl, rfl, rfl, by decide +kernel, rfl, by decide +kernel, by decide +kernel⟩
abbrev N_l_changed : List Str := ["_law_bag", "_law_cut_rows", "_law_turn", "_law_shelf_here", "_law_count", "_law_rows", "_law_place", "_law_kind", "_law_other"]
theorem sc_l_changed : FnScope N_l_changed ["_law_bag", "_law_cut_rows", "_law_turn", "_law_shelf_here", "_law_count"] (defScope (topS 55)) := ⟨rfl, rfl, rfl, by decide +kernel, rfl, by decide +kernel, by decide +kernel⟩
abbrev N_l_judged_right : List Str := ["_law_bag", "_law_told", "_law_shelf_here", "_law_handed", "_law_count", "_law_unfit", "_law_turn", "_law_rows", "_law_given", "_law_cut", "_law_judged"]
theorem sc_l_judged_right : FnScope N_l_judged_right ["_law_bag", "_law_told", "_law_shelf_here", "_law_handed", "_law_count", "_law_unfit"] (defScope (topS 56)) := ⟨rfl, rfl, rfl, by decide +kernel, rfl, by decide +kernel, by decide +kernel⟩
abbrev N_law : List Str := ["_law_script", "_law_bag", "_law_count", "_law_way", "_law_shelf_here", "_law_handed", "_law_full_here", "_law_unfit", "_law_fit", "_law_told", "_law_terms_here", "_law_kept", "_law_back", "_law_other"]
theorem sc_law : FnScope N_law ["_law_script"] (defScope (topS 57)) := ⟨rfl, rfl, rfl, by decide +kernel, rfl, by decide +kernel, by decide +kernel⟩
end Ab
set_option maxHeartbeats 4000000
namespace Ab
open PySem PySem.Spec PyProof.Rows L2
section
variable {P : Program} {w : World} {K : PySem.W.Frag} {mg : Str → Option Value} {base : Heap} {c : Cl} {f : Addr}
theorem bd_is_integer (B : Bi mg)  : BodyX P w K mg base c N_is_integer "is_integer" (topS 7) f 0 as_is_integer := by
  intro cdv A outer s H E hr
  have hu := hu_r hr
  exact ⟨_, (bone (sret (xand (xisi .int B (xv 0) B.int (by decide +kernel)) (xone (xnot (xisi .bool B (xv 0) B.bool (by decide +kernel)))))))⟩
theorem bd_is_term (B : Bi mg) (D_is_integer : Df P w K mg base "is_integer" 1 ["value"] (spD ⟨K, c⟩ fs_is_integer)) (hGM : ∃ t, mg "GREATEST_MARK" = some (.int 3 t)) : BodyX P w K mg base c N_is_term "is_term" (topS 12) f 1 as_is_term := by
  intro cdv A outer s H E hr
  obtain ⟨_, hGM⟩ := hGM
  have hu := hu_r hr
  exact ⟨_, (bcons (sif (tw (wor (tnot (tval (xisi .tuple B (xv 0) B.tuple (by decide +kernel)))) (wor1 (tcmp (x_ne hu) (xlen B (acons (xv 0) anil)) xi)))) (bone (sret xb)) bnil)
  (bcons (ssetG (xv 0) (gt (n := 2) [1, 2] (gsc 1 (gnp 1 sc_is_term.nd) (gsc 2 (gnp 2 sc_is_term.nd) gsn))))
  (bcons (sif (tw (wor (tnot (tval (xcall D_is_integer (hr.mono (by decide)) (acons (xv 1) anil)))) (wor1 (tnot (tval (xcall D_is_integer (hr.mono (by decide)) (acons (xv 2) anil))))))) (bone (sret xb)) bnil)
  (bone (sret (xand (xchain (x_le hu) (x_le hu) xi (xv 1) (xg hGM)) (xone (xcmp (x_in hu) (xv 2) (xtup (acons xi (acons (xneg xi) anil)))))))))))⟩
theorem bd_terms_behind (B : Bi mg)  : BodyX P w K mg base c N_terms_behind "terms_behind" (topS 15) f 0 as_terms_behind := by
  intro cdv A outer s H E hr
  have hu := hu_r hr
  exact ⟨_, (bcons (sset 2 sc_terms_behind.nd (xfrz (olc (own := [("mark", 3), ("direction", 4)]) sc_terms_behind.nd (iseq (xv 0)) (by exact fun _ _ _ _ _ => (gt (n := 2) [3, 4] (gsc 3 (gnp 3 sc_terms_behind.nd) (gsc 4 (gnp 4 sc_terms_behind.nd) gsn)))) (by exact fun _ _ _ _ _ => tsnil) (by exact fun _ _ _ _ _ => (xv 3)) (blkOk_by (own := [("mark", 3), ("direction", 4)]) (N := N_terms_behind) (sc := defScope (topS 15)) (by decide +kernel)) (by decide) (by rfl) (by rfl) (by intro _; rfl))))
  (bone (sret (xfrz (olc2 (own := [("mark", 3), ("direction", 4)]) (vs1 := [4]) sc_terms_behind.nd (ir1 B (acons (xv 1) anil)) (by exact fun _ _ _ _ _ => (gn 3 sc_terms_behind.nd)) (by exact fun _ _ _ _ _ => (tsone (tcmp (x_notin hu) (xv 3) (xv 2)))) (by exact fun _ _ _ _ _ => (iseq (xtup (acons xi (acons (xneg xi) anil))))) (by exact fun _ _ _ _ _ => (gn 4 sc_terms_behind.nd)) (by exact fun _ _ _ _ _ => tsnil) (by exact fun _ _ _ _ _ => (xtup (acons (xv 3) (acons (xv 4) anil)))) (blkOk_by (own := [("mark", 3), ("direction", 4)]) (N := N_terms_behind) (sc := defScope (topS 15)) (by decide +kernel)) (by decide) (by decide) (by decide) (by rfl) (by rfl) (by intro _; rfl) (by intro _ _; rfl))))))⟩
theorem bd_term_rows (B : Bi mg) (D_terms_behind : Df P w K mg base "terms_behind" 1 ["terms", "count"] (spD ⟨K, c⟩ fs_terms_behind)) : BodyX P w K mg base c N_term_rows "term_rows" (topS 16) f 1 as_term_rows := by
  intro cdv A outer s H E hr
  have hu := hu_r hr
  exact ⟨_, (bcons (sset 1 sc_term_rows.nd (xfrz (olst (acons (xtup anil) anil))))
  (bcons (swhile (tcmp (x_lt hu) (xlen B (acons (xix (xv 1) xi) anil)) (xv 0)) (bone (slc2 (i := 1) (own := [("row", 2), ("term", 3)]) (vs1 := [3]) sc_term_rows.nd (iseq (xv 1)) (by exact fun _ _ _ _ _ => (gn 2 sc_term_rows.nd)) (by exact fun _ _ _ _ _ => tsnil) (by exact fun _ _ _ _ _ => (iseq (xcall D_terms_behind (hr.mono (by decide)) (acons (xv 2) (acons (xv 0) anil))))) (by exact fun _ _ _ _ _ => (gn 3 sc_term_rows.nd)) (by exact fun _ _ _ _ _ => tsnil) (by exact fun _ _ _ _ _ => (xbin x_add (xv 2) (xtup (acons (xv 3) anil)))) (blkOk_by (own := [("row", 2), ("term", 3)]) (N := N_term_rows) (sc := defScope (topS 16)) (by decide +kernel)) (by decide) (by decide) (by decide) (sw_true rfl rfl rfl (by decide +kernel)) (by rfl) (by rfl) (by rfl) (by rfl) (by intro _; rfl) (by intro _ _; rfl))))
  (bone (sret (xtuple B (acons (xv 1) anil))))))⟩
theorem bd_compare_by (B : Bi mg)  : BodyX P w K mg base c N_compare_by "compare_by" (topS 17) f 0 as_compare_by := by
  intro cdv A outer s H E hr
  have hu := hu_r hr
  exact ⟨_, (bcons (sfor (iseq (xv 0)) (gt (n := 2) [3, 4] (gsc 3 (gnp 3 sc_compare_by.nd) (gsc 4 (gnp 4 sc_compare_by.nd) gsn))) (bone (sif (tcmp (x_ne hu) (xix (xv 1) (xv 3)) (xix (xv 2) (xv 3))) (bcons (sif (tcmp (x_eq hu) (xcmp (x_lt hu) (xix (xv 1) (xv 3)) (xix (xv 2) (xv 3))) (xcmp (x_eq hu) (xv 4) xi)) (bone (sret (xneg xi))) bnil)
  (bone (sret xi))) bnil)))
  (bone (sret xi)))⟩
theorem bd_RuleInit (B : Bi mg) (D_is_term : Df P w K mg base "is_term" 2 ["term"] (spD ⟨K, c⟩ fs_is_term)) (hFR : ClF K c.CR "terms") : BodyX P w K mg base c N_RuleInit "Rule.__init__" (inClass (topS 18) 0) f 2 (as_RuleInit c) := by
  intro cdv A outer s H E hr
  have hu := hu_r hr
  exact ⟨_, (bcons (ssetO 2 sc_RuleInit.nd (olst anil))
  (bcons (sfor (ienum B (acons (xv 1) anil)) (gt (n := 2) [3, 4] (gsc 3 (gnp 3 sc_RuleInit.nd) (gsc 4 (gnp 4 sc_RuleInit.nd) gsn))) (bcons (sif (tw (wor (tnot (tval (xcall D_is_term (hr.mono (by decide)) (acons (xv 4) anil)))) (wor1 (tcmpR 2 (x_in hu) (xix (xv 4) xi) (xv 2))))) (bone snever) bnil)
  (bone (sapp 2 (xv 2) (xix (xv 4) xi)))))
  (bone (sfld hFR.cl hFR.nf (xv 0) (xtuple B (acons (xv 1) anil))))))⟩
end
end Ab
set_option maxHeartbeats 4000000
namespace Ab
open PySem PySem.Spec PyProof.Rows L2
section
variable {P : Program} {w : World} {K : PySem.W.Frag} {mg : Str → Option Value} {base : Heap} {c : Cl} {f : Addr}
theorem bd_all_rules (B : Bi mg) (D_RuleInit : Dm P w K mg base "Rule" c.CR 3 ["self", "terms"] (spN ⟨K, c⟩ c.CR "terms" fs_RuleInit)) (D_term_rows : Df P w K mg base "term_rows" 2 ["count"] (spD ⟨K, c⟩ fs_term_rows)) : BodyX P w K mg base c N_all_rules "all_rules" (topS 19) f 4 as_all_rules := by
  intro cdv A outer s H E hr
  have hu := hu_r hr
  exact ⟨_, (bone (sret (xfrz (olc (own := [("terms", 1)]) sc_all_rules.nd (iseq (xcall D_term_rows (hr.mono (by decide)) (acons (xv 0) anil))) (by exact fun _ _ _ _ _ => (gn 1 sc_all_rules.nd)) (by exact fun _ _ _ _ _ => tsnil) (by exact fun _ _ _ _ _ => (xmkRule D_RuleInit (hr.mono (by decide)) (acons (xv 1) anil))) (blkOk_by (own := [("terms", 1)]) (N := N_all_rules) (sc := defScope (topS 19)) (by decide +kernel)) (by decide) (by rfl) (by rfl) (by intro _; rfl)))))⟩
theorem bd_is_sorted (B : Bi mg) (D_compare_by : Df P w K mg base "compare_by" 1 ["terms", "first", "second"] (spD ⟨K, c⟩ fs_compare_by)) : BodyX P w K mg base c N_is_sorted "is_sorted" (topS 22) f 1 as_is_sorted := by
  intro cdv A outer s H E hr
  have hu := hu_r hr
  exact ⟨_, (bcons (sfor (ir1 B (acons (xbin x_sub (xlen B (acons (xv 1) anil)) xi) anil)) (gn 2 sc_is_sorted.nd) (bone (sif (tcmp (x_eq hu) (xcall D_compare_by (hr.mono (by decide)) (acons (xv 0) (acons (xix (xv 1) (xv 2)) (acons (xix (xv 1) (xbin x_add (xv 2) xi)) anil)))) xi) (bone (sret xb)) bnil)))
  (bone (sret xb)))⟩
theorem bd_fitting_rules (B : Bi mg) (D_all_rules : Df P w K mg base "all_rules" 5 ["count"] (spD ⟨K, c⟩ fs_all_rules)) (D_is_sorted : Df P w K mg base "is_sorted" 2 ["terms", "shelf"] (spD ⟨K, c⟩ fs_is_sorted)) (hFR : ClF K c.CR "terms") : BodyX P w K mg base c N_fitting_rules "fitting_rules" (topS 23) f 5 as_fitting_rules := by
  intro cdv A outer s H E hr
  have hu := hu_r hr
  exact ⟨_, (bone (sret (xfrz (olc (own := [("rule", 2)]) sc_fitting_rules.nd (iseq (xcall D_all_rules (hr.mono (by decide)) (acons (xv 1) anil))) (by exact fun _ _ _ _ _ => (gn 2 sc_fitting_rules.nd)) (by exact fun _ _ _ _ _ => (tsone (tval (xcall D_is_sorted (hr.mono (by decide)) (acons (xterms hFR (xv 2)) (acons (xv 0) anil)))))) (by exact fun _ _ _ _ _ => (xv 2)) (blkOk_by (own := [("rule", 2)]) (N := N_fitting_rules) (sc := defScope (topS 23)) (by decide +kernel)) (by decide) (by rfl) (by rfl) (by intro _; rfl)))))⟩
theorem bd_is_shut_by (B : Bi mg) (D_compare_by : Df P w K mg base "compare_by" 1 ["terms", "first", "second"] (spD ⟨K, c⟩ fs_compare_by)) : BodyX P w K mg base c N_is_shut_by "is_shut_by" (topS 24) f 1 as_is_shut_by := by
  intro cdv A outer s H E hr
  have hu := hu_r hr
  exact ⟨_, (bcons (sfor (iseq (xsl (xv 0) pnone (psome (xneg xi)))) (gt (n := 2) [3, 4] (gsc 3 (gnp 3 sc_is_shut_by.nd) (gsc 4 (gnp 4 sc_is_shut_by.nd) gsn))) (bone (sif (tcmp (x_ne hu) (xix (xv 1) (xv 3)) (xix (xv 2) (xv 3))) (bone (sret xb)) bnil)))
  (bone (sret (xcmp (x_eq hu) (xcall D_compare_by (hr.mono (by decide)) (acons (xsl (xv 0) (psome (xneg xi)) pnone) (acons (xv 1) (acons (xv 2) anil)))) xi))))⟩
theorem bd_least_pair (B : Bi mg) (D_is_shut_by : Df P w K mg base "is_shut_by" 2 ["prefix", "first", "second"] (spD ⟨K, c⟩ fs_is_shut_by)) : BodyX P w K mg base c N_least_pair "least_pair" (topS 25) f 2 as_least_pair := by
  intro cdv A outer s H E hr
  have hu := hu_r hr
  exact ⟨_, (bcons (sfor (ir1 B (acons (xlen B (acons (xv 1) anil)) anil)) (gn 2 sc_least_pair.nd) (bone (sfor (ir2 B (acons (xbin x_add (xv 2) xi) (acons (xlen B (acons (xv 1) anil)) anil))) (gn 3 sc_least_pair.nd) (bone (sif (tval (xcall D_is_shut_by (hr.mono (by decide)) (acons (xv 0) (acons (xix (xv 1) (xv 2)) (acons (xix (xv 1) (xv 3)) anil))))) (bone (sret (xtup (acons (xv 2) (acons (xv 3) anil))))) bnil)))))
  (bone (sret xn)))⟩
theorem bd_rows_behind {fsr : List D → (D → Prop) → Prop} {lv : Nat} (hlv : 3 ≤ lv) (B : Bi mg) (D_least_pair : Df P w K mg base "least_pair" 3 ["prefix", "shelf"] (spD ⟨K, c⟩ fs_least_pair)) (D_rows_behind : Df P w K mg base "rows_behind" lv ["prefix", "shelf", "count"] (spD ⟨K, c⟩ fsr)) (D_terms_behind : Df P w K mg base "terms_behind" 1 ["terms", "count"] (spD ⟨K, c⟩ fs_terms_behind)) : BodyX P w K mg base c N_rows_behind "rows_behind" (topS 26) f lv (as_rows_behind fsr) := by
  intro cdv A outer s H E hr
  have hu := hu_r hr
  exact ⟨_, (bcons (ssetO 3 sc_rows_behind.nd (olst anil))
  (bcons (sfor (iseq (xcall D_terms_behind (hr.mono (Nat.le_trans (by decide) hlv)) (acons (xv 0) (acons (xv 2) anil)))) (gn 4 sc_rows_behind.nd) (bcons (sset 5 sc_rows_behind.nd (xbin x_add (xv 0) (xtup (acons (xv 4) anil))))
  (bcons (sset 6 sc_rows_behind.nd (xcall D_least_pair (hr.mono (Nat.le_trans (by decide) hlv)) (acons (xv 5) (acons (xv 1) anil))))
  (bone (sif (tcmp (x_is) (xv 6) xn) (bone (sext 3 (xv 3) (xcall D_rows_behind hr (acons (xv 5) (acons (xv 1) (acons (xv 2) anil)))))) (bone (sapp 3 (xv 3) (xtup (acons (xv 5) (acons (xix (xv 6) xi) (acons (xix (xv 6) xi) anil)))))))))))
  (bone (sret (xfrz (omove 3 (xv 3)))))))⟩
end
end Ab
set_option maxHeartbeats 4000000
namespace Ab
open PySem PySem.Spec PyProof.Rows L2
section
variable {P : Program} {w : World} {K : PySem.W.Frag} {mg : Str → Option Value} {base : Heap} {c : Cl} {f : Addr}
theorem bd_shelf_cut (B : Bi mg) (D_ShelfCutInit : Dm P w K mg base "ShelfCut" c.CS 1 ["self", "rows"] (spCut ⟨K, c⟩)) (D_rows_behind : Df P w K mg base "rows_behind" 7 ["prefix", "shelf", "count"] (spD ⟨K, c⟩ fs_rows_behind)) : BodyX P w K mg base c N_shelf_cut "shelf_cut" (topS 27) f 7 as_shelf_cut := by
  intro cdv A outer s H E hr
  have hu := hu_r hr
  exact ⟨_, (bone (sret (xmkCut D_ShelfCutInit (hr.mono (by decide)) (acons (xcall D_rows_behind (hr.mono (by decide)) (acons (xtup anil) (acons (xv 0) (acons (xv 1) anil)))) anil))))⟩
theorem bd_is_prefix (B : Bi mg) (D_terms_behind : Df P w K mg base "terms_behind" 1 ["terms", "count"] (spD ⟨K, c⟩ fs_terms_behind)) : BodyX P w K mg base c N_is_prefix "is_prefix" (topS 28) f 1 as_is_prefix := by
  intro cdv A outer s H E hr
  have hu := hu_r hr
  exact ⟨_, (bcons (sfor (ienum B (acons (xv 0) anil)) (gt (n := 2) [2, 3] (gsc 2 (gnp 2 sc_is_prefix.nd) (gsc 3 (gnp 3 sc_is_prefix.nd) gsn))) (bone (sif (tcmp (x_notin hu) (xv 3) (xcall D_terms_behind (hr.mono (by decide)) (acons (xsl (xv 0) pnone (psome (xv 2))) (acons (xv 1) anil)))) (bone (sret xb)) bnil)))
  (bone (sret (xcmp (x_gt) (xlen B (acons (xv 0) anil)) xi))))⟩
theorem bd_is_right_row (B : Bi mg) (D_is_prefix : Df P w K mg base "is_prefix" 2 ["terms", "count"] (spD ⟨K, c⟩ fs_is_prefix)) (D_is_shut_by : Df P w K mg base "is_shut_by" 2 ["prefix", "first", "second"] (spD ⟨K, c⟩ fs_is_shut_by)) : BodyX P w K mg base c N_is_right_row "is_right_row" (topS 29) f 2 as_is_right_row := by
  intro cdv A outer s H E hr
  have hu := hu_r hr
  exact ⟨_, (bcons (ssetG (xv 0) (gt (n := 3) [3, 4, 5] (gsc 3 (gnp 3 sc_is_right_row.nd) (gsc 4 (gnp 4 sc_is_right_row.nd) (gsc 5 (gnp 5 sc_is_right_row.nd) gsn)))))
  (bcons (sif (tw (wor (tnot (tval (xcall D_is_prefix (hr.mono (by decide)) (acons (xv 3) (acons (xv 2) anil))))) (wor1 (tnot (tchain3 (x_le hu) (x_lt hu) (x_lt hu) xi (xv 4) (xv 5) (xlen B (acons (xv 1) anil))))))) (bone (sret xb)) bnil)
  (bone (sret (xcall D_is_shut_by (hr.mono (by decide)) (acons (xv 3) (acons (xix (xv 1) (xv 4)) (acons (xix (xv 1) (xv 5)) anil))))))))⟩
theorem bd_begins_with_any (B : Bi mg)  : BodyX P w K mg base c N_begins_with_any "begins_with_any" (topS 30) f 0 as_begins_with_any := by
  intro cdv A outer s H E hr
  have hu := hu_r hr
  exact ⟨_, (bcons (sfor (iseq (xv 1)) (gn 2 sc_begins_with_any.nd) (bone (sif (tcmp (x_eq hu) (xsl (xv 0) pnone (psome (xlen B (acons (xv 2) anil)))) (xv 2)) (bone (sret xb)) bnil)))
  (bone (sret xb)))⟩
theorem bd_judge_cut (B : Bi mg) (D_begins_with_any : Df P w K mg base "begins_with_any" 1 ["terms", "prefixes"] (spD ⟨K, c⟩ fs_begins_with_any)) (D_is_right_row : Df P w K mg base "is_right_row" 3 ["row", "shelf", "count"] (spD ⟨K, c⟩ fs_is_right_row)) (D_is_sorted : Df P w K mg base "is_sorted" 2 ["terms", "shelf"] (spD ⟨K, c⟩ fs_is_sorted)) (D_term_rows : Df P w K mg base "term_rows" 2 ["count"] (spD ⟨K, c⟩ fs_term_rows)) (hFC : ClF K c.CS "rows") : BodyX P w K mg base c N_judge_cut "judge_cut" (topS 31) f 3 as_judge_cut := by
  intro cdv A outer s H E hr
  have hu := hu_r hr
  exact ⟨_, (bcons (sfor (iseq (xrows hFC (xv 2))) (gn 3 sc_judge_cut.nd) (bone (sif (tnot (tval (xcall D_is_right_row (hr.mono (by decide)) (acons (xv 3) (acons (xv 0) (acons (xv 1) anil)))))) (bone (sret xb)) bnil)))
  (bcons (slc (i := 4) (own := [("row", 3)]) sc_judge_cut.nd (iseq (xrows hFC (xv 2))) (by exact fun _ _ _ _ _ => (gn 3 sc_judge_cut.nd)) (by exact fun _ _ _ _ _ => tsnil) (by exact fun _ _ _ _ _ => (xix (xv 3) xi)) (blkOk_by (own := [("row", 3)]) (N := N_judge_cut) (sc := defScope (topS 31)) (by decide +kernel)) (by decide) (sw_true rfl rfl rfl (by decide +kernel)) (by rfl) (by rfl) (by rfl) (by rfl) (by intro _; rfl))
  (bcons (sfor (iseq (xcall D_term_rows (hr.mono (by decide)) (acons (xv 1) anil))) (gn 5 sc_judge_cut.nd) (bone (sif (tw (wand (tnot (tval (xcall D_is_sorted (hr.mono (by decide)) (acons (xv 5) (acons (xv 0) anil))))) (wand1 (tnot (tval (xcall D_begins_with_any (hr.mono (by decide)) (acons (xv 5) (acons (xv 4) anil)))))))) (bone (sret xb)) bnil)))
  (bone (sret xb)))))⟩
theorem bd_l_box (B : Bi mg)  : BodyX P w K mg base c N_l_box "_law_box" (topS 33) f 0 as_l_box := by
  intro cdv A outer s H E hr
  have hu := hu_r hr
  exact ⟨_, (bcons (sif (tcmp (x_eq hu) (xv 0) (xfrz (olst anil))) (bone (sretO (olst (acons xi (acons xi (acons xi anil)))))) bnil)
  (bcons (sif (tcmp (x_ge) (xv 1) (xlen B (acons (xv 0) anil))) (bone (sretO (olst (acons xi (acons (xbin x_add (xbin x_mod (xint B (acons (xix (xv 0) xi) anil)) xi) (xv 1)) (acons (xbin x_mul xi (xv 1)) anil)))))) bnil)
  (bcons (sif (tcmp (x_ge) (xix (xv 0) (xv 1)) (xbin x_pow xi xi)) (bone (sretO (olst (acons xi (acons (xbin x_sub (xix (xv 0) (xv 1)) (xbin x_pow xi xi)) (acons xi anil)))))) bnil)
  (bone (sretO (olst (acons xi (acons (xbin x_mod (xint B (acons (xix (xv 0) (xv 1)) anil)) xi) (acons (xbin x_mul xi (xv 1)) anil)))))))))⟩
end
end Ab
set_option maxHeartbeats 4000000
namespace Ab
open PySem PySem.Spec PyProof.Rows L2
section
variable {P : Program} {w : World} {K : PySem.W.Frag} {mg : Str → Option Value} {base : Heap} {c : Cl} {f : Addr}
theorem bd_l_take (B : Bi mg)  : BodyX P w K mg base c N_l_take "_law_take" (topS 34) f 0 as_l_take := by
  intro cdv A outer s H E hr
  have hu := hu_r hr
  exact ⟨_, (bcons (sif (tcmp (x_eq hu) (xixM 0 (xv 0) xi) xi) (bcons (sset 2 sc_l_take.nd (xbin x_mod (xint B (acons (xixM 0 (xv 0) xi) anil)) (xv 1)))
  (bcons (sput 0 (xv 0) xi (xbin x_div (xixM 0 (xv 0) xi) (xv 1)))
  (bone (sret (xv 2))))) bnil)
  (bcons (sput 0 (xv 0) xi (xbin x_add (xixM 0 (xv 0) xi) xi))
  (bcons (sset 3 sc_l_take.nd (xbin x_add (xbin x_add (xbin x_add (xbin x_mul (xixM 0 (xv 0) xi) xi) (xbin x_mul (xbin x_mul (xixM 0 (xv 0) xi) (xixM 0 (xv 0) xi)) xi)) (xbin x_mul (xixM 0 (xv 0) xi) xi)) xi))
  (bcons (sset 3 sc_l_take.nd (xbin x_mod (xint B (acons (xv 3) anil)) xi))
  (bcons (sset 3 sc_l_take.nd (xbin x_mod (xint B (acons (xbin x_add (xbin x_mul (xv 3) (xv 3)) (xbin x_mul (xixM 0 (xv 0) xi) xi)) anil)) xi))
  (bone (sret (xbin x_mod (xint B (acons (xbin x_div (xv 3) xi) anil)) (xv 1)))))))))⟩
theorem bd_l_integer (B : Bi mg)  : BodyX P w K mg base c N_l_integer "_law_integer" (topS 35) f 0 as_l_integer := by
  intro cdv A outer s H E hr
  have hu := hu_r hr
  exact ⟨_, (bone (sret (xand (xisi .int B (xv 0) B.int (by decide +kernel)) (xone (xnot (xisi .bool B (xv 0) B.bool (by decide +kernel)))))))⟩
theorem bd_l_value (B : Bi mg) (D_l_take : Df P w K mg base "_law_take" 1 ["_law_bag", "_law_size"] (spB ⟨K, c⟩ fs_l_take)) : BodyX P w K mg base c N_l_value "_law_value" (topS 36) f 1 as_l_value := by
  intro cdv A outer s H E hr
  have hu := hu_r hr
  exact ⟨_, (bcons (sset 2 sc_l_value.nd (xcallB 0 D_l_take (hr.mono (by decide)) (xv 0) (acons xi anil)))
  (bcons (sif (tcmp (x_eq hu) (xv 2) xi) (bcons (sset 3 sc_l_value.nd (xbin x_add (xbin x_mul (xcallB 0 D_l_take (hr.mono (by decide)) (xv 0) (acons (xbin x_pow xi xi) anil)) (xbin x_pow xi xi)) (xcallB 0 D_l_take (hr.mono (by decide)) (xv 0) (acons (xbin x_pow xi xi) anil))))
  (bone (sret (xbin x_mul (xv 3) (xbin x_sub xi (xbin x_mul xi (xcallB 0 D_l_take (hr.mono (by decide)) (xv 0) (acons xi anil)))))))) bnil)
  (bcons (sif (tcmp (x_eq hu) (xv 2) xi) (bone (sret (xix (xfrz (olst (acons (xbin x_sub (xbin x_pow xi xi) xi) (acons (xbin x_sub xi (xbin x_pow xi xi)) (acons (xbin x_sub (xbin x_pow xi xi) xi) (acons (xbin x_sub xi (xbin x_pow xi xi)) anil)))))) (xcallB 0 D_l_take (hr.mono (by decide)) (xv 0) (acons xi anil))))) bnil)
  (bone (sret (xbin x_add (xv 1) (xcallB 0 D_l_take (hr.mono (by decide)) (xv 0) (acons xi anil))))))))⟩
theorem bd_l_terms (B : Bi mg) (D_l_take : Df P w K mg base "_law_take" 1 ["_law_bag", "_law_size"] (spB ⟨K, c⟩ fs_l_take)) : BodyX P w K mg base c N_l_terms "_law_terms" (topS 37) f 1 as_l_terms := by
  intro cdv A outer s H E hr
  have hu := hu_r hr
  exact ⟨_, (bcons (ssetO 3 sc_l_terms.nd (olistRg B (xv 2)))
  (bcons (ssetO 4 sc_l_terms.nd (olst anil))
  (bcons (sfor (ir1 B (acons (xv 1) anil)) (gn 5 sc_l_terms.nd) (bcons (sset 6 sc_l_terms.nd (xpop 3 (xv 3) (xbin x_mod (xint B (acons (xcallB 0 D_l_take (hr.mono (by decide)) (xv 0) (acons (xv 2) anil)) anil)) (xlenM B 3 (xv 3)))))
  (bone (sapp 4 (xv 4) (xtup (acons (xv 6) (acons (xbin x_sub xi (xbin x_mul xi (xbin x_mod (xint B (acons (xbin x_add (xv 5) (xcallB 0 D_l_take (hr.mono (by decide)) (xv 0) (acons xi anil))) anil)) xi))) anil)))))))
  (bone (sret (xfrz (omove 4 (xv 4))))))))⟩
theorem bd_l_roll (B : Bi mg) (D_l_take : Df P w K mg base "_law_take" 1 ["_law_bag", "_law_size"] (spB ⟨K, c⟩ fs_l_take)) : BodyX P w K mg base c N_l_roll "_law_roll" (topS 38) f 1 as_l_roll := by
  intro cdv A outer s H E hr
  have hu := hu_r hr
  exact ⟨_, (bcons (ssetO 4 sc_l_roll.nd (olst anil))
  (bcons (sfor (ir1 B (acons (xv 2) anil)) (gn 5 sc_l_roll.nd) (bcons (sset 6 sc_l_roll.nd (xix (xv 3) (xbin x_mod (xint B (acons (xbin x_add (xbin x_mul (xv 1) (xbin x_add (xv 5) xi)) (xcallB 0 D_l_take (hr.mono (by decide)) (xv 0) (acons xi anil))) anil)) xi)))
  (bcons (sset 7 sc_l_roll.nd (xbin x_add (xv 6) (xix (xfrz (olst (acons xi (acons xi (acons xi (acons xi (acons (xneg xi) anil))))))) (xcallB 0 D_l_take (hr.mono (by decide)) (xv 0) (acons xi anil)))))
  (bone (sapp 4 (xv 4) (xmax B (acons (xbin x_sub xi (xbin x_pow xi xi)) (acons (xmin B (acons (xbin x_sub (xbin x_pow xi xi) xi) (acons (xv 7) anil))) anil))))))))
  (bfz 4 (bone (sret (xtuple B (acons (xv 4) anil)))))))⟩
theorem bd_l_side (B : Bi mg)  : BodyX P w K mg base c N_l_side "_law_side" (topS 39) f 0 as_l_side := by
  intro cdv A outer s H E hr
  have hu := hu_r hr
  exact ⟨_, (bcons (sfor (iseq (xv 0)) (gt (n := 2) [3, 4] (gsc 3 (gnp 3 sc_l_side.nd) (gsc 4 (gnp 4 sc_l_side.nd) gsn))) (bone (sif (tcmp (x_ne hu) (xix (xv 1) (xv 3)) (xix (xv 2) (xv 3))) (bone (sret (xif (tcmp (x_gt) (xix (xv 1) (xv 3)) (xix (xv 2) (xv 3))) (xv 4) (xneg (xv 4))))) bnil)))
  (bone (sret xi)))⟩
end
end Ab
set_option maxHeartbeats 4000000
namespace Ab
open PySem PySem.Spec PyProof.Rows L2
section
variable {P : Program} {w : World} {K : PySem.W.Frag} {mg : Str → Option Value} {base : Heap} {c : Cl} {f : Addr}
theorem bd_l_laid (B : Bi mg) (D_l_side : Df P w K mg base "_law_side" 1 ["_law_terms_here", "_law_one", "_law_two"] (spD ⟨K, c⟩ fs_l_side)) : BodyX P w K mg base c N_l_laid "_law_laid" (topS 40) f 1 as_l_laid := by
  intro cdv A outer s H E hr
  have hu := hu_r hr
  exact ⟨_, (bcons (ssetO 2 sc_l_laid.nd (olst anil))
  (bcons (sfor (iseq (xv 1)) (gn 3 sc_l_laid.nd) (bcons (sset 4 sc_l_laid.nd xi)
  (bcons (sforM 2 (xv 2) (gn 5 sc_l_laid.nd) (bone (sif (tcmp (x_le hu) (xcall D_l_side (hr.mono (by decide)) (acons (xv 0) (acons (xv 5) (acons (xv 3) anil)))) xi) (bone (sset 4 sc_l_laid.nd (xbin x_add (xv 4) xi))) bnil)))
  (bone (sins 2 (xv 2) (xv 4) (xv 3))))))
  (bone (sretO (omove 2 (xv 2))))))⟩
theorem bd_l_shelf (B : Bi mg) (D_l_laid : Df P w K mg base "_law_laid" 2 ["_law_terms_here", "_law_rolls"] (spO ⟨K, c⟩ fs_l_laid)) (D_l_roll : Df P w K mg base "_law_roll" 2 ["_law_bag", "_law_at", "_law_marks", "_law_pool"] (spB ⟨K, c⟩ fs_l_roll)) (D_l_take : Df P w K mg base "_law_take" 1 ["_law_bag", "_law_size"] (spB ⟨K, c⟩ fs_l_take)) (D_l_terms : Df P w K mg base "_law_terms" 2 ["_law_bag", "_law_many", "_law_marks"] (spB ⟨K, c⟩ fs_l_terms)) (D_l_value : Df P w K mg base "_law_value" 2 ["_law_bag", "_law_plain"] (spB ⟨K, c⟩ fs_l_value)) : BodyX P w K mg base c N_l_shelf "_law_shelf" (topS 41) f 2 as_l_shelf := by
  intro cdv A outer s H E hr
  have hu := hu_r hr
  exact ⟨_, (bcons (sset 2 sc_l_shelf.nd (xfrz (olc (own := [("_law_at", 8)]) sc_l_shelf.nd (ir1 B (acons xi anil)) (by exact fun _ _ _ _ _ => (gn 8 sc_l_shelf.nd)) (by exact fun _ _ _ _ _ => tsnil) (by exact fun _ _ _ _ _ => (xcallB 0 D_l_value (hr.mono (by decide)) (xv 0) (acons (xbin x_sub (xv 8) xi) anil))) (blkOk_by (own := [("_law_at", 8)]) (N := N_l_shelf) (sc := defScope (topS 41)) (by decide +kernel)) (by decide) (by rfl) (by rfl) (by intro _; rfl))))
  (bcons (sset 3 sc_l_shelf.nd (xix (xfrz (olst (acons xi (acons xi (acons xi (acons xi (acons xi (acons xi (acons xi (acons xi (acons xi anil))))))))))) (xcallB 0 D_l_take (hr.mono (by decide)) (xv 0) (acons xi anil))))
  (bcons (slc (i := 4) (own := [("_law_at", 8)]) sc_l_shelf.nd (ir1 B (acons (xv 3) anil)) (by exact fun _ _ _ _ _ => (gn 8 sc_l_shelf.nd)) (by exact fun _ _ _ _ _ => tsnil) (by exact fun _ _ _ _ _ => (xcallB 0 D_l_roll (hr.mono (by decide)) (xv 0) (acons (xv 8) (acons (xv 1) (acons (xv 2) anil))))) (blkOk_by (own := [("_law_at", 8)]) (N := N_l_shelf) (sc := defScope (topS 41)) (by decide +kernel)) (by decide) (sw_true rfl rfl rfl (by decide +kernel)) (by rfl) (by rfl) (by rfl) (by rfl) (by intro _; rfl))
  (bcons (sset 5 sc_l_shelf.nd (xcallB 0 D_l_take (hr.mono (by decide)) (xv 0) (acons xi anil)))
  (bcons (sif (tcmp (x_eq hu) (xv 5) xi) (bone (sret (xv 4))) bnil)
  (bcons (ssetO 4 sc_l_shelf.nd (ocall D_l_laid (hr.mono (by decide)) (acons (xcallB 0 D_l_terms (hr.mono (by decide)) (xv 0) (acons (xv 1) (acons (xv 1) anil))) (acons (xv 4) anil))))
  (bcons (sif (tw (wand (tcmp (x_eq hu) (xv 5) xi) (wand1 (tcmpL 4 (x_ne hu) (xv 4) (xfrz (olst anil)))))) (bcons (sset 6 sc_l_shelf.nd (xcallB 0 D_l_take (hr.mono (by decide)) (xv 0) (acons (xlenM B 4 (xv 4)) anil)))
  (bcons (sset 7 sc_l_shelf.nd (xpop 4 (xv 4) xi))
  (bone (sins 4 (xv 4) (xv 6) (xv 7))))) bnil)
  (bone (sret (xfrz (omove 4 (xv 4))))))))))))⟩
theorem bd_l_full (B : Bi mg)  : BodyX P w K mg base c N_l_full "_law_full" (topS 42) f 0 as_l_full := by
  intro cdv A outer s H E hr
  have hu := hu_r hr
  exact ⟨_, (bcons (sset 1 sc_l_full.nd (xfrz (olst (acons (xfrz (olst anil)) anil))))
  (bcons (sfor (ir1 B (acons (xv 0) anil)) (gn 2 sc_l_full.nd) (bcons (ssetO 3 sc_l_full.nd (olst anil))
  (bcons (sfor (iseq (xv 1)) (gn 4 sc_l_full.nd) (bcons (slc (i := 5) (own := [("_law_one", 7)]) sc_l_full.nd (iseq (xv 4)) (by exact fun _ _ _ _ _ => (gn 7 sc_l_full.nd)) (by exact fun _ _ _ _ _ => tsnil) (by exact fun _ _ _ _ _ => (xbin x_div (xv 7) xi)) (blkOk_by (own := [("_law_one", 7)]) (N := N_l_full) (sc := defScope (topS 42)) (by decide +kernel)) (by decide) (sw_true rfl rfl rfl (by decide +kernel)) (by rfl) (by rfl) (by rfl) (by rfl) (by intro _; rfl))
  (bone (sfor (ir1 B (acons (xbin x_mul xi (xv 0)) anil)) (gn 6 sc_l_full.nd) (bone (sif (tcmp (x_notin hu) (xbin x_div (xv 6) xi) (xv 5)) (bone (sapp 3 (xv 3) (xbin x_add (xv 4) (xfrz (olst (acons (xv 6) anil)))))) bnil))))))
  (bone (sset 1 sc_l_full.nd (xfrz (omove 3 (xv 3))))))))
  (bone (sret (xfrz (olc (own := [("_law_row", 4)]) sc_l_full.nd (iseq (xv 1)) (by exact fun _ _ _ _ _ => (gn 4 sc_l_full.nd)) (by exact fun _ _ _ _ _ => tsnil) (by exact fun _ _ _ _ _ => (xtuple B (acons (xfrz (olc (own := [("_law_rank", 6)]) sc_l_full.nd (iseq (xv 4)) (by exact fun _ _ _ _ _ => (gn 6 sc_l_full.nd)) (by exact fun _ _ _ _ _ => tsnil) (by exact fun _ _ _ _ _ => (xtup (acons (xbin x_div (xv 6) xi) (acons (xbin x_sub xi (xbin x_mul xi (xbin x_mod (xint B (acons (xv 6) anil)) xi))) anil)))) (blkOk_by (own := [("_law_rank", 6)]) (N := N_l_full) (sc := relS (retScope (topS 42)) (defScope (topS 42))) (by decide +kernel)) (by decide) (by rfl) (by rfl) (by intro _; rfl))) anil))) (blkOk_by (own := [("_law_row", 4)]) (N := N_l_full) (sc := defScope (topS 42)) (by decide +kernel)) (by decide) (by rfl) (by rfl) (by intro _; rfl)))))))⟩
theorem bd_l_unsorted (B : Bi mg) (D_l_side : Df P w K mg base "_law_side" 1 ["_law_terms_here", "_law_one", "_law_two"] (spD ⟨K, c⟩ fs_l_side)) : BodyX P w K mg base c N_l_unsorted "_law_unsorted" (topS 43) f 1 as_l_unsorted := by
  intro cdv A outer s H E hr
  have hu := hu_r hr
  exact ⟨_, (bcons (sfor (ir1 B (acons (xlen B (acons (xv 1) anil)) anil)) (gn 2 sc_l_unsorted.nd) (bone (sfor (ir2 B (acons (xbin x_add (xv 2) xi) (acons (xlen B (acons (xv 1) anil)) anil))) (gn 3 sc_l_unsorted.nd) (bone (sif (tcmp (x_gt) (xcall D_l_side (hr.mono (by decide)) (acons (xv 0) (acons (xix (xv 1) (xv 2)) (acons (xix (xv 1) (xv 3)) anil)))) xi) (bone (sret xb)) bnil)))))
  (bone (sret xb)))⟩
theorem bd_l_rules_are (B : Bi mg) (D_l_integer : Df P w K mg base "_law_integer" 1 ["_law_told"] (spD ⟨K, c⟩ fs_l_integer)) (hFR : ClF K c.CR "terms") (hmR : mg "Rule" = some (.ref c.CR)) : BodyX P w K mg base c N_l_rules_are "_law_rules_are" (topS 44) f 1 as_l_rules_are := by
  intro cdv A outer s H E hr
  have hu := hu_r hr
  exact ⟨_, (bcons (sif (tw (wor (tnot (tval (xisi .list B (xv 0) B.list (by decide +kernel)))) (wor1 (tcmp (x_ne hu) (xlen B (acons (xv 0) anil)) (xlen B (acons (xv 1) anil)))))) (bone (sret xb)) bnil)
  (bcons (sfor (ir1 B (acons (xlen B (acons (xv 1) anil)) anil)) (gn 2 sc_l_rules_are.nd) (bcons (sif (tw (wor (tnot (tval (xisRule B hFR (xix (xv 0) (xv 2)) hmR))) (wor1 (tnot (tval (xisi .tuple B (xterms hFR (xix (xv 0) (xv 2))) B.tuple (by decide +kernel))))))) (bone (sret xb)) bnil)
  (bcons (sif (tcmp (x_ne hu) (xterms hFR (xix (xv 0) (xv 2))) (xix (xv 1) (xv 2))) (bone (sret xb)) bnil)
  (bone (sfor (iseq (xterms hFR (xix (xv 0) (xv 2)))) (gn 3 sc_l_rules_are.nd) (bone (sif (tw (wor (tnot (tval (xisi .tuple B (xv 3) B.tuple (by decide +kernel)))) (wor (tnot (tval (xcall D_l_integer (hr.mono (by decide)) (acons (xix (xv 3) xi) anil)))) (wor1 (tnot (tval (xcall D_l_integer (hr.mono (by decide)) (acons (xix (xv 3) xi) anil)))))))) (bone (sret xb)) bnil)))))))
  (bone (sret xb))))⟩
theorem bd_l_row_kind (B : Bi mg) (D_l_integer : Df P w K mg base "_law_integer" 1 ["_law_told"] (spD ⟨K, c⟩ fs_l_integer)) : BodyX P w K mg base c N_l_row_kind "_law_row_kind" (topS 45) f 1 as_l_row_kind := by
  intro cdv A outer s H E hr
  have hu := hu_r hr
  exact ⟨_, (bcons (sif (tw (wor (tnot (tval (xisi .tuple B (xv 0) B.tuple (by decide +kernel)))) (wor (tcmp (x_ne hu) (xlen B (acons (xv 0) anil)) xi) (wor1 (tnot (tval (xisi .tuple B (xix (xv 0) xi) B.tuple (by decide +kernel)))))))) (bone (sret xb)) bnil)
  (bcons (sfor (iseq (xix (xv 0) xi)) (gn 1 sc_l_row_kind.nd) (bcons (sif (tw (wor (tnot (tval (xisi .tuple B (xv 1) B.tuple (by decide +kernel)))) (wor1 (tcmp (x_ne hu) (xlen B (acons (xv 1) anil)) xi)))) (bone (sret xb)) bnil)
  (bone (sif (tw (wor (tnot (tval (xcall D_l_integer (hr.mono (by decide)) (acons (xix (xv 1) xi) anil)))) (wor1 (tnot (tval (xcall D_l_integer (hr.mono (by decide)) (acons (xix (xv 1) xi) anil))))))) (bone (sret xb)) bnil))))
  (bone (sret (xand (xcall D_l_integer (hr.mono (by decide)) (acons (xix (xv 0) xi) anil)) (xone (xcall D_l_integer (hr.mono (by decide)) (acons (xix (xv 0) xi) anil))))))))⟩
end
end Ab
set_option maxHeartbeats 4000000
namespace Ab
open PySem PySem.Spec PyProof.Rows L2
section
variable {P : Program} {w : World} {K : PySem.W.Frag} {mg : Str → Option Value} {base : Heap} {c : Cl} {f : Addr}
theorem bd_l_right (B : Bi mg) (D_l_side : Df P w K mg base "_law_side" 1 ["_law_terms_here", "_law_one", "_law_two"] (spD ⟨K, c⟩ fs_l_side)) : BodyX P w K mg base c N_l_right "_law_right" (topS 46) f 1 as_l_right := by
  intro cdv A outer s H E hr
  have hu := hu_r hr
  exact ⟨_, (bcons (ssetG (xv 0) (gt (n := 3) [3, 4, 5] (gsc 3 (gnp 3 sc_l_right.nd) (gsc 4 (gnp 4 sc_l_right.nd) (gsc 5 (gnp 5 sc_l_right.nd) gsn)))))
  (bcons (ssetO 6 sc_l_right.nd (olst anil))
  (bcons (sfor (iseq (xv 3)) (gt (n := 2) [7, 8] (gsc 7 (gnp 7 sc_l_right.nd) (gsc 8 (gnp 8 sc_l_right.nd) gsn))) (bcons (sif (tw (wor (tcmp (x_lt hu) (xv 7) xi) (wor (tcmp (x_ge) (xv 7) (xv 2)) (wor (tcmpR 6 (x_in hu) (xv 7) (xv 6)) (wor1 (tcmp (x_notin hu) (xv 8) (xfrz (olst (acons xi (acons (xneg xi) anil)))))))))) (bone (sret xb)) bnil)
  (bone (sapp 6 (xv 6) (xv 7)))))
  (bcons (sif (tw (wor (tcmpL 6 (x_eq hu) (xv 6) (xfrz (olst anil))) (wor (tcmp (x_lt hu) (xv 4) xi) (wor (tcmp (x_ge) (xv 4) (xv 5)) (wor1 (tcmp (x_ge) (xv 5) (xlen B (acons (xv 1) anil)))))))) (bone (sret xb)) bnil)
  (bcons (sif (tcmp (x_ne hu) (xcall D_l_side (hr.mono (by decide)) (acons (xsl (xv 3) pnone (psome (xneg xi))) (acons (xix (xv 1) (xv 4)) (acons (xix (xv 1) (xv 5)) anil)))) xi) (bone (sret xb)) bnil)
  (bone (sret (xcmp (x_gt) (xcall D_l_side (hr.mono (by decide)) (acons (xsl (xv 3) (psome (xneg xi)) pnone) (acons (xix (xv 1) (xv 4)) (acons (xix (xv 1) (xv 5)) anil)))) xi))))))))⟩
theorem bd_l_least (B : Bi mg) (D_l_right : Df P w K mg base "_law_right" 2 ["_law_row", "_law_shelf_here", "_law_count"] (spD ⟨K, c⟩ fs_l_right)) : BodyX P w K mg base c N_l_least "_law_least" (topS 47) f 2 as_l_least := by
  intro cdv A outer s H E hr
  have hu := hu_r hr
  exact ⟨_, (bcons (sset 3 sc_l_least.nd (xix (xv 0) xi))
  (bcons (sfor (ir1 B (acons (xlen B (acons (xv 1) anil)) anil)) (gn 4 sc_l_least.nd) (bone (sfor (ir2 B (acons (xbin x_add (xv 4) xi) (acons (xlen B (acons (xv 1) anil)) anil))) (gn 5 sc_l_least.nd) (bone (sfor (ir2 B (acons xi (acons (xbin x_add (xlen B (acons (xv 3) anil)) xi) anil))) (gn 6 sc_l_least.nd) (bcons (sset 7 sc_l_least.nd (xcall D_l_right (hr.mono (by decide)) (acons (xtup (acons (xsl (xv 3) pnone (psome (xv 6))) (acons (xv 4) (acons (xv 5) anil)))) (acons (xv 1) (acons (xv 2) anil)))))
  (bone (sif (tw (wand (tval (xv 7)) (wand1 (tw (wor (tcmp (x_lt hu) (xv 6) (xlen B (acons (xv 3) anil))) (wor1 (tcmp (x_lt hu) (xtup (acons (xv 4) (acons (xv 5) anil))) (xtup (acons (xix (xv 0) xi) (acons (xix (xv 0) xi) anil)))))))))) (bone (sret xb)) bnil))))))))
  (bone (sret xb))))⟩
theorem bd_l_cut_right (B : Bi mg) (D_l_least : Df P w K mg base "_law_least" 3 ["_law_row", "_law_shelf_here", "_law_count"] (spD ⟨K, c⟩ fs_l_least)) (D_l_right : Df P w K mg base "_law_right" 2 ["_law_row", "_law_shelf_here", "_law_count"] (spD ⟨K, c⟩ fs_l_right)) (D_l_row_kind : Df P w K mg base "_law_row_kind" 2 ["_law_row"] (spD ⟨K, c⟩ fs_l_row_kind)) : BodyX P w K mg base c N_l_cut_right "_law_cut_right" (topS 48) f 3 as_l_cut_right := by
  intro cdv A outer s H E hr
  have hu := hu_r hr
  exact ⟨_, (bcons (sset 3 sc_l_cut_right.nd (xfrz (olst anil)))
  (bcons (sfor (iseq (xv 0)) (gn 4 sc_l_cut_right.nd) (bcons (sif (tw (wor (tnot (tval (xcall D_l_row_kind (hr.mono (by decide)) (acons (xv 4) anil)))) (wor1 (tnot (tval (xcall D_l_right (hr.mono (by decide)) (acons (xv 4) (acons (xv 1) (acons (xv 2) anil))))))))) (bone (sret xb)) bnil)
  (bcons (slc (i := 5) (own := [("_law_term", 6)]) sc_l_cut_right.nd (iseq (xix (xv 4) xi)) (by exact fun _ _ _ _ _ => (gn 6 sc_l_cut_right.nd)) (by exact fun _ _ _ _ _ => tsnil) (by exact fun _ _ _ _ _ => (xbin x_add (xbin x_mul xi (xix (xv 6) xi)) (xint B (acons (xcmp (x_lt hu) (xix (xv 6) xi) xi) anil)))) (blkOk_by (own := [("_law_term", 6)]) (N := N_l_cut_right) (sc := defScope (topS 48)) (by decide +kernel)) (by decide) (sw_true rfl rfl rfl (by decide +kernel)) (by rfl) (by rfl) (by rfl) (by rfl) (by intro _; rfl))
  (bcons (sif (tw (wor (tcmp (x_le hu) (xv 5) (xv 3)) (wor1 (tnot (tval (xcall D_l_least (hr.mono (by decide)) (acons (xv 4) (acons (xv 1) (acons (xv 2) anil))))))))) (bone (sret xb)) bnil)
  (bone (sset 3 sc_l_cut_right.nd (xv 5)))))))
  (bone (sret xb))))⟩
theorem bd_l_begun (B : Bi mg)  : BodyX P w K mg base c N_l_begun "_law_begun" (topS 49) f 0 as_l_begun := by
  intro cdv A outer s H E hr
  have hu := hu_r hr
  exact ⟨_, (bone (sret (xfrz (olc (own := [("_law_row", 2)]) sc_l_begun.nd (iseq (xv 0)) (by exact fun _ _ _ _ _ => (gn 2 sc_l_begun.nd)) (by exact fun _ _ _ _ _ => (tsone (tcmp (x_eq hu) (xsl (xv 1) pnone (psome (xlen B (acons (xix (xv 2) xi) anil)))) (xix (xv 2) xi)))) (by exact fun _ _ _ _ _ => (xv 2)) (blkOk_by (own := [("_law_row", 2)]) (N := N_l_begun) (sc := defScope (topS 49)) (by decide +kernel)) (by decide) (by rfl) (by rfl) (by intro _; rfl)))))⟩
theorem bd_l_due (B : Bi mg) (D_l_begun : Df P w K mg base "_law_begun" 1 ["_law_rows", "_law_terms_here"] (spD ⟨K, c⟩ fs_l_begun)) (D_l_right : Df P w K mg base "_law_right" 2 ["_law_row", "_law_shelf_here", "_law_count"] (spD ⟨K, c⟩ fs_l_right)) : BodyX P w K mg base c N_l_due "_law_due" (topS 50) f 2 as_l_due := by
  intro cdv A outer s H E hr
  have hu := hu_r hr
  exact ⟨_, (bcons (sfor (iseq (xv 0)) (gn 4 sc_l_due.nd) (bone (sif (tnot (tval (xcall D_l_right (hr.mono (by decide)) (acons (xv 4) (acons (xv 1) (acons (xv 2) anil)))))) (bone (sret xb)) bnil)))
  (bcons (sfor (iseq (xv 3)) (gn 5 sc_l_due.nd) (bone (sif (tcmp (x_eq hu) (xcall D_l_begun (hr.mono (by decide)) (acons (xv 0) (acons (xv 5) anil))) (xfrz (olst anil))) (bone (sret xb)) bnil)))
  (bone (sret xb))))⟩
theorem bd_l_last_pair (B : Bi mg) (D_l_right : Df P w K mg base "_law_right" 2 ["_law_row", "_law_shelf_here", "_law_count"] (spD ⟨K, c⟩ fs_l_right)) : BodyX P w K mg base c N_l_last_pair "_law_last_pair" (topS 51) f 2 as_l_last_pair := by
  intro cdv A outer s H E hr
  have hu := hu_r hr
  exact ⟨_, (bcons (sset 3 sc_l_last_pair.nd (xtup (acons xi (acons xi anil))))
  (bcons (sfor (ir1 B (acons (xlen B (acons (xv 1) anil)) anil)) (gn 4 sc_l_last_pair.nd) (bone (sfor (ir2 B (acons (xbin x_add (xv 4) xi) (acons (xlen B (acons (xv 1) anil)) anil))) (gn 5 sc_l_last_pair.nd) (bone (sif (tval (xcall D_l_right (hr.mono (by decide)) (acons (xtup (acons (xv 0) (acons (xv 4) (acons (xv 5) anil)))) (acons (xv 1) (acons (xv 2) anil))))) (bone (sset 3 sc_l_last_pair.nd (xtup (acons (xv 4) (acons (xv 5) anil))))) bnil)))))
  (bone (sret (xv 3)))))⟩
end
end Ab
set_option maxHeartbeats 4000000
namespace Ab
open PySem PySem.Spec PyProof.Rows L2
section
variable {P : Program} {w : World} {K : PySem.W.Frag} {mg : Str → Option Value} {base : Heap} {c : Cl} {f : Addr}
theorem bd_l_other_prefix (B : Bi mg) (D_l_take : Df P w K mg base "_law_take" 1 ["_law_bag", "_law_size"] (spB ⟨K, c⟩ fs_l_take)) : BodyX P w K mg base c N_l_other_prefix "_law_other_prefix" (topS 52) f 1 as_l_other_prefix := by
  intro cdv A outer s H E hr
  have hu := hu_r hr
  exact ⟨_, (bcons (sset 4 sc_l_other_prefix.nd (xix (xfrz (olst (acons xi (acons (xneg xi) (acons xi (acons xi (acons xi (acons (xbin x_sub (xbin x_pow xi xi) xi) (acons (xv 3) anil))))))))) (xcallB 0 D_l_take (hr.mono (by decide)) (xv 0) (acons xi anil))))
  (bcons (sset 5 sc_l_other_prefix.nd (xix (xfrz (olst (acons xi (acons (xneg xi) (acons xi (acons xi (acons (xneg xi) anil))))))) (xcallB 0 D_l_take (hr.mono (by decide)) (xv 0) (acons xi anil))))
  (bcons (sset 6 sc_l_other_prefix.nd (xcallB 0 D_l_take (hr.mono (by decide)) (xv 0) (acons (xlen B (acons (xv 1) anil)) anil)))
  (bcons (sif (tcmp (x_eq hu) (xv 2) xi) (bone (sret (xbin x_add (xv 1) (xtup (acons (xtup (acons (xv 4) (acons (xv 5) anil))) anil))))) bnil)
  (bcons (sif (tcmp (x_eq hu) (xv 2) xi) (bone (sret (xsl (xv 1) pnone (psome (xneg xi))))) bnil)
  (bcons (sif (tcmp (x_eq hu) (xv 2) xi) (bone (sret (xbin x_add (xv 1) (xsl (xv 1) pnone (psome xi))))) bnil)
  (bcons (sif (tcmp (x_eq hu) (xv 2) xi) (bone (sret (xbin x_add (xbin x_add (xsl (xv 1) pnone (psome (xv 6))) (xtup (acons (xtup (acons (xix (xix (xv 1) (xv 6)) xi) (acons (xv 5) anil))) anil))) (xsl (xv 1) (psome (xbin x_add (xv 6) xi)) pnone)))) bnil)
  (bone (sret (xbin x_add (xbin x_add (xsl (xv 1) pnone (psome (xv 6))) (xtup (acons (xtup (acons (xv 4) (acons (xix (xix (xv 1) (xv 6)) xi) anil))) anil))) (xsl (xv 1) (psome (xbin x_add (xv 6) xi)) pnone)))))))))))⟩
theorem bd_l_other_row (B : Bi mg) (D_l_last_pair : Df P w K mg base "_law_last_pair" 3 ["_law_prefix", "_law_shelf_here", "_law_count"] (spD ⟨K, c⟩ fs_l_last_pair)) (D_l_other_prefix : Df P w K mg base "_law_other_prefix" 2 ["_law_bag", "_law_prefix", "_law_kind", "_law_count"] (spB ⟨K, c⟩ fs_l_other_prefix)) (D_l_take : Df P w K mg base "_law_take" 1 ["_law_bag", "_law_size"] (spB ⟨K, c⟩ fs_l_take)) : BodyX P w K mg base c N_l_other_row "_law_other_row" (topS 53) f 3 as_l_other_row := by
  intro cdv A outer s H E hr
  have hu := hu_r hr
  exact ⟨_, (bcons (ssetG (xv 1) (gt (n := 3) [5, 6, 7] (gsc 5 (gnp 5 sc_l_other_row.nd) (gsc 6 (gnp 6 sc_l_other_row.nd) (gsc 7 (gnp 7 sc_l_other_row.nd) gsn)))))
  (bcons (sset 8 sc_l_other_row.nd (xlen B (acons (xv 3) anil)))
  (bcons (sset 9 sc_l_other_row.nd (xbin x_sub (xcallB 0 D_l_take (hr.mono (by decide)) (xv 0) (acons (xbin x_add (xv 8) xi) anil)) xi))
  (bcons (sset 10 sc_l_other_row.nd (xbin x_sub (xcallB 0 D_l_take (hr.mono (by decide)) (xv 0) (acons (xbin x_add (xv 8) xi) anil)) xi))
  (bcons (sif (tcmp (x_lt hu) (xv 2) xi) (bone (sret (xtup (acons (xcallB 0 D_l_other_prefix (hr.mono (by decide)) (xv 0) (acons (xv 5) (acons (xv 2) (acons (xv 4) anil)))) (acons (xv 6) (acons (xv 7) anil)))))) bnil)
  (bcons (sif (tcmp (x_eq hu) (xv 2) xi) (bone (sret (xtup (acons (xv 5) (acons (xv 7) (acons (xv 6) anil)))))) bnil)
  (bcons (sif (tcmp (x_eq hu) (xv 2) xi) (bone (sret (xtup (acons (xv 5) (acons (xbin x_sub (xv 6) (xv 8)) (acons (xbin x_sub (xv 7) (xv 8)) anil)))))) bnil)
  (bcons (sif (tcmp (x_eq hu) (xv 2) xi) (bcons (sset 11 sc_l_other_row.nd (xcall D_l_last_pair (hr.mono (by decide)) (acons (xv 5) (acons (xv 3) (acons (xv 4) anil)))))
  (bone (sret (xtup (acons (xv 5) (acons (xix (xv 11) xi) (acons (xix (xv 11) xi) anil))))))) bnil)
  (bcons (sif (tcmp (x_eq hu) (xv 2) xi) (bone (sret (xtup (acons (xv 5) (acons (xv 9) (acons (xv 7) anil)))))) bnil)
  (bcons (sif (tcmp (x_eq hu) (xv 2) xi) (bone (sret (xtup (acons (xv 5) (acons (xv 6) (acons (xv 10) anil)))))) bnil)
  (bone (sret (xtup (acons (xv 5) (acons (xv 9) (acons (xv 10) anil))))))))))))))))⟩
theorem bd_l_longer (B : Bi mg) (D_l_last_pair : Df P w K mg base "_law_last_pair" 3 ["_law_prefix", "_law_shelf_here", "_law_count"] (spD ⟨K, c⟩ fs_l_last_pair)) (D_l_right : Df P w K mg base "_law_right" 2 ["_law_row", "_law_shelf_here", "_law_count"] (spD ⟨K, c⟩ fs_l_right)) : BodyX P w K mg base c N_l_longer "_law_longer" (topS 54) f 3 as_l_longer := by
  intro cdv A outer s H E hr
  have hu := hu_r hr
  exact ⟨_, (bcons (ssetO 4 sc_l_longer.nd (olst anil))
  (bcons (sfor (ir1 B (acons (xv 3) anil)) (gn 5 sc_l_longer.nd) (bone (sfor (iseq (xtup (acons xi (acons (xneg xi) anil)))) (gn 6 sc_l_longer.nd) (bcons (sset 7 sc_l_longer.nd (xbin x_add (xix (xix (xv 0) (xv 1)) xi) (xtup (acons (xtup (acons (xv 5) (acons (xv 6) anil))) anil))))
  (bcons (sset 8 sc_l_longer.nd (xcall D_l_last_pair (hr.mono (by decide)) (acons (xv 7) (acons (xv 2) (acons (xv 3) anil)))))
  (bone (sif (tval (xcall D_l_right (hr.mono (by decide)) (acons (xtup (acons (xv 7) (acons (xix (xv 8) xi) (acons (xix (xv 8) xi) anil)))) (acons (xv 2) (acons (xv 3) anil))))) (bone (sapp 4 (xv 4) (xtup (acons (xv 7) (acons (xix (xv 8) xi) (acons (xix (xv 8) xi) anil)))))) bnil)))))))
  (bfz 4 (bone (sret (xbin x_add (xbin x_add (xsl (xv 0) pnone (psome (xv 1))) (xv 4)) (xsl (xv 0) (psome (xbin x_add (xv 1) xi)) pnone)))))))⟩
theorem bd_l_changed (B : Bi mg) (D_l_longer : Df P w K mg base "_law_longer" 4 ["_law_rows", "_law_place", "_law_shelf_here", "_law_count"] (spD ⟨K, c⟩ fs_l_longer)) (D_l_other_row : Df P w K mg base "_law_other_row" 4 ["_law_bag", "_law_row", "_law_kind", "_law_shelf_here", "_law_count"] (spB ⟨K, c⟩ fs_l_other_row)) (D_l_take : Df P w K mg base "_law_take" 1 ["_law_bag", "_law_size"] (spB ⟨K, c⟩ fs_l_take)) : BodyX P w K mg base c N_l_changed "_law_changed" (topS 55) f 4 as_l_changed := by
  intro cdv A outer s H E hr
  have hu := hu_r hr
  exact ⟨_, (bcons (ssetO 5 sc_l_changed.nd (olist B (acons (xv 1) anil)))
  (bcons (sif (tcmpL 5 (x_eq hu) (xv 5) (xfrz (olst anil))) (bone (sapp 5 (xv 5) (xtup (acons (xtup (acons (xtup (acons xi (acons xi anil))) anil)) (acons xi (acons xi anil)))))) bnil)
  (bcons (sset 6 sc_l_changed.nd (xcallB 0 D_l_take (hr.mono (by decide)) (xv 0) (acons (xlenM B 5 (xv 5)) anil)))
  (bcons (sset 7 sc_l_changed.nd (xbin x_mod (xint B (acons (xbin x_add (xbin x_mul xi (xv 2)) (xcallB 0 D_l_take (hr.mono (by decide)) (xv 0) (acons xi anil))) anil)) xi))
  (bcons (sif (tcmp (x_lt hu) (xv 7) xi) (bcons (sput 5 (xv 5) (xv 6) (xcallB 0 D_l_other_row (hr.mono (by decide)) (xv 0) (acons (xixM 5 (xv 5) (xv 6)) (acons (xv 7) (acons (xv 3) (acons (xv 4) anil))))))
  (bone (sret (xfrz (omove 5 (xv 5)))))) bnil)
  (bfz 5 (bcons (sif (tcmp (x_eq hu) (xv 7) xi) (bone (sret (xbin x_add (xsl (xv 5) pnone (psome (xv 6))) (xsl (xv 5) (psome (xbin x_add (xv 6) xi)) pnone)))) bnil)
  (bcons (sif (tcmp (x_eq hu) (xv 7) xi) (bone (sret (xbin x_add (xv 5) (xfrz (olst (acons (xix (xv 5) (xv 6)) anil)))))) bnil)
  (bcons (sif (tcmp (x_eq hu) (xv 7) xi) (bone (sret (xrev (xv 5)))) bnil)
  (bcons (sif (tcmp (x_eq hu) (xv 7) xi) (bone (sret (xfrz (olst anil)))) bnil)
  (bcons (sif (tcmp (x_eq hu) (xv 7) xi) (bone (sret (xcall D_l_longer (hr.mono (by decide)) (acons (xv 5) (acons (xv 6) (acons (xv 3) (acons (xv 4) anil))))))) bnil)
  (bcons (sset 8 sc_l_changed.nd (xcallB 0 D_l_other_row (hr.mono (by decide)) (xv 0) (acons (xtup (acons (xtup (acons (xtup (acons xi (acons xi anil))) anil)) (acons xi (acons xi anil)))) (acons (xcallB 0 D_l_take (hr.mono (by decide)) (xv 0) (acons xi anil)) (acons (xv 3) (acons (xv 4) anil))))))
  (bone (sret (xbin x_add (xbin x_add (xsl (xv 5) pnone (psome (xv 6))) (xfrz (olst (acons (xv 8) anil)))) (xsl (xv 5) (psome (xv 6)) pnone))))))))))))))))⟩
theorem bd_l_judged_right (B : Bi mg) (D_ShelfCutInit : Dm P w K mg base "ShelfCut" c.CS 1 ["self", "rows"] (spCut ⟨K, c⟩)) (D_judge_cut : Df P w K mg base "judge_cut" 4 ["shelf", "count", "cut"] (spD ⟨K, c⟩ fs_judge_cut)) (D_l_changed : Df P w K mg base "_law_changed" 5 ["_law_bag", "_law_cut_rows", "_law_turn", "_law_shelf_here", "_law_count"] (spB ⟨K, c⟩ fs_l_changed)) (D_l_due : Df P w K mg base "_law_due" 3 ["_law_rows", "_law_shelf_here", "_law_count", "_law_unfit"] (spD ⟨K, c⟩ fs_l_due)) (hFC : ClF K c.CS "rows") : BodyX P w K mg base c N_l_judged_right "_law_judged_right" (topS 56) f 5 as_l_judged_right := by
  intro cdv A outer s H E hr
  have hu := hu_r hr
  exact ⟨_, (bcons (sif (tcmp (x_isnot) (xcall D_judge_cut (hr.mono (by decide)) (acons (xv 3) (acons (xv 4) (acons (xv 1) anil)))) xb) (bone (sret xb)) bnil)
  (bcons (sfor (ir1 B (acons xi anil)) (gn 6 sc_l_judged_right.nd) (bcons (sset 7 sc_l_judged_right.nd (xcallB 0 D_l_changed (hr.mono (by decide)) (xv 0) (acons (xrows hFC (xv 1)) (acons (xv 6) (acons (xv 2) (acons (xv 4) anil))))))
  (bcons (ssetO 8 sc_l_judged_right.nd (olist B (acons (xv 7) anil)))
  (bcons (sset 9 sc_l_judged_right.nd (xmkCutM 8 D_ShelfCutInit (hr.mono (by decide)) (xv 8)))
  (bcons (sclr 8 (xv 8) )
  (bcons (sif (tw (wor (tnot (tval (xisi .tuple B (xrows hFC (xv 9)) B.tuple (by decide +kernel)))) (wor1 (tcmp (x_ne hu) (xfrz (olist B (acons (xrows hFC (xv 9)) anil))) (xv 7))))) (bone (sret xb)) bnil)
  (bcons (sset 10 sc_l_judged_right.nd (xcall D_judge_cut (hr.mono (by decide)) (acons (xv 3) (acons (xv 4) (acons (xv 9) anil)))))
  (bone (sif (tw (wor (tnot (tval (xisi .bool B (xv 10) B.bool (by decide +kernel)))) (wor1 (tcmp (x_ne hu) (xv 10) (xcall D_l_due (hr.mono (by decide)) (acons (xv 7) (acons (xv 2) (acons (xv 4) (acons (xv 5) anil))))))))) (bone (sret xb)) bnil)))))))))
  (bone (sret (xcmp (x_is) (xcall D_judge_cut (hr.mono (by decide)) (acons (xv 3) (acons (xv 4) (acons (xv 1) anil)))) xb)))))⟩
theorem bd_law (B : Bi mg) (D_fitting_rules : Df P w K mg base "fitting_rules" 6 ["shelf", "count"] (spD ⟨K, c⟩ fs_fitting_rules)) (D_judge_cut : Df P w K mg base "judge_cut" 4 ["shelf", "count", "cut"] (spD ⟨K, c⟩ fs_judge_cut)) (D_l_begun : Df P w K mg base "_law_begun" 1 ["_law_rows", "_law_terms_here"] (spD ⟨K, c⟩ fs_l_begun)) (D_l_box : Df P w K mg base "_law_box" 1 ["_law_script", "_law_place"] (spO ⟨K, c⟩ fs_l_box)) (D_l_cut_right : Df P w K mg base "_law_cut_right" 4 ["_law_rows", "_law_shelf_here", "_law_count"] (spD ⟨K, c⟩ fs_l_cut_right)) (D_l_due : Df P w K mg base "_law_due" 3 ["_law_rows", "_law_shelf_here", "_law_count", "_law_unfit"] (spD ⟨K, c⟩ fs_l_due)) (D_l_full : Df P w K mg base "_law_full" 1 ["_law_count"] (spD ⟨K, c⟩ fs_l_full)) (D_l_judged_right : Df P w K mg base "_law_judged_right" 6 ["_law_bag", "_law_told", "_law_shelf_here", "_law_handed", "_law_count", "_law_unfit"] (spB ⟨K, c⟩ fs_l_judged_right)) (D_l_rules_are : Df P w K mg base "_law_rules_are" 2 ["_law_told", "_law_due_here"] (spD ⟨K, c⟩ fs_l_rules_are)) (D_l_shelf : Df P w K mg base "_law_shelf" 3 ["_law_bag", "_law_count"] (spB ⟨K, c⟩ fs_l_shelf)) (D_l_take : Df P w K mg base "_law_take" 1 ["_law_bag", "_law_size"] (spB ⟨K, c⟩ fs_l_take)) (D_l_unsorted : Df P w K mg base "_law_unsorted" 2 ["_law_terms_here", "_law_shelf_here"] (spD ⟨K, c⟩ fs_l_unsorted)) (D_shelf_cut : Df P w K mg base "shelf_cut" 8 ["shelf", "count"] (spD ⟨K, c⟩ fs_shelf_cut)) (hFC : ClF K c.CS "rows") (hmC : mg "ShelfCut" = some (.ref c.CS)) : BodyX P w K mg base c N_law "law" (topS 57) f 8 as_law := by
  intro cdv A outer s H E hr
  have hu := hu_r hr
  exact ⟨_, (bcons (ssetO 1 sc_law.nd (ocall D_l_box (hr.mono (by decide)) (acons (xv 0) (acons xi anil))))
  (bcons (sset 2 sc_law.nd (xix (xfrz (olst (acons xi (acons xi (acons xi (acons xi anil)))))) (xcallB 1 D_l_take (hr.mono (by decide)) (xv 1) (acons xi anil))))
  (bcons (sset 3 sc_law.nd (xcallB 1 D_l_take (hr.mono (by decide)) (xv 1) (acons xi anil)))
  (bcons (sset 4 sc_law.nd (xcallT D_l_shelf (hr.mono (by decide)) (ocall D_l_box (hr.mono (by decide)) (acons (xv 0) (acons xi anil))) (acons (xv 2) anil)))
  (bcons (sset 5 sc_law.nd (xif (tcmp (x_eq hu) (xv 3) xi) (xtuple B (acons (xv 4) anil)) (xfrz (olist B (acons (xv 4) anil)))))
  (bcons (sset 6 sc_law.nd (xcall D_l_full (hr.mono (by decide)) (acons (xv 2) anil)))
  (bcons (sset 7 sc_law.nd (xfrz (olc (own := [("_law_terms_here", 10)]) sc_law.nd (iseq (xv 6)) (by exact fun _ _ _ _ _ => (gn 10 sc_law.nd)) (by exact fun _ _ _ _ _ => (tsone (tval (xcall D_l_unsorted (hr.mono (by decide)) (acons (xv 10) (acons (xv 4) anil)))))) (by exact fun _ _ _ _ _ => (xv 10)) (blkOk_by (own := [("_law_terms_here", 10)]) (N := N_law) (sc := defScope (topS 57)) (by decide +kernel)) (by decide) (by rfl) (by rfl) (by intro _; rfl))))
  (bcons (slc (i := 8) (own := [("_law_terms_here", 10)]) sc_law.nd (iseq (xv 6)) (by exact fun _ _ _ _ _ => (gn 10 sc_law.nd)) (by exact fun _ _ _ _ _ => (tsone (tcmp (x_notin hu) (xv 10) (xv 7)))) (by exact fun _ _ _ _ _ => (xv 10)) (blkOk_by (own := [("_law_terms_here", 10)]) (N := N_law) (sc := defScope (topS 57)) (by decide +kernel)) (by decide) (sw_true rfl rfl rfl (by decide +kernel)) (by rfl) (by rfl) (by rfl) (by rfl) (by intro _; rfl))
  (bcons (sif (tnot (tval (xcall D_l_rules_are (hr.mono (by decide)) (acons (xcall D_fitting_rules (hr.mono (by decide)) (acons (xv 5) (acons (xv 2) anil))) (acons (xv 8) anil))))) (bone (sret xb)) bnil)
  (bcons (sset 9 sc_law.nd (xcall D_shelf_cut (hr.mono (by decide)) (acons (xv 5) (acons (xv 2) anil))))
  (bcons (sif (tw (wor (tnot (tval (xisCut B hFC (xv 9) hmC))) (wor1 (tnot (tval (xisi .tuple B (xrows hFC (xv 9)) B.tuple (by decide +kernel))))))) (bone (sret xb)) bnil)
  (bcons (sif (tnot (tval (xcall D_l_cut_right (hr.mono (by decide)) (acons (xrows hFC (xv 9)) (acons (xv 4) (acons (xv 2) anil)))))) (bone (sret xb)) bnil)
  (bcons (sfor (iseq (xv 6)) (gn 10 sc_law.nd) (bone (sif (tcmp (x_ne hu) (xlen B (acons (xcall D_l_begun (hr.mono (by decide)) (acons (xrows hFC (xv 9)) (acons (xv 10) anil))) anil)) (xint B (acons (xcmp (x_in hu) (xv 10) (xv 7)) anil))) (bone (sret xb)) bnil)))
  (bcons (sset 11 sc_law.nd (xfrz (olist B (acons (xrows hFC (xv 9)) anil))))
  (bcons (sset 12 sc_law.nd (xrev (xv 4)))
  (bcons (slc (i := 13) (own := [("_law_terms_here", 10)]) sc_law.nd (iseq (xv 6)) (by exact fun _ _ _ _ _ => (gn 10 sc_law.nd)) (by exact fun _ _ _ _ _ => (tsone (tval (xcall D_l_unsorted (hr.mono (by decide)) (acons (xv 10) (acons (xv 12) anil)))))) (by exact fun _ _ _ _ _ => (xv 10)) (blkOk_by (own := [("_law_terms_here", 10)]) (N := N_law) (sc := defScope (topS 57)) (by decide +kernel)) (by decide) (sw_true rfl rfl rfl (by decide +kernel)) (by rfl) (by rfl) (by rfl) (by rfl) (by intro _; rfl))
  (bcons (sif (tcmp (x_ne hu) (xcall D_judge_cut (hr.mono (by decide)) (acons (xv 12) (acons (xv 2) (acons (xv 9) anil)))) (xcall D_l_due (hr.mono (by decide)) (acons (xv 11) (acons (xv 12) (acons (xv 2) (acons (xv 13) anil)))))) (bone (sret xb)) bnil)
  (bcons (sif (tnot (tval (xcallT D_l_judged_right (hr.mono (by decide)) (ocall D_l_box (hr.mono (by decide)) (acons (xv 0) (acons xi anil))) (acons (xv 9) (acons (xv 4) (acons (xv 5) (acons (xv 2) (acons (xv 7) anil)))))))) (bone (sret xb)) bnil)
  (bone (sret (xand (xcmp (x_eq hu) (xfrz (olist B (acons (xrows hFC (xv 9)) anil))) (xv 11)) (xone (xcmp (x_eq hu) (xfrz (olist B (acons (xv 5) anil))) (xv 4))))))))))))))))))))))))⟩
end
end Ab
set_option maxHeartbeats 4000000
namespace Ab
open PySem PySem.Spec PyProof.Rows L2
/-! rules for reading bodies -/
theorem filterMap_if {α : Type} (c : α → Bool) (f : α → D) : ∀ xs : List α, xs.filterMap (fun x => if c x = true then some (f x) else none) = (xs.filter c).map f
  | [] => rfl
  | x :: r => by
    have ih := filterMap_if c f r
    rw [List.filterMap_cons, List.filter_cons]
    cases e : c x
    · simpa using ih
    · simpa using ih
section
variable {α β : Type} {ag ag1 : AG} {body : AS} {A : AEnds} {δ : Env} {p p1 : AT} {a : AE} {ai1 : AI} {vs vs1 : List Nat}
theorem for_i (f : α → D) (Inv : List α → Env → Prop) (xs : List α) (h0 : Inv xs δ)
    (turn : ∀ x r δ, Inv (x :: r) δ → ∀ K : Env → Prop, (∀ δ', Inv r δ' → K δ') → ag (f x) δ fun δ3 => body { A with nx := K, ct := K, bk := A.nx } δ3)
    (fin : ∀ δ, Inv [] δ → A.nx δ) : ∃ I : List D → Env → Prop, I (xs.map f) δ ∧
    (∀ d r δ2, I (d :: r) δ2 → ag d δ2 fun δ3 => body { A with nx := I r, ct := I r, bk := A.nx } δ3) ∧ ∀ δ2, I [] δ2 → A.nx δ2 := by
  let R : List D → Env → Prop := fun ds => List.rec (motive := fun _ => Env → Prop) (fun δ => A.nx δ) (fun d _ K δ => ag d δ fun δ3 => body { A with nx := K, ct := K, bk := A.nx } δ3) ds
  have key : ∀ (xs : List α) (δ : Env), Inv xs δ → R (xs.map f) δ := by
    intro xs
    induction xs with
    | nil => exact fun δ h => fin δ h
    | cons x r ih => exact fun δ h => turn x r δ h _ ih
  exact ⟨R, key xs δ h0, fun d r δ2 h => h, fun δ2 h => h⟩
theorem for_e {ds : List D} (f : α → D) (xs : List α) (e : ds = xs.map f) (Inv : List α → Env → Prop) (h0 : Inv xs δ)
    (turn : ∀ x r δ, Inv (x :: r) δ → ∀ K : Env → Prop, (∀ δ', Inv r δ' → K δ') → ag (f x) δ fun δ3 => body { A with nx := K, ct := K, bk := A.nx } δ3)
    (fin : ∀ δ, Inv [] δ → A.nx δ) : ∃ I : List D → Env → Prop, I ds δ ∧
    (∀ d r δ2, I (d :: r) δ2 → ag d δ2 fun δ3 => body { A with nx := I r, ct := I r, bk := A.nx } δ3) ∧ ∀ δ2, I [] δ2 → A.nx δ2 := by
  subst e
  exact for_i f Inv xs h0 turn fin
theorem rngD_succ (lo : Int) (n : Nat) : rngD lo (n + 1) = .int lo :: rngD (lo + 1) n := by
  unfold rngD
  rw [List.range_succ_eq_map, List.map_cons, List.map_map]
  congr 1
  · simp
  · apply List.map_congr_left
    intro i _
    simp only [Function.comp]
    congr 1
    push_cast
    omega
theorem for_rng (lo : Int) (n : Nat) (Inv : Nat → Env → Prop) (h0 : Inv 0 δ)
    (turn : ∀ i δ, i < n → Inv i δ → ∀ K : Env → Prop, (∀ δ', Inv (i + 1) δ' → K δ') → ag (.int (lo + (i : Int))) δ fun δ3 => body { A with nx := K, ct := K, bk := A.nx } δ3)
    (fin : ∀ δ, Inv n δ → A.nx δ) : ∃ I : List D → Env → Prop, I (rngD lo n) δ ∧
    (∀ d r δ2, I (d :: r) δ2 → ag d δ2 fun δ3 => body { A with nx := I r, ct := I r, bk := A.nx } δ3) ∧ ∀ δ2, I [] δ2 → A.nx δ2 := by
  let R : List D → Env → Prop := fun ds => List.rec (motive := fun _ => Env → Prop) (fun δ => A.nx δ) (fun d _ K δ => ag d δ fun δ3 => body { A with nx := K, ct := K, bk := A.nx } δ3) ds
  have key : ∀ (m i : Nat) (δ : Env), i + m = n → Inv i δ → R (rngD (lo + (i : Int)) m) δ := by
    intro m
    induction m with
    | zero => exact fun i δ e h => fin δ (by rw [← e]; exact h)
    | succ m ih =>
      intro i δ e h
      rw [rngD_succ]
      refine turn i δ (by omega) h _ fun δ' h' => ?_
      have q := ih (i + 1) δ' (by omega) h'
      rw [show lo + (i : Int) + 1 = lo + ((i + 1 : Nat) : Int) by push_cast; omega]
      exact q
  have z := key n 0 δ (by omega) h0
  rw [show lo + ((0 : Nat) : Int) = lo by simp] at z
  exact ⟨R, z, fun d r δ2 h => h, fun δ2 h => h⟩
theorem for_r {lo z : Int} (n : Nat) (e : z.toNat = n) (Inv : Nat → Env → Prop) (h0 : Inv 0 δ)
    (turn : ∀ i δ, i < n → Inv i δ → ∀ K : Env → Prop, (∀ δ', Inv (i + 1) δ' → K δ') → ag (.int (lo + (i : Int))) δ fun δ3 => body { A with nx := K, ct := K, bk := A.nx } δ3)
    (fin : ∀ δ, Inv n δ → A.nx δ) : ∃ I : List D → Env → Prop, I (rngD lo z.toNat) δ ∧
    (∀ d r δ2, I (d :: r) δ2 → ag d δ2 fun δ3 => body { A with nx := I r, ct := I r, bk := A.nx } δ3) ∧ ∀ δ2, I [] δ2 → A.nx δ2 := by
  subst e
  exact for_rng lo _ Inv h0 turn fin
theorem for_r0 {z : Int} (n : Nat) (e : z.toNat = n) (Inv : Nat → Env → Prop) (h0 : Inv 0 δ)
    (turn : ∀ (i : Nat) δ, i < n → Inv i δ → ∀ K : Env → Prop, (∀ δ', Inv (i + 1) δ' → K δ') → ag (.int (i : Int)) δ fun δ3 => body { A with nx := K, ct := K, bk := A.nx } δ3)
    (fin : ∀ δ, Inv n δ → A.nx δ) : ∃ I : List D → Env → Prop, I (rngD 0 z.toNat) δ ∧
    (∀ d r δ2, I (d :: r) δ2 → ag d δ2 fun δ3 => body { A with nx := I r, ct := I r, bk := A.nx } δ3) ∧ ∀ δ2, I [] δ2 → A.nx δ2 :=
  for_r n e Inv h0 (fun i δ hi h K hK => by
    rw [Int.zero_add]
    exact turn i δ hi h K hK) fin
theorem rng0 (n : Nat) : rngD 0 n = (List.range n).map fun (i : Nat) => D.int (i : Int) := by
  unfold rngD
  apply List.map_congr_left
  intro i _
  rw [Int.zero_add]
theorem rng0z {z : Int} (n : Nat) (e : z.toNat = n) : rngD 0 z.toNat = (List.range n).map fun (i : Nat) => D.int (i : Int) := by rw [e, rng0]
theorem rngz {lo z : Int} (n : Nat) (e : z.toNat = n) : rngD lo z.toNat = (List.range n).map fun (i : Nat) => D.int (lo + (i : Int)) := by rw [e]; rfl
theorem for_enum (f : α → D) (xs : List α) (Inv : Nat → Env → Prop) (h0 : Inv 0 δ)
    (turn : ∀ i x δ, xs[i]? = some x → Inv i δ → ∀ K : Env → Prop, (∀ δ', Inv (i + 1) δ' → K δ') → ag (.tup [.int (i : Int), f x]) δ fun δ3 => body { A with nx := K, ct := K, bk := A.nx } δ3)
    (fin : ∀ δ, Inv xs.length δ → A.nx δ) : ∃ I : List D → Env → Prop, I (enumD 0 (xs.map f)) δ ∧
    (∀ d r δ2, I (d :: r) δ2 → ag d δ2 fun δ3 => body { A with nx := I r, ct := I r, bk := A.nx } δ3) ∧ ∀ δ2, I [] δ2 → A.nx δ2 := by
  let R : List D → Env → Prop := fun ds => List.rec (motive := fun _ => Env → Prop) (fun δ => A.nx δ) (fun d _ K δ => ag d δ fun δ3 => body { A with nx := K, ct := K, bk := A.nx } δ3) ds
  have key : ∀ (ys zs : List α) (δ : Env), xs = zs ++ ys → Inv zs.length δ → R (enumD zs.length (ys.map f)) δ := by
    intro ys
    induction ys with
    | nil => exact fun zs δ e h => fin δ (by rw [e, List.append_nil]; exact h)
    | cons y r ih =>
      intro zs δ e h
      refine turn zs.length y δ (by rw [e]; simp) h _ fun δ' h' => ?_
      have q := ih (zs ++ [y]) δ' (by rw [e]; simp) (by simpa using h')
      simpa using q
  exact ⟨R, key xs [] δ rfl h0, fun d r δ2 h => h, fun δ2 h => h⟩
theorem forM_i {j : Nat} {l : Addr} (f : α → D) (Inv : List α → Env → Prop) (xs : List α) (h0 : Inv xs δ) (held : ∀ r δ2, Inv r δ2 → gs δ2 j = .mu l (xs.map f))
    (turn : ∀ x r δ, Inv (x :: r) δ → ∀ K : Env → Prop, (∀ δ', Inv r δ' → K δ') → ag (f x) δ fun δ3 => body { A with nx := K, ct := K, bk := A.nx } δ3)
    (fin : ∀ δ, Inv [] δ → A.nx δ) : ∃ I : List D → Env → Prop, I (xs.map f) δ ∧ (∀ r δ2, I r δ2 → gs δ2 j = .mu l (xs.map f)) ∧
    (∀ d r δ2, I (d :: r) δ2 → ag d δ2 fun δ3 => body { A with nx := I r, ct := I r, bk := A.nx } δ3) ∧ ∀ δ2, I [] δ2 → A.nx δ2 := by
  refine ⟨fun ds δ => ∃ ys : List α, ds = ys.map f ∧ Inv ys δ, ⟨xs, rfl, h0⟩, ?_, ?_, ?_⟩
  · rintro r δ2 ⟨ys, _, h⟩
    exact held ys δ2 h
  · rintro d r δ2 ⟨ys, e, h⟩
    cases ys with
    | nil => cases e
    | cons y ys =>
      rw [List.map_cons] at e
      cases e
      exact turn y ys δ2 h _ fun δ' q => ⟨ys, rfl, q⟩
  · rintro δ2 ⟨ys, e, h⟩
    cases ys with
    | nil => exact fin δ2 h
    | cons y ys => cases e
theorem lc_i {A : List D → Env → Prop} (f : α → D) (xs : List α) (Inv : List α → List D → Env → Prop) (h0 : Inv xs [] δ)
    (turn : ∀ x r acc δ2, Inv (x :: r) acc δ2 → okw δ2 vs ∧ ∀ (Y : D → Env → Prop) (Z : Env → Prop), (∀ y δ5, acc.length < 16777216 → Inv r (acc ++ [y]) (bk δ2 δ5 vs) → Y y δ5) → (∀ δ4, Inv r acc (bk δ2 δ4 vs) → Z δ4) →
      ag (f x) (wp δ2 vs) fun δ3 => p δ3 fun c δ4 => if c = true then a δ4 Y else Z δ4)
    (fin : ∀ acc δ2, Inv [] acc δ2 → A acc δ2) : lcB ag p a vs (xs.map f) δ A := by
  let R : List D → List D → Env → Prop := fun ds => List.rec (motive := fun _ => List D → Env → Prop) (fun acc δ => A acc δ)
    (fun d _ K acc δ2 => okw δ2 vs ∧ ag d (wp δ2 vs) fun δ3 => p δ3 fun c δ4 => if c = true then a δ4 fun y δ5 => acc.length < 16777216 ∧ K (acc ++ [y]) (bk δ2 δ5 vs) else K acc (bk δ2 δ4 vs)) ds
  have key : ∀ (xs : List α) (acc : List D) (δ : Env), Inv xs acc δ → R (xs.map f) acc δ := by
    intro xs
    induction xs with
    | nil => exact fun acc δ h => fin acc δ h
    | cons x r ih =>
      intro acc δ h
      obtain ⟨h1, h2⟩ := turn x r acc δ h
      exact ⟨h1, h2 _ _ (fun y δ5 hl hi => ⟨hl, ih _ _ hi⟩) fun δ4 hi => ih _ _ hi⟩
  exact ⟨R, key xs [] δ h0, fun d r acc δ2 h => h, fun acc δ2 h => h⟩
theorem lc_ie {ds : List D} {A : List D → Env → Prop} (f : α → D) (xs : List α) (e : ds = xs.map f) (Inv : List α → List D → Env → Prop) (h0 : Inv xs [] δ)
    (turn : ∀ x r acc δ2, Inv (x :: r) acc δ2 → okw δ2 vs ∧ ∀ (Y : D → Env → Prop) (Z : Env → Prop), (∀ y δ5, acc.length < 16777216 → Inv r (acc ++ [y]) (bk δ2 δ5 vs) → Y y δ5) → (∀ δ4, Inv r acc (bk δ2 δ4 vs) → Z δ4) →
      ag (f x) (wp δ2 vs) fun δ3 => p δ3 fun c δ4 => if c = true then a δ4 Y else Z δ4)
    (fin : ∀ acc δ2, Inv [] acc δ2 → A acc δ2) : lcB ag p a vs ds δ A := by
  subst e
  exact lc_i f xs Inv h0 turn fin
theorem lc_p {A : List D → Env → Prop} (f : α → D) (xs : List α) (h : α → Option D) (hl : xs.length ≤ 16777216) (ok : okw δ vs)
    (step : ∀ x ∈ xs, ∀ (Y : D → Env → Prop) (Z : Env → Prop), (∀ y δ5, h x = some y → bk δ δ5 vs = δ → Y y δ5) → (∀ δ4, h x = none → bk δ δ4 vs = δ → Z δ4) →
      ag (f x) (wp δ vs) fun δ3 => p δ3 fun c δ4 => if c = true then a δ4 Y else Z δ4)
    (fin : A (xs.filterMap h) δ) : lcB ag p a vs (xs.map f) δ A := by
  refine lc_i f xs (fun r acc δ2 => δ2 = δ ∧ ∃ zs, xs = zs ++ r ∧ acc = zs.filterMap h) ⟨rfl, [], rfl, rfl⟩ ?_ ?_
  · rintro x r acc δ2 ⟨rfl, zs, e, rfl⟩
    have hm : x ∈ xs := by rw [e]; simp
    refine ⟨ok, fun Y Z hY hZ => step x hm Y Z (fun y δ5 e1 e2 => hY y δ5 ?_ ?_) fun δ4 e1 e2 => hZ δ4 ?_⟩
    · have h1 : (zs.filterMap h).length ≤ zs.length := List.length_filterMap_le ..
      have h2 : xs.length = zs.length + (r.length + 1) := by rw [e]; simp
      omega
    · exact ⟨e2, zs ++ [x], by rw [e]; simp, by rw [List.filterMap_append]; simp [e1]⟩
    · exact ⟨e2, zs ++ [x], by rw [e]; simp, by rw [List.filterMap_append]; simp [e1]⟩
  · rintro acc δ2 ⟨rfl, zs, e, rfl⟩
    rw [List.append_nil] at e
    subst e
    exact fin
theorem lc_pe {ds : List D} {A : List D → Env → Prop} (f : α → D) (xs : List α) (e : ds = xs.map f) (h : α → Option D) (hl : xs.length ≤ 16777216) (ok : okw δ vs)
    (step : ∀ x ∈ xs, ∀ (Y : D → Env → Prop) (Z : Env → Prop), (∀ y δ5, h x = some y → bk δ δ5 vs = δ → Y y δ5) → (∀ δ4, h x = none → bk δ δ4 vs = δ → Z δ4) →
      ag (f x) (wp δ vs) fun δ3 => p δ3 fun c δ4 => if c = true then a δ4 Y else Z δ4)
    (fin : A (xs.filterMap h) δ) : lcB ag p a vs ds δ A := by
  subst e
  exact lc_p f xs h hl ok step fin
/-- a choice -/
theorem lc_f {A : List D → Env → Prop} (f : α → D) (xs : List α) (c : α → Bool) (hl : xs.length ≤ 16777216) (ok : okw δ vs)
    (step : ∀ x ∈ xs, ∀ (Y : D → Env → Prop) (Z : Env → Prop), (c x = true → ∀ δ5, bk δ δ5 vs = δ → Y (f x) δ5) → (c x = false → ∀ δ4, bk δ δ4 vs = δ → Z δ4) →
      ag (f x) (wp δ vs) fun δ3 => p δ3 fun c δ4 => if c = true then a δ4 Y else Z δ4)
    (fin : A ((xs.filter c).map f) δ) : lcB ag p a vs (xs.map f) δ A := by
  refine lc_p f xs (fun x => if c x = true then some (f x) else none) hl ok (fun x hx Y Z hY hZ => ?_) ?_
  · refine step x hx Y Z (fun h δ5 e => hY _ δ5 ?_ e) fun h δ4 e => hZ δ4 ?_ e
    · rw [if_pos h]
    · rw [h]; rfl
  · rw [filterMap_if]
    exact fin
/-- a map -/
theorem lc_m {A : List D → Env → Prop} (f : α → D) (xs : List α) (g : α → D) (hl : xs.length ≤ 16777216) (ok : okw δ vs)
    (step : ∀ x ∈ xs, ∀ (Y : D → Env → Prop), (∀ δ5, bk δ δ5 vs = δ → Y (g x) δ5) → ag (f x) (wp δ vs) fun δ3 => a δ3 Y)
    (fin : A (xs.map g) δ) : lcB ag aYes a vs (xs.map f) δ A := by
  refine lc_p f xs (fun x => some (g x)) hl ok (fun x hx Y Z hY hZ => ?_) ?_
  · exact step x hx Y fun δ5 e => hY _ δ5 rfl e
  · rw [show xs.filterMap (fun x => some (g x)) = xs.map g from by induction xs with
      | nil => rfl
      | cons x r ih => simp]
    exact fin
theorem lc1_i {A : List D → Env → Prop} (f : α → D) (xs : List α) (g : α → D) (acc0 : List D) (hl : acc0.length + xs.length ≤ 16777216) (ok : okw δ vs)
    (step : ∀ x ∈ xs, ∀ (Y : D → Env → Prop), (∀ δ5, bk δ δ5 vs = δ → Y (g x) δ5) → ag (f x) (wp δ vs) fun δ3 => a δ3 Y)
    (fin : A (acc0 ++ xs.map g) δ) : lcB1 ag aYes a vs (xs.map f) acc0 δ A := by
  let R : List D → List D → Env → Prop := fun ds => List.rec (motive := fun _ => List D → Env → Prop) (fun acc δ => A acc δ)
    (fun d _ K acc δ2 => okw δ2 vs ∧ ag d (wp δ2 vs) fun δ3 => a δ3 fun y δ5 => acc.length < 16777216 ∧ K (acc ++ [y]) (bk δ2 δ5 vs)) ds
  have key : ∀ (r zs : List α), xs = zs ++ r → R (r.map f) (acc0 ++ zs.map g) δ := by
    intro r
    induction r with
    | nil =>
      intro zs e
      rw [List.append_nil] at e
      subst e
      exact fin
    | cons x r ih =>
      intro zs e
      have hm : x ∈ xs := by rw [e]; simp
      refine ⟨ok, step x hm _ fun δ5 e5 => ⟨?_, ?_⟩⟩
      · have h2 : xs.length = zs.length + (r.length + 1) := by rw [e]; simp
        simp only [List.length_append, List.length_map]
        omega
      · have q := ih (zs ++ [x]) (by rw [e]; simp)
        rw [e5]
        simpa using q
  exact ⟨R, by simpa using key xs [] rfl, fun d r acc δ2 h => h, fun acc δ2 h => h⟩
theorem lc2_p {A : List D → Env → Prop} (f : α → D) (xs : List α) (h : α → List D) (hl : (xs.flatMap h).length ≤ 16777216) (ok : okw δ vs)
    (step : ∀ x ∈ xs, ∀ (acc : List D) (Y : List D → Env → Prop) (Z : Env → Prop), acc.length + (h x).length ≤ 16777216 → (∀ δ5, bk δ δ5 vs = δ → Y (acc ++ h x) δ5) → (∀ δ4, h x = [] → bk δ δ4 vs = δ → Z δ4) →
      ag (f x) (wp δ vs) fun δ3 => p δ3 fun c δ4 => if c = true then ai1 δ4 fun es δ5 => lcB1 ag1 p1 a vs1 es acc δ5 Y else Z δ4)
    (fin : A (xs.flatMap h) δ) : lcB2 ag p ai1 ag1 p1 a vs vs1 (xs.map f) δ A := by
  let R : List D → List D → Env → Prop := fun ds => List.rec (motive := fun _ => List D → Env → Prop) (fun acc δ => A acc δ)
    (fun d _ K acc δ2 => okw δ2 vs ∧ ag d (wp δ2 vs) fun δ3 => p δ3 fun c δ4 => if c = true then ai1 δ4 fun es δ5 => lcB1 ag1 p1 a vs1 es acc δ5 fun acc1 δ6 => K acc1 (bk δ2 δ6 vs) else K acc (bk δ2 δ4 vs)) ds
  have key : ∀ (r zs : List α), xs = zs ++ r → R (r.map f) (zs.flatMap h) δ := by
    intro r
    induction r with
    | nil =>
      intro zs e
      rw [List.append_nil] at e
      subst e
      exact fin
    | cons x r ih =>
      intro zs e
      have hm : x ∈ xs := by rw [e]; simp
      have q := ih (zs ++ [x]) (by rw [e]; simp)
      refine ⟨ok, step x hm _ _ _ ?_ (fun δ5 e5 => ?_) fun δ4 e1 e4 => ?_⟩
      · rw [e] at hl
        simp only [List.flatMap_append, List.flatMap_cons, List.length_append] at hl
        omega
      · show R _ _ (bk δ δ5 vs)
        rw [e5]
        simpa using q
      · show R _ _ (bk δ δ4 vs)
        rw [e4]
        simpa [e1] using q
  exact ⟨R, key xs [] rfl, fun d r acc δ2 h => h, fun acc δ2 h => h⟩
end
section
variable {α : Type} {ag ag1 : AG} {δ : Env} {p p1 : AT} {a : AE} {ai1 : AI} {vs vs1 : List Nat}
theorem lc_me {ds : List D} {A : List D → Env → Prop} (f : α → D) (xs : List α) (e : ds = xs.map f) (g : α → D) (hl : xs.length ≤ 16777216) (ok : okw δ vs)
    (step : ∀ x ∈ xs, ∀ (Y : D → Env → Prop), (∀ δ5, bk δ δ5 vs = δ → Y (g x) δ5) → ag (f x) (wp δ vs) fun δ3 => a δ3 Y)
    (fin : A (xs.map g) δ) : lcB ag aYes a vs ds δ A := by
  subst e
  exact lc_m f xs g hl ok step fin
theorem lc2_pe {ds : List D} {A : List D → Env → Prop} (f : α → D) (xs : List α) (e : ds = xs.map f) (h : α → List D) (hl : (xs.flatMap h).length ≤ 16777216) (ok : okw δ vs)
    (step : ∀ x ∈ xs, ∀ (acc : List D) (Y : List D → Env → Prop) (Z : Env → Prop), acc.length + (h x).length ≤ 16777216 → (∀ δ5, bk δ δ5 vs = δ → Y (acc ++ h x) δ5) → (∀ δ4, h x = [] → bk δ δ4 vs = δ → Z δ4) →
      ag (f x) (wp δ vs) fun δ3 => p δ3 fun c δ4 => if c = true then ai1 δ4 fun es δ5 => lcB1 ag1 p1 a vs1 es acc δ5 Y else Z δ4)
    (fin : A (xs.flatMap h) δ) : lcB2 ag p ai1 ag1 p1 a vs vs1 ds δ A := by
  subst e
  exact lc2_p f xs h hl ok step fin
end
theorem ite_b {c : Bool} {P Q : Prop} (h1 : c = true → P) (h2 : c = false → Q) : if c = true then P else Q := by
  cases c
  · exact h2 rfl
  · exact h1 rfl
theorem ite_y {c : Bool} {P Q : Prop} (h : c = true) (h1 : P) : if c = true then P else Q := by rw [if_pos h]; exact h1
theorem ite_n {c : Bool} {P Q : Prop} (h : c = false) (h1 : Q) : if c = true then P else Q := by rw [h]; exact h1

/-! ### data -/
mutual
def itr : D → Bool
  | .int _ => true
  | .tup xs => itrs xs
  | .lst xs => itrs xs
  | _ => false
def itrs : List D → Bool
  | [] => true
  | x :: r => itr x && itrs r
end
theorem itrs_iff : ∀ {xs : List D}, itrs xs = true ↔ ∀ x ∈ xs, itr x = true
  | [] => by simp [itrs]
  | x :: r => by
    rw [itrs, Bool.and_eq_true, itrs_iff (xs := r)]
    simp
mutual
theorem itr_pln : ∀ d : D, itr d = true → pln d = true ∧ (toPy d).canLay0 = true
  | .int i, _ => by simp [pln, toPy, PyData.canLay0]
  | .tup xs, h => by
    have q := itrs_pln xs (by simpa [itr] using h)
    exact ⟨by simpa [pln] using q.1, by simpa [toPy, PyData.canLay0] using q.2⟩
  | .lst xs, h => by
    have q := itrs_pln xs (by simpa [itr] using h)
    exact ⟨by simpa [pln] using q.1, by simpa [toPy, PyData.canLay0] using q.2⟩
  | .non, h => by simp [itr] at h
  | .bl _, h => by simp [itr] at h
  | .rule _, h => by simp [itr] at h
  | .cut _, h => by simp [itr] at h
  | .scr _, h => by simp [itr] at h
theorem itrs_pln : ∀ xs : List D, itrs xs = true → plns xs = true ∧ PyData.canLayAll0 (toPys xs) = true
  | [], _ => by simp [plns, toPys, PyData.canLayAll0]
  | x :: r, h => by
    rw [itrs, Bool.and_eq_true] at h
    have q1 := itr_pln x h.1
    have q2 := itrs_pln r h.2
    simp [plns, toPys, PyData.canLayAll0, q1, q2]
end
mutual
theorem eqv_itr : ∀ d e : D, itr d = true → itr e = true → (PyData.eqv (toPy d) (toPy e) = true ↔ d = e)
  | .int i, .int j, _, _ => by simp [toPy, PyData.eqv]
  | .int i, .tup xs, _, _ => by simp [toPy, PyData.eqv]
  | .int i, .lst xs, _, _ => by simp [toPy, PyData.eqv]
  | .tup xs, .int j, _, _ => by simp [toPy, PyData.eqv]
  | .lst xs, .int j, _, _ => by simp [toPy, PyData.eqv]
  | .tup xs, .lst ys, _, _ => by simp [toPy, PyData.eqv]
  | .lst xs, .tup ys, _, _ => by simp [toPy, PyData.eqv]
  | .tup xs, .tup ys, h1, h2 => by
    have q := eqvs_itr xs ys (by simpa [itr] using h1) (by simpa [itr] using h2)
    simp [toPy, PyData.eqv, q]
  | .lst xs, .lst ys, h1, h2 => by
    have q := eqvs_itr xs ys (by simpa [itr] using h1) (by simpa [itr] using h2)
    simp [toPy, PyData.eqv, q]
  | .non, _, h, _ => by simp [itr] at h
  | .bl _, _, h, _ => by simp [itr] at h
  | .rule _, _, h, _ => by simp [itr] at h
  | .cut _, _, h, _ => by simp [itr] at h
  | .scr _, _, h, _ => by simp [itr] at h
  | _, .non, _, h => by simp [itr] at h
  | _, .bl _, _, h => by simp [itr] at h
  | _, .rule _, _, h => by simp [itr] at h
  | _, .cut _, _, h => by simp [itr] at h
  | _, .scr _, _, h => by simp [itr] at h
theorem eqvs_itr : ∀ xs ys : List D, itrs xs = true → itrs ys = true → (PyData.eqvAll (toPys xs) (toPys ys) = true ↔ xs = ys)
  | [], [], _, _ => by simp [toPys, PyData.eqvAll]
  | [], _ :: _, _, _ => by simp [toPys, PyData.eqvAll]
  | _ :: _, [], _, _ => by simp [toPys, PyData.eqvAll]
  | x :: r, y :: s, h1, h2 => by
    rw [itrs, Bool.and_eq_true] at h1 h2
    have q1 := eqv_itr x y h1.1 h2.1
    have q2 := eqvs_itr r s h1.2 h2.2
    simp [toPys, PyData.eqvAll, q1, q2]
end
theorem eqD_iff {d e : D} (h1 : itr d = true) (h2 : itr e = true) : eqD d e = true ↔ d = e := eqv_itr d e h1 h2
theorem depthAll_le {n : Nat} : ∀ {xs : List D}, (∀ x ∈ xs, (toPy x).depth ≤ n) → PyData.depthAll (toPys xs) ≤ n
  | [], _ => by simp [toPys, PyData.depthAll]
  | x :: r, h => by
    have h1 := h x (by simp)
    have h2 := depthAll_le (n := n) (xs := r) fun y hy => h y (by simp [hy])
    simp only [toPys, PyData.depthAll]
    omega
theorem depth_tup {n : Nat} {xs : List D} (h : ∀ x ∈ xs, (toPy x).depth ≤ n) : (toPy (.tup xs)).depth ≤ n + 1 := by
  have := depthAll_le h
  simp only [toPy, PyData.depth]
  omega
theorem depth_lst {n : Nat} {xs : List D} (h : ∀ x ∈ xs, (toPy x).depth ≤ n) : (toPy (.lst xs)).depth ≤ n + 1 := by
  have := depthAll_le h
  simp only [toPy, PyData.depth]
  omega
theorem depth_int (i : Int) : (toPy (.int i)).depth ≤ 0 := by simp [toPy, PyData.depth]
theorem cmpOk_of {d : D} (h : itr d = true) {n : Nat} (hd : (toPy d).depth ≤ n) (hn : n ≤ 64 := by decide) : cmpOk d = true := by
  have q := itr_pln d h
  unfold cmpOk SeqAt.shaped
  rw [q.1, q.2]
  simp
  omega
theorem itr_int (i : Int) : itr (.int i) = true := by simp [itr]
theorem itr_tup {xs : List D} (h : ∀ x ∈ xs, itr x = true) : itr (.tup xs) = true := by rw [itr]; exact itrs_iff.mpr h
theorem itr_lst {xs : List D} (h : ∀ x ∈ xs, itr x = true) : itr (.lst xs) = true := by rw [itr]; exact itrs_iff.mpr h
theorem itr_term (t : Term) : itr (termD t) = true := by simp [termD, itr, itrs]
theorem depth_term (t : Term) : (toPy (termD t)).depth ≤ 1 := depth_tup (by
  intro x hx
  simp only [List.mem_cons, List.not_mem_nil, or_false] at hx
  rcases hx with rfl | rfl <;> exact depth_int _)
theorem itr_pre (p : Pre) : itr (preD p) = true := itr_tup (by
  intro x hx
  obtain ⟨t, _, rfl⟩ := List.mem_map.mp hx
  exact itr_term t)
theorem depth_pre (p : Pre) : (toPy (preD p)).depth ≤ 2 := depth_tup (by
  intro x hx
  obtain ⟨t, _, rfl⟩ := List.mem_map.mp hx
  exact depth_term t)
theorem itr_roll (r : Roll) : itr (rollD r) = true := itr_tup (by
  intro x hx
  obtain ⟨t, _, rfl⟩ := List.mem_map.mp hx
  exact itr_int t)
theorem depth_roll (p : Roll) : (toPy (rollD p)).depth ≤ 1 := depth_tup (by
  intro x hx
  obtain ⟨t, _, rfl⟩ := List.mem_map.mp hx
  exact depth_int t)
theorem itr_row (r : Rw) : itr (rowD r) = true := itr_tup (by
  intro x hx
  simp only [List.mem_cons, List.not_mem_nil, or_false] at hx
  rcases hx with rfl | rfl | rfl
  · exact itr_pre _
  · exact itr_int _
  · exact itr_int _)
theorem depth_row (r : Rw) : (toPy (rowD r)).depth ≤ 3 := depth_tup (by
  intro x hx
  simp only [List.mem_cons, List.not_mem_nil, or_false] at hx
  rcases hx with rfl | rfl | rfl
  · exact depth_pre _
  · exact Nat.le_trans (depth_int _) (by decide)
  · exact Nat.le_trans (depth_int _) (by decide))
theorem itr_map {α : Type} {f : α → D} (h : ∀ x, itr (f x) = true) (b : Bool) (xs : List α) : itr (seqD b (xs.map f)) = true := by
  have q : ∀ x ∈ xs.map f, itr x = true := fun x hx => by
    obtain ⟨t, _, rfl⟩ := List.mem_map.mp hx
    exact h t
  cases b
  · exact itr_lst q
  · exact itr_tup q
theorem depth_map {α : Type} {f : α → D} {n : Nat} (h : ∀ x, (toPy (f x)).depth ≤ n) (b : Bool) (xs : List α) : (toPy (seqD b (xs.map f))).depth ≤ n + 1 := by
  have q : ∀ x ∈ xs.map f, (toPy x).depth ≤ n := fun x hx => by
    obtain ⟨t, _, rfl⟩ := List.mem_map.mp hx
    exact h t
  cases b
  · exact depth_lst q
  · exact depth_tup q
theorem term_inj {t u : Term} (h : termD t = termD u) : t = u := by
  obtain ⟨a, b⟩ := t
  obtain ⟨c, d⟩ := u
  simp [termD] at h
  simp [h]
theorem map_inj {α : Type} {f : α → D} (h : ∀ x y, f x = f y → x = y) : ∀ {xs ys : List α}, xs.map f = ys.map f → xs = ys
  | [], [], _ => rfl
  | [], _ :: _, e => by simp at e
  | _ :: _, [], e => by simp at e
  | x :: r, y :: s, e => by
    rw [List.map_cons, List.map_cons] at e
    injection e with e1 e2
    rw [h _ _ e1, map_inj h e2]
theorem pre_inj {p q : Pre} (h : preD p = preD q) : p = q := map_inj (fun _ _ => term_inj) (D.tup.inj h)
theorem int_inj {i j : Int} (h : D.int i = D.int j) : i = j := D.int.inj h
theorem roll_inj {p q : Roll} (h : rollD p = rollD q) : p = q := map_inj (fun _ _ => int_inj) (D.tup.inj h)
theorem row_inj {r s : Rw} (h : rowD r = rowD s) : r = s := by
  obtain ⟨a, b, c⟩ := r
  obtain ⟨a', b', c'⟩ := s
  simp [rowD] at h
  rw [pre_inj h.1, h.2.1, h.2.2]
theorem eqD_pre (p q : Pre) : eqD (preD p) (preD q) = decide (p = q) := by
  have h := eqD_iff (itr_pre p) (itr_pre q)
  by_cases e : p = q
  · rw [decide_eq_true e]; exact h.mpr (by rw [e])
  · rw [decide_eq_false e]
    cases z : eqD (preD p) (preD q)
    · rfl
    · exact absurd (pre_inj (h.mp z)) e
theorem eqD_self {d : D} (h : itr d = true) : eqD d d = true := (eqD_iff h h).mpr rfl
theorem eqD_not {d e : D} (h1 : itr d = true) (h2 : itr e = true) (n : d ≠ e) : eqD d e = false := by
  cases z : eqD d e
  · rfl
  · exact absurd ((eqD_iff h1 h2).mp z) n
theorem cmpOk_pre (p : Pre) : cmpOk (preD p) = true := cmpOk_of (itr_pre p) (depth_pre p)
theorem cmpOk_rows (b : Bool) (rs : List Rw) : cmpOk (seqD b (rs.map rowD)) = true := cmpOk_of (itr_map itr_row b rs) (depth_map depth_row b rs)
theorem cmpOk_pres (b : Bool) (rs : List Pre) : cmpOk (seqD b (rs.map preD)) = true := cmpOk_of (itr_map itr_pre b rs) (depth_map depth_pre b rs)
theorem cmpOk_rolls (b : Bool) (rs : List Roll) : cmpOk (seqD b (rs.map rollD)) = true := cmpOk_of (itr_map itr_roll b rs) (depth_map depth_roll b rs)
theorem cmpOk_terms (b : Bool) (rs : Pre) : cmpOk (seqD b (rs.map termD)) = true := cmpOk_of (itr_map itr_term b rs) (depth_map depth_term b rs)
theorem cmpOk_ints (b : Bool) (rs : List Int) : cmpOk (seqD b (rs.map D.int)) = true := cmpOk_of (itr_map itr_int b rs) (depth_map depth_int b rs)
theorem cmpOk_nil : cmpOk (.lst []) = true := cmpOk_ints false []
theorem cmpOk_term (t : Term) : cmpOk (termD t) = true := cmpOk_of (itr_term t) (depth_term t)
theorem cmpOk_scr (ns : List Int) : cmpOk (.scr ns) = true := by
  have := cmpOk_ints false ns
  have e : toPy (.scr ns) = toPy (seqD false (ns.map D.int)) := by
    show PyData.list (ns.map PyData.int) = PyData.list (toPys (ns.map D.int))
    rw [toPys_ints]
  unfold cmpOk at this ⊢
  rw [e, (cmp_split (d := seqD false (ns.map D.int)) this).2]
  simp [pln]
theorem eqD_scr_nil (ns : List Int) : eqD (.scr ns) (.lst []) = decide (ns = []) := by
  show PyData.eqv (.list (ns.map PyData.int)) (.list (toPys [])) = _
  cases ns <;> simp [toPys, PyData.eqv, PyData.eqvAll]
theorem eqD_map_nil {α : Type} {f : α → D} (xs : List α) : eqD (.lst (xs.map f)) (.lst []) = decide (xs = []) := by
  show PyData.eqv (.list (toPys (xs.map f))) (.list (toPys [])) = _
  cases xs <;> simp [toPys, PyData.eqv, PyData.eqvAll]
/-- what is at a place -/
theorem at_nat {α : Type} {xs : List α} {j : Nat} {v : α} (h : xs[j]? = some v) : atI xs (j : Int) = some v := atI_nat h
theorem at_map {α β : Type} {f : α → β} {xs : List α} {i : Int} {v : α} (h : atI xs i = some v) : atI (xs.map f) i = some (f v) := by
  unfold atI at h ⊢
  rw [List.length_map]
  cases e : ixN xs.length i with
  | none => rw [e] at h; cases h
  | some j =>
    rw [e] at h
    show (xs.map f)[j]? = _
    rw [List.getElem?_map, show xs[j]? = some v from h]
    rfl
theorem at_vl {x : Roll} {m : Int} (h0 : 0 ≤ m) (h1 : m < (x.length : Int)) : atI (x.map D.int) m = some (.int (vl x m)) := by
  refine at_map ?_
  have e : m = ((m.toNat : Nat) : Int) := by omega
  rw [e]
  refine at_nat ?_
  unfold vl
  rw [List.getD_eq_getElem?_getD]
  have : m.toNat < x.length := by omega
  rw [← e, List.getElem?_eq_getElem this]
  rfl
theorem at_rl {sh : Shelf} {i : Nat} (h : i < sh.length) : atI (sh.map rollD) (i : Int) = some (rollD (rl sh i)) := by
  refine at_map (at_nat ?_)
  unfold rl
  rw [List.getD_eq_getElem?_getD, List.getElem?_eq_getElem h]
  rfl
theorem cut_take {α : Type} (xs : List α) (i : Nat) : cutD xs none (some (i : Int)) = xs.take i := by
  unfold cutD
  rw [HT.sIx_none, HT.sIx_nat, List.drop_zero, Nat.sub_zero]
  by_cases h : i ≤ xs.length
  · rw [Nat.min_eq_left h]
  · rw [Nat.min_eq_right (by omega), List.take_of_length_le (Nat.le_refl _), List.take_of_length_le (by omega)]
theorem cut_drop {α : Type} (xs : List α) (i : Nat) : cutD xs (some (i : Int)) none = xs.drop i := by
  unfold cutD
  rw [HT.sIx_none, HT.sIx_nat]
  by_cases h : i ≤ xs.length
  · rw [Nat.min_eq_left h, List.take_of_length_le (by simp)]
  · rw [Nat.min_eq_right (by omega), List.drop_of_length_le (Nat.le_refl _), List.drop_of_length_le (by omega), List.take_nil]
theorem cut_init {α : Type} (xs : List α) : cutD xs none (some (-1)) = xs.dropLast := by
  unfold cutD
  rw [HT.sIx_none, List.drop_zero, Nat.sub_zero, List.dropLast_eq_take]
  congr 1
  show ((-1 : Int) + (xs.length : Int)).toNat = _
  omega
theorem cut_last {α : Type} (xs : List α) : cutD xs (some (-1)) none = lastL xs := by
  unfold cutD lastL
  rw [HT.sIx_none]
  have e : HT.sIx xs.length 0 (some (-1)) = xs.length - 1 := by
    show ((-1 : Int) + (xs.length : Int)).toNat = _
    omega
  rw [e]
  exact List.take_of_length_le (by simp)
theorem any_pre (q : Pre) : ∀ ps : List Pre, ((ps.map preD).any fun z => eqD z (preD q)) = decide (q ∈ ps)
  | [] => rfl
  | p :: r => by
    rw [List.map_cons, List.any_cons, any_pre q r, eqD_pre]
    by_cases h : p = q
    · simp [h]
    · have h' : ¬ q = p := fun z => h z.symm
      simp [h, h']
theorem any_term (q : Term) : ∀ ps : Pre, ((ps.map termD).any fun z => eqD z (termD q)) = decide (q ∈ ps)
  | [] => rfl
  | p :: r => by
    rw [List.map_cons, List.any_cons, any_term q r]
    by_cases h : p = q
    · subst h
      rw [eqD_self (itr_term p)]
      simp
    · have h' : ¬ q = p := fun z => h z.symm
      rw [eqD_not (itr_term p) (itr_term q) fun z => h (term_inj z)]
      simp [h']
theorem at_ints {xs : List Int} {z : Int} (h0 : 0 ≤ z) (h1 : z < (xs.length : Int)) : ∃ v, v ∈ xs ∧ atI (xs.map D.int) z = some (.int v) := by
  have h : z.toNat < xs.length := by omega
  refine ⟨xs[z.toNat], List.getElem_mem h, at_map ?_⟩
  have e : z = ((z.toNat : Nat) : Int) := by omega
  exact (congrArg (atI xs) e).trans (at_nat (List.getElem?_eq_getElem h))
theorem fIx_ints {A : D → Prop} (xs : List Int) {z : Int} (h0 : 0 ≤ z) (h1 : z < (xs.length : Int)) (hA : ∀ v, v ∈ xs → A (.int v)) : fIx (.lst (xs.map D.int)) (.int z) A := by
  obtain ⟨v, h2, h3⟩ := at_ints h0 h1
  exact ⟨.int v, h3, hA v h2⟩
theorem fIx_seq {b : Bool} {xs : List D} {i : Int} {d : D} {A : D → Prop} (h : atI xs i = some d) (hA : A d) : fIx (seqD b xs) (.int i) A := by
  cases b <;> exact ⟨d, h, hA⟩
theorem fIx_tup {xs : List D} {i : Int} {d : D} {A : D → Prop} (h : atI xs i = some d) (hA : A d) : fIx (.tup xs) (.int i) A := ⟨d, h, hA⟩
theorem fIx_lst {xs : List D} {i : Int} {d : D} {A : D → Prop} (h : atI xs i = some d) (hA : A d) : fIx (.lst xs) (.int i) A := ⟨d, h, hA⟩
theorem fIx_roll {x : Roll} {m : Int} {A : D → Prop} (h0 : 0 ≤ m) (h1 : m < (x.length : Int)) (hA : A (.int (vl x m))) : fIx (rollD x) (.int m) A := fIx_tup (at_vl h0 h1) hA
theorem fIx_sh {b : Bool} {sh : Shelf} {i : Nat} {A : D → Prop} (h : i < sh.length) (hA : A (rollD (rl sh i))) : fIx (seqD b (sh.map rollD)) (.int (i : Int)) A := fIx_seq (at_rl h) hA
theorem rl_len {n : Nat} {sh : Shelf} {i : Nat} (h : shOk n sh) (hi : i < sh.length) : (rl sh i).length = n := by
  unfold rl
  rw [List.getD_eq_getElem?_getD, List.getElem?_eq_getElem hi]
  exact h.2 _ (List.getElem_mem hi)
theorem fLen_seq {b : Bool} {xs : List D} {A : D → Prop} (h : A (.int xs.length)) : fLen [seqD b xs] A := by cases b <;> exact h
end Ab
set_option maxHeartbeats 1000000
namespace Ab
open PySem PySem.Spec PyProof.Rows L2
/-! plain facts of terms and rows -/
theorem mem_frees {p : Pre} {n m : Nat} : m ∈ frees p n ↔ m < n ∧ (m : Int) ∉ p.map (·.1) := by
  unfold frees
  simp
theorem mem_behind {p : Pre} {n : Nat} {t : Term} : t ∈ behind p n ↔ 0 ≤ t.1 ∧ t.1 < (n : Int) ∧ (t.2 = 1 ∨ t.2 = -1) ∧ t.1 ∉ p.map (·.1) := by
  obtain ⟨m, d⟩ := t
  unfold behind
  rw [List.mem_flatMap]
  constructor
  · rintro ⟨a, ha, hm⟩
    obtain ⟨h1, h2⟩ := mem_frees.mp ha
    simp only [List.mem_cons, List.not_mem_nil, or_false, Prod.mk.injEq] at hm
    rcases hm with ⟨rfl, rfl⟩ | ⟨rfl, rfl⟩
    · exact ⟨by omega, by simp; omega, .inl rfl, h2⟩
    · exact ⟨by omega, by simp; omega, .inr rfl, h2⟩
  · rintro ⟨h0, h1, h2, h3⟩
    have e : m = ((m.toNat : Nat) : Int) := by simp at h0; omega
    refine ⟨m.toNat, mem_frees.mpr ⟨by simp at h1 h0; omega, by rw [← e]; exact h3⟩, ?_⟩
    rw [← e]
    rcases h2 with h2 | h2 <;> simp at h2 <;> simp [h2]
theorem frees_length (p : Pre) (n : Nat) : (frees p n).length ≤ n := by
  unfold frees
  have := List.length_filter_le (fun (m : Nat) => decide ((m : Int) ∉ p.map (·.1))) (List.range n)
  simpa using this
theorem behind_length (p : Pre) (n : Nat) : (behind p n).length ≤ 2 * n := by
  have h := frees_length p n
  unfold behind
  have : ∀ ms : List Nat, (ms.flatMap fun (m : Nat) => [((m : Int), (1 : Int)), ((m : Int), (-1 : Int))]).length = 2 * ms.length := by
    intro ms
    induction ms with
    | nil => rfl
    | cons m r ih => rw [List.flatMap_cons, List.length_append, ih, List.length_cons]; simp; omega
  rw [this]
  omega
theorem filter_lt {p q : Nat → Bool} : ∀ {ms : List Nat} {m : Nat}, m ∈ ms → p m = true → q m = false → (∀ a ∈ ms, q a = true → p a = true) → (ms.filter q).length < (ms.filter p).length
  | [], _, h, _, _, _ => by cases h
  | a :: r, m, h, h1, h2, h3 => by
    have le : (r.filter q).length ≤ (r.filter p).length := by
      clear h
      have h3' : ∀ b ∈ r, q b = true → p b = true := fun b hb => h3 b (by simp [hb])
      clear h3
      induction r with
      | nil => exact Nat.le_refl _
      | cons b r ih =>
        have ih := ih fun c hc => h3' c (by simp [hc])
        have hb := h3' b (by simp)
        simp only [List.filter_cons]
        cases e : q b
        · cases p b <;> simp <;> omega
        · rw [hb e]; simp; omega
    rcases List.mem_cons.mp h with e | h
    · subst e
      simp only [List.filter_cons, h1, h2]
      simp
      omega
    · have ih := filter_lt h h1 h2 fun b hb => h3 b (by simp [hb])
      have ha := h3 a (by simp)
      simp only [List.filter_cons]
      cases e : q a
      · cases p a <;> simp <;> omega
      · rw [ha e]; simp; omega
theorem frees_less {p : Pre} {n : Nat} {t : Term} (h : t ∈ behind p n) : (frees (p ++ [t]) n).length < (frees p n).length := by
  obtain ⟨h0, h1, _, h3⟩ := mem_behind.mp h
  have e : t.1 = ((t.1.toNat : Nat) : Int) := by omega
  refine filter_lt (m := t.1.toNat) (by simp; omega) ?_ ?_ ?_
  · rw [← e]; exact decide_eq_true h3
  · rw [← e]; exact decide_eq_false (by simp)
  · intro a _ ha
    have := of_decide_eq_true ha
    refine decide_eq_true fun z => this ?_
    rw [List.map_append]
    exact List.mem_append_left _ z
theorem isPre_at {p : Pre} {n : Nat} (h : isPre p n = true) {i : Nat} (hi : i < p.length) : p.getD i (0, 0) ∈ behind (p.take i) n := by
  unfold isPre at h
  rw [Bool.and_eq_true, List.all_eq_true] at h
  exact of_decide_eq_true (h.1 i (by simp [hi]))
theorem isPre_inR {p : Pre} {n : Nat} (h : isPre p n = true) : inR n p := by
  intro t ht
  obtain ⟨i, hi, e⟩ := List.getElem_of_mem ht
  have q := isPre_at h hi
  rw [List.getD_eq_getElem?_getD, List.getElem?_eq_getElem hi] at q
  have q : p[i] ∈ behind (p.take i) n := q
  rw [e] at q
  exact ⟨(mem_behind.mp q).1, (mem_behind.mp q).2.1⟩
def okRow (n : Nat) (p : Pre) : Prop := p.length = n ∧ (∀ t ∈ p, 0 ≤ t.1 ∧ t.1 < (n : Int) ∧ (t.2 = 1 ∨ t.2 = -1)) ∧ (p.map (·.1)).Nodup
instance (n : Nat) (p : Pre) : Decidable (okRow n p) := by unfold okRow; infer_instance
theorem full_fin : ∀ n : Fin 4, (∀ p ∈ fullRows n.val, okRow n.val p) ∧ (fullRows n.val).length ≤ 48 := by decide +kernel
theorem full_ok {n : Nat} (hn : n ≤ 3) {p : Pre} (h : p ∈ fullRows n) : okRow n p := (full_fin ⟨n, by omega⟩).1 p h
theorem full_len {n : Nat} (hn : n ≤ 3) : (fullRows n).length ≤ 48 := (full_fin ⟨n, by omega⟩).2
theorem fullN_fin : ∀ n : Fin 4, ∀ i : Fin 4, i.val ≤ n.val → ((fullN n.val i.val).head?.map (·.length)) = some i.val ∧ (fullN n.val i.val).length ≤ 48 ∧ ∀ p ∈ fullN n.val i.val, p.length = i.val := by decide +kernel
theorem fullN_ok {n i : Nat} (hn : n ≤ 3) (hi : i ≤ n) : ((fullN n i).head?.map (·.length)) = some i ∧ (fullN n i).length ≤ 48 ∧ ∀ p ∈ fullN n i, p.length = i := fullN_fin ⟨n, by omega⟩ ⟨i, by omega⟩ hi
theorem okRow.inR {n : Nat} {p : Pre} (h : okRow n p) : inR n p := fun t ht => ⟨(h.2.1 t ht).1, (h.2.1 t ht).2.1⟩
theorem flat_len {α β : Type} {k : Nat} {f : α → List β} : ∀ {xs : List α}, (∀ x ∈ xs, (f x).length ≤ k) → (xs.flatMap f).length ≤ k * xs.length
  | [], _ => by simp
  | x :: r, h => by
    have h1 := h x (by simp)
    have h2 := flat_len (xs := r) fun y hy => h y (by simp [hy])
    rw [List.flatMap_cons, List.length_append, List.length_cons, Nat.mul_add]
    omega
theorem inR_take {n : Nat} {p : Pre} (h : inR n p) (i : Nat) : inR n (p.take i) := fun t ht => h t (List.mem_of_mem_take ht)
theorem inR_last {n : Nat} {p : Pre} (h : inR n p) : inR n (lastL p) := fun t ht => h t (List.mem_of_mem_drop ht)
theorem inR_init {n : Nat} {p : Pre} (h : inR n p) : inR n p.dropLast := fun t ht => h t (List.dropLast_subset p ht)
theorem inR_snoc {n : Nat} {p : Pre} {t : Term} (h : inR n p) (ht : 0 ≤ t.1 ∧ t.1 < (n : Int)) : inR n (p ++ [t]) := fun u hu => by
  rcases List.mem_append.mp hu with q | q
  · exact h u q
  · rw [List.mem_singleton.mp q]; exact ht
theorem shut_split (p : Pre) (x y : Roll) : shut p x y = ((p.dropLast.all fun t => decide (vl x t.1 = vl y t.1)) && decide (cmp (lastL p) x y = 1)) := rfl
end Ab
set_option maxHeartbeats 1000000
namespace Ab
open PySem PySem.Spec PyProof.Rows L2
abbrev ED (A : D → Prop) : AEnds := { nx := fun _ => A .non, rt := fun d _ => A d }
abbrev EO (A : List D → Prop) : AEnds := { nx := fun _ => False, rt := fun _ _ => False, ro := fun d _ => A d }
abbrev EB (l : Addr) (A : D → List D → Prop) : AEnds := { nx := fun _ => False, rt := fun d δ => isM (gs δ 0) fun l' cs => l' = l ∧ A d cs }
theorem rd_is_integer : ∀ ds A, fs_is_integer ds A → as_is_integer (ED A) (envOf 1 (ds.map .da)) := by
  rintro _ A ⟨i, rfl, h⟩
  exact h
theorem rd_l_integer : ∀ ds A, fs_l_integer ds A → as_l_integer (ED A) (envOf 1 (ds.map .da)) := by
  rintro _ A ⟨i, rfl, h⟩
  exact h
theorem rd_is_term : ∀ ds A, fs_is_term ds A → as_is_term (ED A) (envOf 3 (ds.map .da)) := by
  rintro _ A ⟨⟨m, d⟩, rfl, h0, h1, hd, h⟩
  refine ⟨m, rfl, ?_⟩
  refine ⟨d, rfl, ?_⟩
  refine ite_y (decide_eq_true h0) ?_
  refine ite_y (decide_eq_true h1) ?_
  refine ⟨by decide, [1, -1], rfl, ?_⟩
  rcases hd with rfl | rfl <;> exact h
theorem cmp_cons (m d : Int) (r : Pre) (x y : Roll) : cmp ((m, d) :: r) x y = if vl x m ≠ vl y m then (if decide (vl x m < vl y m) = decide (d = 1) then -1 else 1) else cmp r x y := rfl
theorem side_cons (m d : Int) (r : Pre) (x y : Roll) : side ((m, d) :: r) x y = if vl x m ≠ vl y m then (if vl y m < vl x m then d else -d) else side r x y := rfl
theorem rd_compare_by : ∀ ds A, fs_compare_by ds A → as_compare_by (ED A) (envOf 5 (ds.map .da)) := by
  rintro _ A ⟨t, n, x, y, rfl, ht, hx, hy, h⟩
  refine for_i termD (fun r δ => (∃ s3 s4, δ = [.da (preD t), .da (rollD x), .da (rollD y), s3, s4]) ∧ inR n r ∧ cmp t x y = cmp r x y) t ⟨⟨.un, .un, rfl⟩, ht, rfl⟩ ?_ ?_
  · rintro ⟨m, d⟩ r _ ⟨⟨s3, s4, rfl⟩, hr, e⟩ K hK
    have hm := hr (m, d) (by simp)
    have hr' : inR n r := fun u hu => hr u (by simp [hu])
    rw [cmp_cons] at e
    refine fIx_roll hm.1 (by rw [hx]; exact hm.2) ?_
    refine fIx_roll hm.1 (by rw [hy]; exact hm.2) ?_
    refine ite_b (fun c => ?_) (fun c => ?_)
    · have c' : vl x m ≠ vl y m := by simpa using c
      rw [if_pos c'] at e
      refine fIx_roll hm.1 (by rw [hx]; exact hm.2) ?_
      refine fIx_roll hm.1 (by rw [hy]; exact hm.2) ?_
      refine ite_b (fun c2 => ?_) (fun c2 => ?_)
      · rw [if_pos (of_decide_eq_true c2)] at e
        rw [e] at h
        exact h
      · rw [if_neg (of_decide_eq_false c2)] at e
        rw [e] at h
        exact h
    · have c' : ¬ vl x m ≠ vl y m := by simpa using c
      rw [if_neg c'] at e
      exact hK _ ⟨⟨_, _, rfl⟩, hr', e⟩
  · rintro _ ⟨⟨s3, s4, rfl⟩, hr, e⟩
    rw [e] at h
    exact h
theorem rd_l_side : ∀ ds A, fs_l_side ds A → as_l_side (ED A) (envOf 5 (ds.map .da)) := by
  rintro _ A ⟨b, t, n, x, y, rfl, ht, hx, hy, h⟩
  have key : ∃ I : List D → Env → Prop, I (t.map termD) [.da (seqD b (t.map termD)), .da (rollD x), .da (rollD y), .un, .un] ∧ _ ∧ _ :=
    for_i (ag := agTup [3, 4]) (body := (aIf (aB (aOp fNe (aOp fIx (aVar 1) (aVar 3)) (aOp fIx (aVar 2) (aVar 3)))) (aRet (aIfE (aB (aOp fGt (aOp fIx (aVar 1) (aVar 3)) (aOp fIx (aVar 2) (aVar 3)))) (aVar 4) (aUn fNeg (aVar 4)))) aNext)) (A := { ED A with nx := aRet (aC (.int 0)) (ED A) }) termD
      (fun r δ => (∃ s3 s4, δ = [.da (seqD b (t.map termD)), .da (rollD x), .da (rollD y), s3, s4]) ∧ inR n r ∧ side t x y = side r x y) t ⟨⟨.un, .un, rfl⟩, ht, rfl⟩ (by
    rintro ⟨m, d⟩ r _ ⟨⟨s3, s4, rfl⟩, hr, e⟩ K hK
    have hm := hr (m, d) (by simp)
    have hr' : inR n r := fun u hu => hr u (by simp [hu])
    rw [side_cons] at e
    refine fIx_roll hm.1 (by rw [hx]; exact hm.2) ?_
    refine fIx_roll hm.1 (by rw [hy]; exact hm.2) ?_
    refine ite_b (fun c => ?_) (fun c => ?_)
    · have c' : vl x m ≠ vl y m := by simpa using c
      rw [if_pos c'] at e
      refine fIx_roll hm.1 (by rw [hx]; exact hm.2) ?_
      refine fIx_roll hm.1 (by rw [hy]; exact hm.2) ?_
      refine ite_b (fun c2 => ?_) (fun c2 => ?_)
      · rw [if_pos (of_decide_eq_true c2)] at e
        rw [e] at h
        exact h
      · rw [if_neg (of_decide_eq_false c2)] at e
        rw [e] at h
        exact h
    · have c' : ¬ vl x m ≠ vl y m := by simpa using c
      rw [if_neg c'] at e
      exact hK _ ⟨⟨_, _, rfl⟩, hr', e⟩) (by
    rintro _ ⟨⟨s3, s4, rfl⟩, hr, e⟩
    rw [e] at h
    exact h)
  cases b <;> exact key
end Ab
set_option maxHeartbeats 1000000
namespace Ab
open PySem PySem.Spec PyProof.Rows L2
theorem rd_terms_behind : ∀ ds A, fs_terms_behind ds A → as_terms_behind (ED A) (envOf 5 (ds.map .da)) := by
  rintro _ A ⟨p, n, rfl, hn, hp, h⟩
  refine lc_m termD p (fun t => .int t.1) (by omega) ⟨trivial, trivial, trivial⟩ (fun x hx Y hY => ?_) ?_
  · exact hY _ rfl
  · refine And.intro (by omega) (And.intro (by omega) ?_)
    have e : (List.range n).flatMap (fun (m : Nat) => if (m : Int) ∈ p.map (·.1) then [] else [termD ((m : Int), 1), termD ((m : Int), -1)]) = (behind p n).map termD := by
      unfold behind frees
      generalize List.range n = ms
      induction ms with
      | nil => rfl
      | cons m r ih =>
        rw [List.flatMap_cons, List.filter_cons, ih]
        by_cases z : (m : Int) ∈ p.map (·.1)
        · rw [if_pos z, decide_eq_false (fun w => w z)]
          rfl
        · rw [if_neg z, decide_eq_true z]
          rfl
    refine lc2_pe (fun (m : Nat) => D.int (m : Int)) (List.range n) (rng0z n (by omega)) (fun (m : Nat) => if (m : Int) ∈ p.map (·.1) then [] else [termD ((m : Int), 1), termD ((m : Int), -1)]) ?_ ⟨trivial, trivial, trivial⟩ (fun m hm acc Y Z hl hY hZ => ?_) ?_
    · rw [e, List.length_map]
      have := behind_length p n
      omega
    · refine ⟨p.map (·.1), by simp, ?_⟩
      refine ite_b (fun c => ?_) (fun c => ?_)
      · have c' : (m : Int) ∉ p.map (·.1) := by simpa using c
        rw [if_neg c'] at hl hY
        refine ⟨by decide, lc1_i D.int [1, -1] (fun d => termD ((m : Int), d)) acc hl ⟨trivial, trivial⟩ (fun d _ Y2 hY2 => ?_) (hY _ rfl)⟩
        exact ⟨Nat.le_of_ble_eq_true rfl, hY2 _ rfl⟩
      · have c' : (m : Int) ∈ p.map (·.1) := by simpa using c
        exact hZ _ (if_pos c') rfl
    · rw [e]
      exact h
theorem rd_term_rows : ∀ ds A, fs_term_rows ds A → as_term_rows (ED A) (envOf 4 (ds.map .da)) := by
  rintro _ A ⟨n, rfl, hn, h⟩
  refine And.intro (by decide) (And.intro (by decide) ?_)
  refine ⟨fun m δ => ∃ i, i + m = n ∧ δ = [.da (.int (n : Int)), .da (.lst ((fullN n i).map preD)), .un, .un], ⟨n, 0, by omega, rfl⟩, ?_⟩
  rintro m _ ⟨i, e, rfl⟩
  obtain ⟨q1, q2, q3⟩ := fullN_ok hn (show i ≤ n by omega)
  obtain ⟨p, r, ep, lp⟩ : ∃ p r, fullN n i = p :: r ∧ p.length = i := by
    cases z : fullN n i with
    | nil => rw [z] at q1; cases q1
    | cons p r =>
      rw [z] at q1
      exact ⟨p, r, rfl, Option.some.inj q1⟩
  refine fIx_lst (d := preD p) (at_map (at_nat (j := 0) (by rw [ep]; rfl))) ?_
  refine ite_b (fun c => ?_) (fun c => ?_)
  · have c : ((p.map termD).length : Int) < (n : Int) := of_decide_eq_true c
    rw [List.length_map, lp] at c
    have e2 : (fullN n i).flatMap (fun r => (behind r n).map fun t => preD (r ++ [t])) = (fullN n (i + 1)).map preD := by
      show _ = (stepRows n (fullN n i)).map preD
      unfold stepRows
      rw [List.map_flatMap]
      congr 1
      funext r
      rw [List.map_map]
      rfl
    refine lc2_p preD (fullN n i) (fun r => (behind r n).map fun t => preD (r ++ [t])) ?_ ⟨trivial, trivial, trivial⟩ (fun r hr acc Y Z hl hY hZ => ?_) ?_
    · rw [e2, List.length_map]
      have := (fullN_ok hn (show i + 1 ≤ n by omega)).2.1
      omega
    · refine ⟨r, n, rfl, hn, by rw [q3 r hr]; omega, ?_⟩
      refine lc1_i termD (behind r n) (fun t => preD (r ++ [t])) acc (by simpa using hl) ⟨trivial, trivial⟩ (fun t _ Y2 hY2 => ?_) (hY _ rfl)
      refine ⟨Nat.le_of_ble_eq_true rfl, ?_, ?_⟩
      · have := q3 r hr
        simp
        omega
      · have z := hY2 [.da (.int (n : Int)), .da (.lst ((fullN n i).map preD)), .da (preD r), .da (termD t)] rfl
        have e3 : preD (r ++ [t]) = .tup (r.map termD ++ [termD t]) := by unfold preD; rw [List.map_append]; rfl
        rw [e3] at z
        exact z
    · rw [e2]
      exact ⟨m - 1, by omega, i + 1, by omega, rfl⟩
  · have c : ¬ ((p.map termD).length : Int) < (n : Int) := of_decide_eq_false c
    rw [List.length_map, lp] at c
    have ei : i = n := by omega
    subst ei
    exact h
end Ab
set_option maxHeartbeats 1000000
namespace Ab
open PySem PySem.Spec PyProof.Rows L2
abbrev EN (x C : Addr) (fl : Str) (A : D → Prop) : AEnds := { nx := fun δ => ∃ z r, δ = .ob x C [(fl, z)] :: r ∧ A z, rt := fun _ _ => False }
theorem rd_RuleInit (c : Cl) : ∀ ds A x, fs_RuleInit ds A → as_RuleInit c (EN x c.CR "terms" A) (envOf 5 (.ob x c.CR [] :: ds.map .da)) := by
  rintro _ A x ⟨p, rfl, hp, hb, hd, h⟩
  refine ⟨by decide, fun l => ?_⟩
  refine for_enum termD p (fun i δ => ∃ s3 s4, δ = [.ob x c.CR [], .da (preD p), .mu l ((p.take i).map fun t => D.int t.1), s3, s4] ∧ noOb s3 ∧ noOb s4) ⟨.un, .un, rfl, trivial, trivial⟩ ?_ ?_
  · rintro i t _ hi ⟨s3, s4, rfl, n3, n4⟩ K hK
    have hm : t ∈ p := List.mem_of_getElem? hi
    obtain ⟨b1, b2, b3⟩ := hb t hm
    obtain ⟨hlt, ei⟩ := List.getElem?_eq_some_iff.mp hi
    refine ⟨t, rfl, b1, b2, b3, ?_⟩
    refine fIx_tup (d := .int t.1) rfl ?_
    refine ⟨(p.take i).map (·.1), by rw [List.map_map]; rfl, ?_⟩
    refine ite_n (decide_eq_false ?_) ?_
    · intro z
      have e : p = p.take i ++ t :: p.drop (i + 1) := by
        rw [← ei, List.getElem_cons_drop, List.take_append_drop]
      rw [e, List.map_append, List.map_cons, List.nodup_append] at hd
      exact hd.2.2 _ z _ (by simp) rfl
    · refine fIx_tup (d := .int t.1) rfl ?_
      refine ⟨rfl, ?_, hK _ ⟨.da (.int (i : Int)), .da (termD t), ?_, trivial, trivial⟩⟩
      · simp
        omega
      · show [Slot.ob x c.CR [], .da (preD p), .mu l ((p.take i).map (fun t => D.int t.1) ++ [D.int t.1]), _, _] = _
        rw [List.take_add_one, hi, List.map_append]
        rfl
  · rintro _ ⟨s3, s4, rfl, n3, n4⟩
    exact ⟨rfl, ⟨trivial, trivial, n3, n4, trivial⟩, _, _, rfl, h⟩
theorem rd_all_rules : ∀ ds A, fs_all_rules ds A → as_all_rules (ED A) (envOf 2 (ds.map .da)) := by
  rintro _ A ⟨n, rfl, hn, h⟩
  refine ⟨n, rfl, hn, ?_⟩
  refine lc_m preD (fullRows n) ruleD (Nat.le_trans (full_len hn) (by decide)) ⟨trivial, trivial⟩ (fun p hp Y hY => ?_) h
  have ok := full_ok hn hp
  exact ⟨p, rfl, by rw [ok.1]; omega, fun t ht => ⟨(ok.2.1 t ht).1, by have := (ok.2.1 t ht).2.1; omega, (ok.2.1 t ht).2.2⟩, ok.2.2, hY _ rfl⟩
theorem rd_is_sorted : ∀ ds A, fs_is_sorted ds A → as_is_sorted (ED A) (envOf 3 (ds.map .da)) := by
  rintro _ A ⟨t, b, sh, n, rfl, ht, hs, h⟩
  refine fLen_seq ?_
  rw [List.length_map]
  have hl := hs.1
  refine And.intro (by omega) (And.intro (by omega) ?_)
  refine for_r0 (sh.length - 1) (by omega) (fun i δ => (∃ s, δ = [.da (preD t), .da (seqD b (sh.map rollD)), s]) ∧ ∀ j < i, cmp t (rl sh j) (rl sh (j + 1)) ≠ 1) ⟨⟨_, rfl⟩, fun j hj => absurd hj (Nat.not_lt_zero _)⟩ ?_ ?_
  · rintro i _ hi ⟨⟨s, rfl⟩, hj⟩ K hK
    refine fIx_sh (i := i) (by omega) ?_
    refine fIx_sh (i := i + 1) (by omega) ?_
    refine ⟨t, n, rl sh i, rl sh (i + 1), rfl, ht, rl_len hs (by omega), rl_len hs (by omega), ?_⟩
    refine ite_b (fun c => ?_) (fun c => ?_)
    · have e : srt t sh = false := by
        unfold srt
        rw [List.all_eq_false]
        exact ⟨i, by simp; omega, by have := of_decide_eq_true c; simp [this]⟩
      rw [e] at h
      exact h
    · refine hK _ ⟨⟨_, rfl⟩, fun j hj' => ?_⟩
      by_cases z : j = i
      · subst z; exact of_decide_eq_false c
      · exact hj j (by omega)
  · rintro _ ⟨⟨s, rfl⟩, hj⟩
    have e : srt t sh = true := by
      unfold srt
      rw [List.all_eq_true]
      intro i hi
      exact decide_eq_true (hj i (by simpa using hi))
    rw [e] at h
    exact h
theorem rd_fitting_rules : ∀ ds A, fs_fitting_rules ds A → as_fitting_rules (ED A) (envOf 3 (ds.map .da)) := by
  rintro _ A ⟨b, sh, n, rfl, hn, hs, h⟩
  refine ⟨n, rfl, hn, ?_⟩
  refine lc_f ruleD (fullRows n) (fun t => srt t sh) (Nat.le_trans (full_len hn) (by decide)) ⟨trivial, trivial⟩ (fun p hp Y Z hY hZ => ?_) h
  refine ⟨p, b, sh, n, rfl, (full_ok hn hp).inR, hs, ?_⟩
  exact ite_b (fun c => hY c _ rfl) fun c => hZ c _ rfl
theorem rd_is_shut_by : ∀ ds A, fs_is_shut_by ds A → as_is_shut_by (ED A) (envOf 5 (ds.map .da)) := by
  rintro _ A ⟨p, n, x, y, rfl, hp, hx, hy, h⟩
  refine for_e termD p.dropLast (by rw [cut_init, List.map_dropLast]) (fun r δ => (∃ s3 s4, δ = [.da (preD p), .da (rollD x), .da (rollD y), s3, s4]) ∧ inR n r ∧ (p.dropLast.all fun t => decide (vl x t.1 = vl y t.1)) = r.all fun t => decide (vl x t.1 = vl y t.1)) ⟨⟨_, _, rfl⟩, inR_init hp, rfl⟩ ?_ ?_
  · rintro ⟨m, d⟩ r _ ⟨⟨s3, s4, rfl⟩, hr, e⟩ K hK
    have hm := hr (m, d) (by simp)
    refine fIx_roll hm.1 (by rw [hx]; exact hm.2) ?_
    refine fIx_roll hm.1 (by rw [hy]; exact hm.2) ?_
    rw [List.all_cons] at e
    refine ite_b (fun c => ?_) (fun c => ?_)
    · have c' : ¬ vl x m = vl y m := by simpa using c
      rw [shut_split, e, decide_eq_false c', Bool.false_and, Bool.false_and] at h
      exact h
    · have c' : vl x m = vl y m := by simpa using c
      rw [decide_eq_true c', Bool.true_and] at e
      exact hK _ ⟨⟨_, _, rfl⟩, fun u hu => hr u (by simp [hu]), e⟩
  · rintro _ ⟨⟨s3, s4, rfl⟩, hr, e⟩
    rw [shut_split, e] at h
    refine ⟨lastL p, n, x, y, by rw [cut_last]; unfold preD lastL; rw [List.map_drop, List.length_map], inR_last hp, hx, hy, ?_⟩
    exact h
theorem rd_least_pair : ∀ ds A, fs_least_pair ds A → as_least_pair (ED A) (envOf 4 (ds.map .da)) := by
  rintro _ A ⟨p, b, sh, n, rfl, hp, hs, h⟩
  refine fLen_seq ?_
  rw [List.length_map]
  have hl := hs.1
  refine And.intro (by omega) (And.intro (by omega) ?_)
  refine for_e (fun (i : Nat) => D.int (i : Int)) (List.range sh.length) (rng0z _ (by omega)) (fun r δ => (∃ s2 s3, δ = [.da (preD p), .da (seqD b (sh.map rollD)), s2, s3]) ∧ (∀ i ∈ r, i < sh.length) ∧
    leastP p sh = (r.flatMap fun i => (List.range (sh.length - (i + 1))).map fun k => (i, i + 1 + k)).find? fun q => shut p (rl sh q.1) (rl sh q.2)) ⟨⟨_, _, rfl⟩, fun i hi => by simpa using hi, rfl⟩ ?_ ?_
  · rintro i r _ ⟨⟨s2, s3, rfl⟩, hr, e⟩ K hK
    have hi := hr i (by simp)
    refine fLen_seq ?_
    rw [List.length_map]
    refine And.intro (by omega) ?_
    rw [List.flatMap_cons] at e
    refine for_e (fun (k : Nat) => D.int ((i : Int) + 1 + (k : Int))) (List.range (sh.length - (i + 1))) (rngz _ (by omega)) (fun r2 δ => (∃ s3, δ = [.da (preD p), .da (seqD b (sh.map rollD)), .da (.int (i : Int)), s3]) ∧ (∀ k ∈ r2, i + 1 + k < sh.length) ∧
      leastP p sh = ((r2.map fun k => (i, i + 1 + k)) ++ r.flatMap fun i => (List.range (sh.length - (i + 1))).map fun k => (i, i + 1 + k)).find? fun q => shut p (rl sh q.1) (rl sh q.2)) ⟨⟨_, rfl⟩, fun k hk => by simp at hk; omega, e⟩ ?_ ?_
    · rintro k r2 _ ⟨⟨s3, rfl⟩, hr2, e2⟩ K2 hK2
      have hk := hr2 k (by simp)
      rw [List.map_cons, List.cons_append, List.find?_cons] at e2
      have ek : (i : Int) + 1 + (k : Int) = ((i + 1 + k : Nat) : Int) := by push_cast; rfl
      rw [ek]
      refine fIx_sh hi ?_
      refine fIx_sh hk ?_
      refine ⟨p, n, rl sh i, rl sh (i + 1 + k), rfl, hp, rl_len hs hi, rl_len hs hk, ?_⟩
      refine ite_b (fun c => ?_) (fun c => ?_)
      · rw [c] at e2
        rw [e2] at h
        exact ⟨Nat.le_of_ble_eq_true rfl, h⟩
      · rw [c] at e2
        exact hK2 _ ⟨⟨_, rfl⟩, fun k' hk' => hr2 k' (by simp [hk']), e2⟩
    · rintro _ ⟨⟨s3, rfl⟩, hr2, e2⟩
      exact hK _ ⟨⟨_, _, rfl⟩, fun i' hi' => hr i' (by simp [hi']), e2⟩
  · rintro _ ⟨⟨s2, s3, rfl⟩, hr, e⟩
    rw [e] at h
    exact h
end Ab
set_option maxHeartbeats 1000000
namespace Ab
open PySem PySem.Spec PyProof.Rows L2
theorem preD_snoc (p : Pre) (t : Term) : preD (p ++ [t]) = .tup (p.map termD ++ [termD t]) := by unfold preD; rw [List.map_append]; rfl
theorem rowsB_len (sh : Shelf) (n : Nat) (hn : n ≤ 3) : ∀ (f : Nat) (p : Pre), (rowsB sh n f p).length ≤ 6 ^ f
  | 0, p => Nat.zero_le _
  | f + 1, p => by
    unfold rowsB
    have h := flat_len (k := 6 ^ f) (xs := behind p n) (f := fun t => match leastP (p ++ [t]) sh with
      | none => rowsB sh n f (p ++ [t])
      | some (i, j) => [(p ++ [t], (i : Int), (j : Int))]) (fun t _ => by
        cases leastP (p ++ [t]) sh with
        | none => exact rowsB_len sh n hn f _
        | some q => exact Nat.one_le_pow _ _ (by decide))
    have h2 := behind_length p n
    have h3 : 6 ^ f * (behind p n).length ≤ 6 ^ f * 6 := Nat.mul_le_mul_left _ (by omega)
    rw [Nat.pow_succ]
    exact Nat.le_trans h h3
theorem rowsB_small {sh : Shelf} {n f : Nat} (hn : n ≤ 3) (hf : f ≤ 6) (p : Pre) : (rowsB sh n f p).length ≤ 46656 :=
  Nat.le_trans (rowsB_len sh n hn f p) (Nat.le_trans (Nat.pow_le_pow_right (by decide) hf) (by decide))
theorem rd_rows_behind (m : Nat) (hm : m ≤ 5) (fsr : List D → (D → Prop) → Prop) (hsr : ∀ g ds A, g + 1 ≤ m → fsB g ds A → fsr ds A) : ∀ ds A, fsR m ds A → as_rows_behind fsr (ED A) (envOf 7 (ds.map .da)) := by
  rintro _ A ⟨f, hf, p, b, sh, n, rfl, hn, hp, hfr, hl, hs, h⟩
  refine ⟨by decide, fun l => ?_⟩
  refine ⟨p, n, rfl, hn, by omega, ?_⟩
  cases f with
  | zero =>
    have e : behind p n = [] := by
      unfold behind
      rw [List.length_eq_zero_iff.mp (Nat.le_zero.mp hfr)]
      rfl
    rw [e]
    exact for_i (α := Term) termD (fun r δ => r = [] ∧ δ = [.da (preD p), .da (seqD b (sh.map rollD)), .da (.int (n : Int)), .mu l [], .un, .un, .un]) [] ⟨rfl, rfl⟩ (fun x r δ h => nomatch h.1) (fun δ h2 => by
      obtain ⟨_, rfl⟩ := h2
      exact h)
  | succ f =>
    refine for_i termD (fun r δ => (∃ s4 s5 s6, δ = [.da (preD p), .da (seqD b (sh.map rollD)), .da (.int (n : Int)), .mu l (((behind p n).take ((behind p n).length - r.length)).flatMap fun t => (match leastP (p ++ [t]) sh with
      | none => rowsB sh n f (p ++ [t])
      | some (i, j) => [(p ++ [t], (i : Int), (j : Int))]).map rowD), s4, s5, s6]) ∧ ∃ z, behind p n = z ++ r) (behind p n) ⟨⟨_, _, _, by rw [Nat.sub_self]; rfl⟩, [], rfl⟩ ?_ ?_
    · rintro t r _ ⟨⟨s4, s5, s6, rfl⟩, z, e⟩ K hK
      have e1 : (behind p n).length - (t :: r).length = z.length := by rw [e]; simp
      have e2 : (behind p n).length - r.length = z.length + 1 := by rw [e]; simp; omega
      have e3 : (behind p n).take z.length = z := by rw [e]; simp
      have e4 : (behind p n).take (z.length + 1) = z ++ [t] := by
        rw [e, show z ++ t :: r = (z ++ [t]) ++ r by simp]
        exact List.take_left' (by simp)
      rw [e2, e4] at hK
      rw [e1, e3]
      have ht : t ∈ behind p n := by rw [e]; simp
      have tb := mem_behind.mp ht
      have hz : (z.flatMap fun t => (match leastP (p ++ [t]) sh with
        | none => rowsB sh n f (p ++ [t])
        | some (i, j) => [(p ++ [t], (i : Int), (j : Int))]).map rowD).length ≤ 6 ^ f * z.length := flat_len fun t _ => by
          rw [List.length_map]
          cases leastP (p ++ [t]) sh with
          | none => exact rowsB_len sh n hn f _
          | some q => exact Nat.one_le_pow _ _ (by decide)
      have hz2 : z.length ≤ 5 := by
        have q := behind_length p n
        rw [e] at q
        simp at q
        omega
      have h6 : 6 ^ f ≤ 6 ^ 5 := Nat.pow_le_pow_right (by decide) (by omega)
      have hz3 : 6 ^ f * z.length ≤ 6 ^ 5 * 5 := Nat.mul_le_mul h6 hz2
      rw [List.flatMap_append] at hK
      have hpl : (p.map termD).length + [termD t].length ≤ 16777216 := by simp; omega
      refine ⟨Nat.le_of_ble_eq_true rfl, hpl, ?_⟩
      have hin : inR n (p ++ [t]) := inR_snoc hp ⟨tb.1, tb.2.1⟩
      refine ⟨p ++ [t], b, sh, n, by rw [preD_snoc], hin, hs, ?_⟩
      cases ep : leastP (p ++ [t]) sh with
      | none =>
        have hfr2 := frees_less ht
        refine hsr f _ _ (by omega) ⟨p ++ [t], b, sh, n, by rw [preD_snoc], hn, hin, by omega, by simp; omega, hs, ?_⟩
        refine ⟨rfl, ?_, hK _ ⟨⟨.da (termD t), .da (.tup (p.map termD ++ [termD t])), .da .non, ?_⟩, z ++ [t], by rw [e]; simp⟩⟩
        · have := rowsB_small (sh := sh) (n := n) (f := f) hn (by omega) (p ++ [t])
          rw [List.length_map]
          omega
        · rw [List.flatMap_cons, List.flatMap_nil, List.append_nil, ep]
          rfl
      | some q =>
        obtain ⟨i, j⟩ := q
        refine ⟨_, at_nat (j := 0) rfl, ?_⟩
        refine ⟨_, at_nat (j := 1) rfl, ?_⟩
        refine ⟨Nat.le_of_ble_eq_true rfl, rfl, by omega, hK _ ⟨⟨.da (termD t), .da (.tup (p.map termD ++ [termD t])), .da (.tup [.int (i : Int), .int (j : Int)]), ?_⟩, z ++ [t], by rw [e]; simp⟩⟩
        rw [List.flatMap_cons, List.flatMap_nil, List.append_nil, ep, List.map_cons, List.map_nil]
        unfold rowD
        rw [preD_snoc]
        rfl
    · rintro _ ⟨⟨s4, s5, s6, rfl⟩, z, e⟩
      have e2 : rowsB sh n (f + 1) p = (behind p n).flatMap fun t => match leastP (p ++ [t]) sh with
        | none => rowsB sh n f (p ++ [t])
        | some (i, j) => [(p ++ [t], (i : Int), (j : Int))] := rfl
      rw [e2, List.map_flatMap] at h
      rw [show (behind p n).length - ([] : List Term).length = (behind p n).length from rfl, List.take_length]
      exact h
theorem rd_shelf_cut : ∀ ds A, fs_shelf_cut ds A → as_shelf_cut (ED A) (envOf 2 (ds.map .da)) := by
  rintro _ A ⟨b, sh, n, rfl, hn, hs, h⟩
  exact ⟨Nat.le_of_ble_eq_true rfl, b, sh, n, rfl, hn, hs, h⟩
theorem rd_is_prefix : ∀ ds A, fs_is_prefix ds A → as_is_prefix (ED A) (envOf 4 (ds.map .da)) := by
  rintro _ A ⟨p, n, rfl, hn, hp, h⟩
  refine for_enum termD p (fun i δ => (∃ s2 s3, δ = [.da (preD p), .da (.int (n : Int)), s2, s3]) ∧ ∀ j < i, p.getD j (0, 0) ∈ behind (p.take j) n) ⟨⟨_, _, rfl⟩, fun j hj => absurd hj (Nat.not_lt_zero _)⟩ ?_ ?_
  · rintro i t _ hi ⟨⟨s2, s3, rfl⟩, hj⟩ K hK
    obtain ⟨hlt, ei⟩ := List.getElem?_eq_some_iff.mp hi
    refine ⟨p.take i, n, by rw [cut_take, ← List.map_take]; rfl, hn, by rw [List.length_take]; omega, ?_⟩
    refine ⟨cmpOk_term t, cmpOk_terms false _, ?_⟩
    have eg : p.getD i (0, 0) = t := by rw [List.getD_eq_getElem?_getD, hi]; rfl
    refine ite_b (fun c => ?_) (fun c => ?_)
    · have c : (!(((behind (p.take i) n).map termD).any fun z => eqD z (termD t))) = true := c
      rw [any_term] at c
      have c' : t ∉ behind (p.take i) n := by simpa using c
      have e : isPre p n = false := by
        cases z : isPre p n
        · rfl
        · exact absurd (eg ▸ isPre_at z hlt) c'
      rw [e] at h
      exact h
    · have c : (!(((behind (p.take i) n).map termD).any fun z => eqD z (termD t))) = false := c
      rw [any_term] at c
      have c' : t ∈ behind (p.take i) n := by simpa using c
      refine hK _ ⟨⟨_, _, rfl⟩, fun j hj' => ?_⟩
      by_cases z : j = i
      · subst z; rw [eg]; exact c'
      · exact hj j (by omega)
  · rintro _ ⟨⟨s2, s3, rfl⟩, hj⟩
    have e : isPre p n = decide (0 < p.length) := by
      unfold isPre
      rw [show ((List.range p.length).all fun i => decide (p.getD i (0, 0) ∈ behind (p.take i) n)) = true from by
        rw [List.all_eq_true]
        exact fun i hi => decide_eq_true (hj i (by simpa using hi))]
      rfl
    rw [e] at h
    have e2 : decide ((0 : Int) < ((p.map termD).length : Int)) = decide (0 < p.length) := by
      rw [List.length_map]
      exact decide_eq_decide.mpr (by omega)
    rw [← e2] at h
    exact h
theorem rd_is_right_row : ∀ ds A, fs_is_right_row ds A → as_is_right_row (ED A) (envOf 6 (ds.map .da)) := by
  rintro _ A ⟨⟨p, i, j⟩, b, sh, n, rfl, hn, hp, hs, h⟩
  refine ⟨p, n, rfl, hn, hp, ?_⟩
  have er : right (p, i, j) sh n = (isPre p n && (decide (0 ≤ i) && decide (i < j) && decide (j < (sh.length : Int))) && shut p (rl sh i.toNat) (rl sh j.toNat)) := rfl
  cases ep : isPre p n with
  | false =>
    rw [er, ep] at h
    exact h
  | true =>
    rw [er, ep] at h
    refine ite_b (fun c0 => ?_) (fun c0 => ?_)
    · refine ite_b (fun c1 => ?_) (fun c1 => ?_)
      · refine fLen_seq ?_
        rw [List.length_map]
        refine ite_b (fun c2 => ?_) (fun c2 => ?_)
        · have c2 : decide (j < (sh.length : Int)) = false := by simpa using c2
          rw [c2, Bool.and_false] at h
          exact h
        · have c2 : decide (j < (sh.length : Int)) = true := by simpa using c2
          rw [c0, c1, c2] at h
          have g0 : 0 ≤ i := of_decide_eq_true c0
          have g1 : i < j := of_decide_eq_true c1
          have g2 : j < (sh.length : Int) := of_decide_eq_true c2
          have ei : i = ((i.toNat : Nat) : Int) := by omega
          have ej : j = ((j.toNat : Nat) : Int) := by omega
          rw [ei, ej]
          refine fIx_sh (i := i.toNat) (by omega) ?_
          refine fIx_sh (i := j.toNat) (by omega) ?_
          exact ⟨p, n, rl sh i.toNat, rl sh j.toNat, rfl, isPre_inR ep, rl_len hs (by omega), rl_len hs (by omega), h⟩
      · rw [c1, Bool.and_false] at h
        exact h
    · rw [c0] at h
      exact h
theorem rd_begins_with_any : ∀ ds A, fs_begins_with_any ds A → as_begins_with_any (ED A) (envOf 3 (ds.map .da)) := by
  rintro _ A ⟨t, ps, rfl, ht, hp, h⟩
  refine for_i preD (fun r δ => (∃ s2, δ = [.da (preD t), .da (.lst (ps.map preD)), s2]) ∧ begAny t ps = begAny t r) ps ⟨⟨_, rfl⟩, rfl⟩ ?_ ?_
  · rintro p r _ ⟨⟨s2, rfl⟩, e⟩ K hK
    have e : begAny t ps = (begins t p || begAny t r) := e
    have es : D.tup (cutD (t.map termD) none (some ((p.map termD).length : Int))) = preD (t.take p.length) := by rw [cut_take, List.length_map, ← List.map_take]; rfl
    refine ⟨by rw [es]; exact cmpOk_pre _, cmpOk_pre p, ?_⟩
    rw [es, eqD_pre]
    refine ite_b (fun c => ?_) (fun c => ?_)
    · rw [e, show begins t p = true from c] at h
      exact h
    · rw [show begins t p = false from c, Bool.false_or] at e
      exact hK _ ⟨⟨_, rfl⟩, e⟩
  · rintro _ ⟨⟨s2, rfl⟩, e⟩
    rw [e] at h
    exact h
theorem rd_judge_cut : ∀ ds A, fs_judge_cut ds A → as_judge_cut (ED A) (envOf 6 (ds.map .da)) := by
  rintro _ A ⟨b, sh, n, rows, rfl, hn, hs, hl, hr, h⟩
  refine for_i rowD (fun r δ => (∃ s3, δ = [.da (seqD b (sh.map rollD)), .da (.int (n : Int)), .da (cutOf rows), s3, .un, .un] ∧ fre s3) ∧ (∀ x ∈ r, x.1.length ≤ 1000) ∧ (rows.all fun r => right r sh n) = r.all fun r => right r sh n) rows ⟨⟨.un, rfl, trivial⟩, hr, rfl⟩ ?_ ?_
  · rintro x r _ ⟨⟨s3, rfl, _⟩, hx, e⟩ K hK
    refine ⟨x, b, sh, n, rfl, hn, hx x (by simp), hs, ?_⟩
    rw [List.all_cons] at e
    refine ite_b (fun c => ?_) (fun c => ?_)
    · have c : right x sh n = false := by simpa using c
      unfold judge at h
      rw [e, c] at h
      exact h
    · have c : right x sh n = true := by simpa using c
      rw [c, Bool.true_and] at e
      exact hK _ ⟨⟨.da (rowD x), rfl, trivial⟩, fun y hy => hx y (by simp [hy]), e⟩
  · rintro _ ⟨⟨s3, rfl, f3⟩, _, e⟩
    have e : (rows.all fun r => right r sh n) = true := e
    have hj : judge sh n rows = (fullRows n).all fun t => srt t sh || begAny t (rows.map (·.1)) := by unfold judge; rw [e, Bool.true_and]
    refine lc_m rowD rows (fun r => preD r.1) (by omega) ⟨f3, trivial⟩ (fun x hx Y hY => ?_) ?_
    · exact fIx_tup (at_nat (j := 0) rfl) (hY _ rfl)
    · refine ⟨n, rfl, hn, ?_⟩
      refine for_i preD (fun r δ => (∃ s5, δ = [.da (seqD b (sh.map rollD)), .da (.int (n : Int)), .da (cutOf rows), s3, .da (.lst ((rows.map (·.1)).map preD)), s5]) ∧ (∀ t ∈ r, t ∈ fullRows n) ∧ judge sh n rows = r.all fun t => srt t sh || begAny t (rows.map (·.1))) (fullRows n) ⟨⟨_, by rw [List.map_map]; rfl⟩, fun t ht => ht, hj⟩ ?_ ?_
      · rintro t r _ ⟨⟨s5, rfl⟩, hm, e2⟩ K hK
        have ok := full_ok hn (hm t (by simp))
        rw [List.all_cons] at e2
        refine ⟨t, b, sh, n, rfl, ok.inR, hs, ?_⟩
        refine ite_b (fun c => ?_) (fun c => ?_)
        · have c : srt t sh = false := by simpa using c
          rw [c, Bool.false_or] at e2
          refine ⟨t, rows.map (·.1), rfl, by rw [ok.1]; omega, fun q hq => ?_, ?_⟩
          · obtain ⟨x, hx, rfl⟩ := List.mem_map.mp hq
            exact hr x hx
          · refine ite_b (fun c2 => ?_) (fun c2 => ?_)
            · have c2 : begAny t (rows.map (·.1)) = false := by simpa using c2
              rw [e2, c2] at h
              exact h
            · have c2 : begAny t (rows.map (·.1)) = true := by simpa using c2
              rw [c2, Bool.true_and] at e2
              exact hK _ ⟨⟨_, rfl⟩, fun u hu => hm u (by simp [hu]), e2⟩
        · have c : srt t sh = true := by simpa using c
          rw [c, Bool.true_or, Bool.true_and] at e2
          exact hK _ ⟨⟨_, rfl⟩, fun u hu => hm u (by simp [hu]), e2⟩
      · rintro _ ⟨⟨s5, rfl⟩, _, e2⟩
        rw [e2] at h
        exact h
end Ab
set_option maxHeartbeats 1000000
namespace Ab
open PySem PySem.Spec PyProof.Rows L2
theorem bag_mk {C : Nat} {a b e : Int} (h0 : 0 ≤ e) (h1 : e ≤ (C : Int)) : bagOk C [.int a, .int b, .int e] := ⟨a, b, e, rfl, h0, h1⟩
theorem bagOk.le {C E : Nat} {bs : List D} (h : bagOk C bs) (he : C ≤ E) : bagOk E bs := by
  obtain ⟨a, b, e, rfl, h0, h1⟩ := h
  exact ⟨a, b, e, rfl, h0, by omega⟩
theorem rd_l_box : ∀ ds A, fs_l_box ds A → as_l_box (EO A) (envOf 2 (ds.map .da)) := by
  rintro _ A ⟨ns, pl, rfl, hp, h⟩
  refine ⟨Nat.le_of_ble_eq_true rfl, cmpOk_scr ns, cmpOk_nil, ?_⟩
  rw [eqD_scr_nil]
  refine ite_b (fun c => ?_) (fun c => ?_)
  · exact ⟨Nat.le_of_ble_eq_true rfl, h _ (bag_mk (by omega) (by omega))⟩
  · have hne : ns ≠ [] := of_decide_eq_false c
    have hpos : 0 < ns.length := List.length_pos_iff.mpr hne
    refine ite_b (fun c2 => ?_) (fun c2 => ?_)
    · refine ⟨ns[0], at_nat (j := 0) (List.getElem?_eq_getElem hpos), ?_⟩
      refine And.intro (by omega) ?_
      refine And.intro (by left; omega) ?_
      refine And.intro (Nat.le_of_ble_eq_true rfl) ?_
      exact h _ (bag_mk (by omega) (by omega))
    · have c2 : ¬ ((ns.length : Int) ≤ (pl : Int)) := of_decide_eq_false c2
      have hlt : pl < ns.length := by omega
      have hat : atI ns (pl : Int) = some ns[pl] := at_nat (List.getElem?_eq_getElem hlt)
      refine ⟨ns[pl], hat, ?_⟩
      refine And.intro ⟨by omega, by omega, by decide⟩ ?_
      refine ite_b (fun c3 => ?_) (fun c3 => ?_)
      · refine ⟨ns[pl], hat, ?_⟩
        refine And.intro ⟨by omega, by omega, by decide⟩ ?_
        refine And.intro (Nat.le_of_ble_eq_true rfl) ?_
        exact h _ (bag_mk (by omega) (by omega))
      · refine ⟨ns[pl], hat, ?_⟩
        refine And.intro (by omega) ?_
        refine And.intro (by left; omega) ?_
        refine And.intro (Nat.le_of_ble_eq_true rfl) ?_
        exact h _ (bag_mk (by omega) (by omega))
theorem emod_b (x : Int) {y : Int} (h : 0 < y) : 0 ≤ x % y ∧ x % y < y := ⟨Int.emod_nonneg _ (by omega), Int.emod_lt_of_pos _ h⟩
theorem rd_l_take : ∀ bs ds A l, fs_l_take bs ds A → as_l_take (EB l A) (envOf 4 (.mu l bs :: ds.map .da)) := by
  rintro _ _ A l ⟨C, sz, ⟨a, b, e, rfl, h0, h1⟩, hC, rfl, hs0, hs1, h⟩
  refine ⟨rfl, .int a, rfl, ?_⟩
  refine ite_b (fun c => ?_) (fun c => ?_)
  · refine ⟨rfl, .int b, rfl, ?_⟩
    refine And.intro hs0 ?_
    refine ⟨rfl, .int b, rfl, ?_⟩
    refine And.intro ⟨hs0, by omega⟩ ?_
    refine ⟨rfl, 1, rfl, ?_⟩
    have hm := emod_b b hs0
    exact ⟨rfl, h _ _ hm.1 hm.2 (bag_mk h0 (by omega))⟩
  · refine ⟨rfl, .int e, rfl, ?_⟩
    refine ⟨rfl, 2, rfl, ?_⟩
    refine ⟨rfl, .int b, rfl, ?_⟩
    refine And.intro (by right; omega) ?_
    refine ⟨rfl, .int (e + 1), rfl, ?_⟩
    refine ⟨rfl, .int (e + 1), rfl, ?_⟩
    refine And.intro (by left; omega) ?_
    refine And.intro (by right; omega) ?_
    refine ⟨rfl, .int (e + 1), rfl, ?_⟩
    refine And.intro (by left; omega) ?_
    refine And.intro (by omega) ?_
    generalize b * 48271 + (e + 1) * (e + 1) * 69621 + (e + 1) * 8191 + 977 = w
    have hw := emod_b w (y := 2147483647) (by omega)
    refine And.intro (by left; omega) ?_
    refine ⟨rfl, .int (e + 1), rfl, ?_⟩
    refine And.intro (by left; omega) ?_
    refine And.intro (by omega) ?_
    refine And.intro ⟨by omega, by omega⟩ ?_
    refine And.intro hs0 ?_
    have hm := emod_b (((w % 2147483647) * (w % 2147483647) + (e + 1) * 30323) % 2147483399 / 11) hs0
    exact ⟨rfl, h _ _ hm.1 hm.2 (bag_mk (by omega) (by omega))⟩
theorem rd_l_value : ∀ bs ds A l, fs_l_value bs ds A → as_l_value (EB l A) (envOf 4 (.mu l bs :: ds.map .da)) := by
  rintro bs _ A l ⟨C, pl, hb, hC, rfl, h⟩
  refine ⟨rfl, C, 6, hb, by omega, rfl, by omega, by omega, fun d cs d0 d1 hb1 => ?_⟩
  refine ite_b (fun c => ?_) (fun c => ?_)
  · refine And.intro ⟨by omega, by omega, by decide⟩ ?_
    refine ⟨rfl, C + 1, 10 ^ 9, hb1, by omega, rfl, by decide, by decide, fun d2 cs2 e0 e1 hb2 => ?_⟩
    refine And.intro ⟨by omega, by omega, by decide⟩ ?_
    refine And.intro (by left; omega) ?_
    refine And.intro ⟨by omega, by omega, by decide⟩ ?_
    refine ⟨rfl, C + 2, 10 ^ 9, hb2, by omega, rfl, by decide, by decide, fun d3 cs3 f0 f1 hb3 => ?_⟩
    refine ⟨rfl, C + 3, 2, hb3, by omega, rfl, by decide, by decide, fun d4 cs4 g0 g1 hb4 => ?_⟩
    refine And.intro (by left; omega) ?_
    refine And.intro (by right; omega) ?_
    exact ⟨rfl, h _ _ (hb4.le (by omega))⟩
  · refine ite_b (fun c2 => ?_) (fun c2 => ?_)
    · refine And.intro ⟨by omega, by omega, by decide⟩ ?_
      refine And.intro ⟨by omega, by omega, by decide⟩ ?_
      refine And.intro ⟨by omega, by omega, by decide⟩ ?_
      refine And.intro ⟨by omega, by omega, by decide⟩ ?_
      refine And.intro (Nat.le_of_ble_eq_true rfl) ?_
      refine ⟨rfl, C + 1, 4, hb1, by omega, rfl, by decide, by decide, fun d2 cs2 e0 e1 hb2 => ?_⟩
      have hz : d2 = 0 ∨ d2 = 1 ∨ d2 = 2 ∨ d2 = 3 := by omega
      rcases hz with rfl | rfl | rfl | rfl
      · exact ⟨_, rfl, rfl, h _ _ (hb2.le (by omega))⟩
      · exact ⟨_, rfl, rfl, h _ _ (hb2.le (by omega))⟩
      · exact ⟨_, rfl, rfl, h _ _ (hb2.le (by omega))⟩
      · exact ⟨_, rfl, rfl, h _ _ (hb2.le (by omega))⟩
    · refine ⟨rfl, C + 1, 3, hb1, by omega, rfl, by decide, by decide, fun d2 cs2 e0 e1 hb2 => ?_⟩
      exact ⟨rfl, h _ _ (hb2.le (by omega))⟩
end Ab
set_option maxHeartbeats 1000000
namespace Ab
open PySem PySem.Spec PyProof.Rows L2
theorem map_erase {α β : Type} (f : α → β) : ∀ (xs : List α) (i : Nat), (xs.eraseIdx i).map f = (xs.map f).eraseIdx i
  | [], _ => rfl
  | _ :: _, 0 => rfl
  | x :: r, i + 1 => by
    show f x :: (r.eraseIdx i).map f = f x :: (r.map f).eraseIdx i
    rw [map_erase f r i]
theorem rd_l_terms : ∀ bs ds A l, fs_l_terms bs ds A → as_l_terms (EB l A) (envOf 7 (.mu l bs :: ds.map .da)) := by
  rintro bs _ A l ⟨C, n, hb, hC, rfl, hn, h⟩
  refine And.intro (by omega) (And.intro (by omega) fun l3 => ?_)
  refine And.intro (Nat.le_of_ble_eq_true rfl) fun l4 => ?_
  refine And.intro (by omega) (And.intro (by omega) ?_)
  refine for_r0 n (by omega) (fun i δ => ∃ cs left t s5 s6, δ = [.mu l cs, .da (.int (n : Int)), .da (.int (n : Int)), .mu l3 (left.map D.int), .mu l4 (t.map termD), s5, s6] ∧ left.length + i = n ∧ (∀ m ∈ left, 0 ≤ m ∧ m < (n : Int)) ∧ inR n t ∧ t.length = i ∧ bagOk (C + 2 * i) cs)
    ⟨bs, (List.range n).map (fun (i : Nat) => (i : Int)), [], .un, .un, by rw [List.map_map, rng0z n (by omega)]; rfl, by simp, ?_, (fun _ h => nomatch h), rfl, hb⟩ ?_ ?_
  · intro m hm
    obtain ⟨i, hi, rfl⟩ := List.mem_map.mp hm
    simp at hi
    omega
  · rintro i _ hi ⟨cs, left, t, s5, s6, rfl, hl, hm, ht, htl, hb⟩ K hK
    refine ⟨rfl, C + 2 * i, n, hb, by omega, rfl, by omega, by omega, fun d ds1 d0 d1 hb1 => ?_⟩
    have hlen : ((left.map D.int).length : Int) = (left.length : Int) := by rw [List.length_map]
    have hz := emod_b d (y := ((left.map D.int).length : Int)) (by omega)
    refine And.intro (by omega) ?_
    obtain ⟨v, hv, ha⟩ : ∃ v, v ∈ left ∧ left[(d % ((left.map D.int).length : Int)).toNat]? = some v := by
      have h : (d % ((left.map D.int).length : Int)).toNat < left.length := by omega
      exact ⟨_, List.getElem_mem h, List.getElem?_eq_getElem h⟩
    refine ⟨rfl, hz.1, by omega, .int v, by rw [List.getElem?_map, ha]; rfl, ?_⟩
    refine ⟨rfl, C + 2 * i + 1, 2, hb1, by omega, rfl, by decide, by decide, fun d2 cs2 e0 e1 hb2 => ?_⟩
    refine And.intro (show (0 : Int) < 2 by decide) ?_
    refine And.intro (by left; omega) ?_
    refine And.intro (Nat.le_of_ble_eq_true rfl) ?_
    refine ⟨rfl, by rw [List.length_map]; omega, hK _ ⟨cs2, left.eraseIdx (d % ((left.map D.int).length : Int)).toNat, t ++ [(v, 1 - 2 * (((i : Int) + d2) % 2))], .da (.int (i : Int)), .da (.int v), ?_, ?_, fun m h2 => hm m (List.mem_of_mem_eraseIdx h2), inR_snoc ht (hm v hv), by simp [htl], hb2⟩⟩
    · rw [List.map_append, map_erase D.int]
      rfl
    · rw [List.length_eraseIdx_of_lt (by omega)]
      omega
  · rintro _ ⟨cs, left, t, s5, s6, rfl, hl, hm, ht, htl, hb⟩
    exact ⟨rfl, h t cs ht (hb.le (by omega))⟩
theorem rd_l_roll : ∀ bs ds A l, fs_l_roll bs ds A → as_l_roll (EB l A) (envOf 8 (.mu l bs :: ds.map .da)) := by
  rintro bs _ A l ⟨C, n, k, v0, v1, v2, hb, hC, rfl, hk0, hk1, hn, h⟩
  refine And.intro (Nat.le_of_ble_eq_true rfl) fun l4 => ?_
  refine And.intro (by omega) (And.intro (by omega) ?_)
  refine for_r0 n (by omega) (fun i δ => ∃ cs r s5 s6 s7, δ = [.mu l cs, .da (.int k), .da (.int (n : Int)), .da (.lst [.int v0, .int v1, .int v2]), .mu l4 (r.map D.int), s5, s6, s7] ∧ r.length = i ∧ bagOk (C + 2 * i) cs)
    ⟨bs, [], .un, .un, .un, rfl, rfl, hb⟩ ?_ ?_
  · rintro i _ hi ⟨cs, r, s5, s6, s7, rfl, hr, hb⟩ K hK
    refine And.intro (by right; omega) ?_
    refine ⟨rfl, C + 2 * i, 3, hb, by omega, rfl, by decide, by decide, fun d cs1 d0 d1 hb1 => ?_⟩
    refine And.intro (show (0 : Int) < 3 by decide) ?_
    have hz := emod_b (k * ((i : Int) + 1) + d) (y := 3) (by decide)
    refine fIx_ints [v0, v1, v2] hz.1 hz.2 fun v _ => ?_
    refine And.intro (Nat.le_of_ble_eq_true rfl) ?_
    refine ⟨rfl, C + 2 * i + 1, 5, hb1, by omega, rfl, by decide, by decide, fun d2 cs2 e0 e1 hb2 => ?_⟩
    refine fIx_ints [0, 0, 0, 1, -1] e0 e1 fun v2 _ => ?_
    refine And.intro ⟨by omega, by omega, by decide⟩ ?_
    refine And.intro ⟨by omega, by omega, by decide⟩ ?_
    refine ⟨rfl, by rw [List.length_map]; omega, hK _ ⟨cs2, r ++ [_], _, _, _, by rw [List.map_append]; rfl, by simp [hr], hb2⟩⟩
  · rintro _ ⟨cs, r, s5, s6, s7, rfl, hr, hb⟩
    exact ⟨rfl, h r cs hr (hb.le (by omega))⟩
theorem rd_l_laid : ∀ ds A, fs_l_laid ds A → as_l_laid (EO A) (envOf 6 (ds.map .da)) := by
  rintro _ A ⟨t, n, rs, rfl, ht, hs, h⟩
  refine And.intro (Nat.le_of_ble_eq_true rfl) fun l => ?_
  have hl := hs.1
  refine for_i rollD (fun r δ => ∃ zs s3 s4 s5, δ = [.da (.lst (t.map termD)), .da (.lst (rs.map rollD)), .mu l (zs.map rollD), s3, s4, s5] ∧ zs.length + r.length = rs.length ∧ (∀ z ∈ zs, z.length = n) ∧ ∀ z ∈ r, z.length = n) rs ⟨[], .un, .un, .un, rfl, by simp, fun _ h => (nomatch h), hs.2⟩ ?_ ?_
  · rintro x r _ ⟨zs, s3, s4, s5, rfl, hz, hz2, hr⟩ K hK
    have hx := hr x (by simp)
    rw [List.length_cons] at hz
    refine forM_i rollD (fun r2 δ => ∃ (a : Nat) (s5 : Slot), δ = [.da (.lst (t.map termD)), .da (.lst (rs.map rollD)), .mu l (zs.map rollD), .da (rollD x), .da (.int (a : Int)), s5] ∧ a + r2.length ≤ zs.length ∧ ∀ z ∈ r2, z.length = n) zs ⟨0, _, rfl, by simp, hz2⟩ ?_ ?_ ?_
    · rintro r2 _ ⟨a, s5, rfl, _⟩
      rfl
    · rintro y r2 _ ⟨a, s5, rfl, ha, hr2⟩ K2 hK2
      rw [List.length_cons] at ha
      refine ⟨false, t, n, y, x, rfl, ht, hr2 y (by simp), hx, ?_⟩
      refine ite_b (fun c => ?_) (fun c => ?_)
      · exact hK2 _ ⟨a + 1, _, rfl, by omega, fun z hz => hr2 z (by simp [hz])⟩
      · exact hK2 _ ⟨a, _, rfl, by omega, fun z hz => hr2 z (by simp [hz])⟩
    · rintro _ ⟨a, s5, rfl, ha, hr2⟩
      refine ⟨rfl, by omega, by simp at ha; omega, by rw [List.length_map]; omega, hK _ ⟨zs.take a ++ [x] ++ zs.drop a, .da (rollD x), .da (.int (a : Int)), s5, ?_, ?_, ?_, fun z hz => hr z (by simp [hz])⟩⟩
      · rw [List.map_append, List.map_append, List.map_take, List.map_drop]
        rfl
      · simp at ha ⊢
        omega
      · intro z hz
        rcases List.mem_append.mp hz with q | q
        · rcases List.mem_append.mp q with q | q
          · exact hz2 z (List.mem_of_mem_take q)
          · rw [List.mem_singleton.mp q]; exact hx
        · exact hz2 z (List.mem_of_mem_drop q)
  · rintro _ ⟨zs, s3, s4, s5, rfl, hz, hz2, hr⟩
    exact h zs (by simpa using hz) hz2
theorem rd_l_unsorted : ∀ ds A, fs_l_unsorted ds A → as_l_unsorted (ED A) (envOf 4 (ds.map .da)) := by
  rintro _ A ⟨p, sh, n, rfl, hp, hs, h⟩
  have hl := hs.1
  have hlen : ((sh.map rollD).length : Int) = (sh.length : Int) := by rw [List.length_map]
  refine And.intro (by omega) (And.intro (by omega) ?_)
  refine for_e (fun (i : Nat) => D.int (i : Int)) (List.range sh.length) (rng0z _ (by omega)) (fun r δ => (∃ s2 s3, δ = [.da (preD p), .da (.lst (sh.map rollD)), s2, s3]) ∧ (∀ i ∈ r, i < sh.length) ∧
    uns p sh = (r.flatMap fun i => (List.range (sh.length - (i + 1))).map fun k => (i, i + 1 + k)).any fun q => decide (0 < side p (rl sh q.1) (rl sh q.2))) ⟨⟨_, _, rfl⟩, fun i hi => by simpa using hi, rfl⟩ ?_ ?_
  · rintro i r _ ⟨⟨s2, s3, rfl⟩, hr, e⟩ K hK
    have hi := hr i (by simp)
    refine And.intro (by omega) ?_
    rw [List.flatMap_cons] at e
    refine for_e (fun (k : Nat) => D.int ((i : Int) + 1 + (k : Int))) (List.range (sh.length - (i + 1))) (rngz _ (by omega)) (fun r2 δ => (∃ s3, δ = [.da (preD p), .da (.lst (sh.map rollD)), .da (.int (i : Int)), s3]) ∧ (∀ k ∈ r2, i + 1 + k < sh.length) ∧
      uns p sh = ((r2.map fun k => (i, i + 1 + k)) ++ r.flatMap fun i => (List.range (sh.length - (i + 1))).map fun k => (i, i + 1 + k)).any fun q => decide (0 < side p (rl sh q.1) (rl sh q.2))) ⟨⟨_, rfl⟩, fun k hk => by simp at hk; omega, e⟩ ?_ ?_
    · rintro k r2 _ ⟨⟨s3, rfl⟩, hr2, e2⟩ K2 hK2
      have hk := hr2 k (by simp)
      rw [List.map_cons, List.cons_append, List.any_cons] at e2
      have ek : (i : Int) + 1 + (k : Int) = ((i + 1 + k : Nat) : Int) := by push_cast; rfl
      rw [ek]
      refine fIx_sh (b := false) hi ?_
      refine fIx_sh (b := false) hk ?_
      refine ⟨true, p, n, rl sh i, rl sh (i + 1 + k), rfl, hp, rl_len hs hi, rl_len hs hk, ?_⟩
      refine ite_b (fun c => ?_) (fun c => ?_)
      · have c : decide (0 < side p (rl sh i) (rl sh (i + 1 + k))) = true := c
        rw [c, Bool.true_or] at e2
        rw [e2] at h
        exact h
      · have c : decide (0 < side p (rl sh i) (rl sh (i + 1 + k))) = false := c
        rw [c, Bool.false_or] at e2
        exact hK2 _ ⟨⟨_, rfl⟩, fun k' hk' => hr2 k' (by simp [hk']), e2⟩
    · rintro _ ⟨⟨s3, rfl⟩, hr2, e2⟩
      exact hK _ ⟨⟨_, _, rfl⟩, fun i' hi' => hr i' (by simp [hi']), e2⟩
  · rintro _ ⟨⟨s2, s3, rfl⟩, hr, e⟩
    rw [e] at h
    exact h
end Ab
set_option maxHeartbeats 1000000
namespace Ab
open PySem PySem.Spec PyProof.Rows L2
theorem rd_l_shelf : ∀ bs ds A l, fs_l_shelf bs ds A → as_l_shelf (EB l A) (envOf 9 (.mu l bs :: ds.map .da)) := by
  rintro bs _ A l ⟨n, hb, rfl, hn, h⟩
  refine And.intro (by decide) (And.intro (by decide) ?_)
  refine lc_ie (fun (i : Nat) => D.int (i : Int)) (List.range 3) (rng0z 3 rfl) (fun r acc δ => ∃ cs vs, δ = [.mu l cs, .da (.int (n : Int)), .un, .un, .un, .un, .un, .un, .un] ∧ acc = vs.map D.int ∧ vs.length + r.length = 3 ∧ bagOk (62 + 4 * vs.length) cs) ⟨bs, [], rfl, rfl, rfl, hb⟩ ?_ ?_
  · rintro i r _ _ ⟨cs, vs, rfl, rfl, hv, hb⟩
    rw [List.length_cons] at hv
    refine ⟨⟨trivial, trivial⟩, fun Y Z hY hZ => ?_⟩
    refine ⟨rfl, 62 + 4 * vs.length, (i : Int) - 1, hb, by omega, rfl, fun v cs2 hb2 => ?_⟩
    exact hY _ _ (by rw [List.length_map]; omega) ⟨cs2, vs ++ [v], rfl, by rw [List.map_append]; rfl, by simp; omega, hb2.le (by simp; omega)⟩
  rintro _ _ ⟨cs, vs, rfl, rfl, hv, hb⟩
  obtain ⟨v0, v1, v2, rfl⟩ : ∃ v0 v1 v2, vs = [v0, v1, v2] := by
    match vs, hv with
    | [a, b, c], _ => exact ⟨a, b, c, rfl⟩
  refine And.intro (Nat.le_of_ble_eq_true rfl) ?_
  refine ⟨rfl, 74, 9, hb, by omega, rfl, by decide, by decide, fun d cs1 d0 d1 hb1 => ?_⟩
  refine fIx_ints [3, 0, 1, 2, 4, 5, 6, 7, 10] d0 d1 fun m hm => ?_
  have hm2 : 0 ≤ m ∧ m ≤ 10 := by
    simp only [List.mem_cons, List.not_mem_nil, or_false] at hm
    omega
  refine And.intro (by omega) (And.intro (by omega) ?_)
  refine lc_ie (fun (i : Nat) => D.int (i : Int)) (List.range m.toNat) (rng0z m.toNat rfl) (fun r acc δ => ∃ cs rs, δ = [.mu l cs, .da (.int (n : Int)), .da (.lst [.int v0, .int v1, .int v2]), .da (.int m), .un, .un, .un, .un, .un] ∧ acc = rs.map rollD ∧ rs.length + r.length = m.toNat ∧ (∀ x ∈ rs, x.length = n) ∧ (∀ i ∈ r, i < 10) ∧ bagOk (75 + 10 * rs.length) cs)
    ⟨cs1, [], rfl, rfl, by simp, (fun _ h => nomatch h), (fun i hi => by simp at hi; omega), hb1⟩ ?_ ?_
  · rintro i r _ _ ⟨cs, rs, rfl, rfl, hv, hx, hi, hb⟩
    rw [List.length_cons] at hv
    have hi1 := hi i (by simp)
    refine ⟨⟨trivial, trivial⟩, fun Y Z hY hZ => ?_⟩
    refine ⟨rfl, 75 + 10 * rs.length, n, i, v0, v1, v2, hb, by omega, rfl, by omega, by omega, hn, fun x cs2 hx2 hb2 => ?_⟩
    exact hY _ _ (by rw [List.length_map]; omega) ⟨cs2, rs ++ [x], rfl, by rw [List.map_append]; rfl, by simp; omega, (fun y hy => by
      rcases List.mem_append.mp hy with q | q
      · exact hx y q
      · rw [List.mem_singleton.mp q]; exact hx2), (fun j hj => hi j (by simp [hj])), hb2.le (by simp; omega)⟩
  rintro _ _ ⟨cs, rs, rfl, rfl, hv, hx, _, hb⟩
  simp only [List.length_nil, Nat.add_zero] at hv
  refine ⟨rfl, 75 + 10 * rs.length, 5, hb, by omega, rfl, by decide, by decide, fun kd cs3 k0 k1 hb3 => ?_⟩
  have hs : shOk n rs := ⟨by omega, hx⟩
  refine ite_b (fun c => ?_) (fun c => ?_)
  · exact ⟨rfl, h rs cs3 hs⟩
  · refine ⟨rfl, 75 + 10 * rs.length + 1, n, hb3, by omega, rfl, hn, fun t cs4 ht hb4 => ?_⟩
    refine ⟨t, n, rs, rfl, ht, hs, fun zs hz1 hz2 l4 => ?_⟩
    have hzs : shOk n zs := ⟨by omega, hz2⟩
    refine ite_b (fun c2 => ?_) (fun c2 => ?_)
    · refine And.intro (Nat.le_of_ble_eq_true rfl) ⟨rfl, cmpOk_rolls false zs, cmpOk_nil, ?_⟩
      rw [eqD_map_nil]
      refine ite_b (fun c3 => ?_) (fun c3 => ?_)
      · have hne : zs ≠ [] := by simpa using c3
        obtain ⟨y, ys, rfl⟩ := List.exists_cons_of_ne_nil hne
        refine ⟨rfl, 75 + 10 * rs.length + 1 + 10, ((y :: ys).length : Int), hb4, by omega, ?_, ?_, ?_, fun pl cs5 p0 p1 hb5 => ?_⟩
        · rw [List.length_map]
        · simp
        · have := hzs.1; omega
        · refine ⟨rfl, Int.le_refl 0, by decide, rollD y, rfl, ?_⟩
          have hlen := hzs.1
          rw [List.length_cons] at hlen p1
          refine ⟨rfl, p0, by omega, ?_, rfl, ?_⟩
          · show (ys.map rollD).length < 16777216
            rw [List.length_map]
            omega
          · have hh := h (ys.take pl.toNat ++ [y] ++ ys.drop pl.toNat) cs5 ⟨?_, ?_⟩
            · rw [List.map_append, List.map_append, List.map_take, List.map_drop] at hh
              exact hh
            · simp
              omega
            · intro z hz
              have hz2' : ∀ w ∈ ys, w.length = n := fun w hw => hz2 w (by simp [hw])
              rcases List.mem_append.mp hz with q | q
              · rcases List.mem_append.mp q with q | q
                · exact hz2' z (List.mem_of_mem_take q)
                · rw [List.mem_singleton.mp q]; exact hz2 y (by simp)
              · exact hz2' z (List.mem_of_mem_drop q)
      · exact ⟨rfl, h zs cs4 hzs⟩
    · exact ⟨rfl, h zs cs4 hzs⟩
/-! ### the rows counted out -/
def lawKeep (row : List Int) (n : Nat) : List Int := ((List.range (2 * n)).map fun (k : Nat) => (k : Int)).filter fun k => !decide (k / 2 ∈ row.map fun z => z / 2)
def lawStep (n : Nat) (row : List Int) : List (List Int) := (lawKeep row n).map fun k => row ++ [k]
def lawFull (n : Nat) : Nat → List (List Int)
  | 0 => [[]]
  | i + 1 => (lawFull n i).flatMap (lawStep n)
def lawTerm (k : Int) : Term := (k / 2, 1 - 2 * (k % 2))
def rowL (r : List Int) : D := .lst (r.map D.int)
theorem lawFull_fin : ∀ n : Fin 4, ((lawFull n.val n.val).map fun r => r.map lawTerm) = fullRows n.val ∧ ∀ i : Fin 5, (lawFull n.val i.val).length ≤ 48 ∧ ∀ r ∈ lawFull n.val i.val, r.length = i.val := by decide +kernel
theorem rd_l_full : ∀ ds A, fs_l_full ds A → as_l_full (ED A) (envOf 8 (ds.map .da)) := by
  rintro _ A ⟨n, rfl, hn, h⟩
  have F := lawFull_fin ⟨n, by omega⟩
  refine And.intro (Nat.le_of_ble_eq_true rfl) (And.intro (Nat.le_of_ble_eq_true rfl) ?_)
  refine And.intro (by omega) (And.intro (by omega) ?_)
  refine for_r0 n (by omega) (fun i δ => ∃ s2 s3 s4 s5 s6, δ = [.da (.int (n : Int)), .da (.lst ((lawFull n i).map rowL)), s2, s3, s4, s5, s6, .un] ∧ fre s4 ∧ fre s6) ⟨.un, .un, .un, .un, .un, rfl, trivial, trivial⟩ ?_ ?_
  · rintro i _ hi ⟨s2, s3, s4, s5, s6, rfl, f4, f6⟩ K hK
    refine And.intro (Nat.le_of_ble_eq_true rfl) fun l => ?_
    have F1 := F.2 ⟨i + 1, by omega⟩
    have F0 := F.2 ⟨i, by omega⟩
    refine for_i rowL (fun r δ => (∃ acc s4 s5 s6, δ = [.da (.int (n : Int)), .da (.lst ((lawFull n i).map rowL)), .da (.int (i : Int)), .mu l (acc.map rowL), s4, s5, s6, .un] ∧ fre s4 ∧ fre s6 ∧ lawFull n (i + 1) = acc ++ r.flatMap (lawStep n)) ∧ ∀ x ∈ r, x ∈ lawFull n i) (lawFull n i) ⟨⟨[], s4, s5, s6, rfl, f4, f6, rfl⟩, fun x hx => hx⟩ ?_ ?_
    · rintro row r _ ⟨⟨acc, s4, s5, s6, rfl, f4, f6, e⟩, hm⟩ K2 hK2
      have hrow : row.length = i := F0.2 row (hm row (by simp))
      refine lc_m D.int row (fun z => .int (z / 2)) (by omega) ⟨trivial, trivial⟩ (fun z hz Y hY => ?_) ?_
      · exact ⟨⟨by decide, by decide⟩, hY _ rfl⟩
      · refine And.intro (by left; omega) ?_
        refine And.intro (by omega) (And.intro (by omega) ?_)
        rw [List.flatMap_cons] at e
        have e : lawFull n (i + 1) = acc ++ ((((List.range (2 * n)).map fun (k : Nat) => (k : Int)).filter fun k => !decide (k / 2 ∈ row.map fun z => z / 2)).map (fun k => row ++ [k]) ++ r.flatMap (lawStep n)) := e
        refine for_e D.int ((List.range (2 * n)).map fun (k : Nat) => (k : Int)) (by rw [rng0z (2 * n) (by omega), List.map_map]; rfl) (fun r2 δ => ∃ acc s6, δ = [.da (.int (n : Int)), .da (.lst ((lawFull n i).map rowL)), .da (.int (i : Int)), .mu l (acc.map rowL), .da (rowL row), .da (.lst (row.map fun z => D.int (z / 2))), s6, .un] ∧ fre s6 ∧
          lawFull n (i + 1) = acc ++ ((r2.filter fun k => !decide (k / 2 ∈ row.map fun z => z / 2)).map (fun k => row ++ [k]) ++ r.flatMap (lawStep n))) ⟨acc, s6, rfl, f6, e⟩ ?_ ?_
        · rintro k r2 _ ⟨acc, s6, rfl, f6, e⟩ K3 hK3
          refine And.intro ⟨by decide, by decide⟩ ?_
          refine ⟨row.map fun z => z / 2, by rw [List.map_map]; rfl, ?_⟩
          rw [List.filter_cons] at e
          refine ite_b (fun c => ?_) (fun c => ?_)
          · have c : (!decide (k / 2 ∈ row.map fun z => z / 2)) = true := c
            rw [if_pos c, List.map_cons, List.cons_append] at e
            refine And.intro (Nat.le_of_ble_eq_true rfl) ?_
            refine And.intro ?_ ⟨rfl, ?_, hK3 _ ⟨acc ++ [row ++ [k]], .da (.int k), ?_, trivial, by rw [e]; simp⟩⟩
            · rw [List.length_map]
              show row.length + 1 ≤ _
              omega
            · have := F1.1
              have e' : (lawFull n (i + 1)).length = _ := congrArg List.length e
              rw [List.length_append] at e'
              rw [List.length_map]
              show acc.length < _
              have h48 : (lawFull n (i + 1)).length ≤ 48 := F1.1
              omega
            · rw [List.map_append]
              have : rowL (row ++ [k]) = .lst (row.map D.int ++ [D.int k]) := by unfold rowL; rw [List.map_append]; rfl
              rw [List.map_cons, this]
              rfl
          · have c : (!decide (k / 2 ∈ row.map fun z => z / 2)) = false := c
            rw [c] at e
            exact hK3 _ ⟨acc, .da (.int k), rfl, trivial, e⟩
        · rintro _ ⟨acc, s6, rfl, f6, e⟩
          exact hK2 _ ⟨⟨acc, _, _, _, rfl, trivial, f6, e⟩, fun x hx => hm x (by simp [hx])⟩
    · rintro _ ⟨⟨acc, s4, s5, s6, rfl, f4, f6, e⟩, _⟩
      rw [List.flatMap_nil, List.append_nil] at e
      refine hK _ ⟨.da (.int (i : Int)), .un, s4, s5, s6, ?_, f4, f6⟩
      rw [e]
      rfl
  · rintro _ ⟨s2, s3, s4, s5, s6, rfl, f4, f6⟩
    refine lc_m rowL (lawFull n n) (fun r => preD (r.map lawTerm)) (Nat.le_trans (F.2 ⟨n, by omega⟩).1 (by decide)) ⟨f4, trivial⟩ (fun row hrow Y hY => ?_) ?_
    · have hl : row.length = n := (F.2 ⟨n, by omega⟩).2 row hrow
      refine lc_m D.int row (fun k => termD (lawTerm k)) (by omega) ⟨f6, trivial⟩ (fun k hk Y2 hY2 => ?_) ?_
      · refine And.intro ⟨by decide, by decide⟩ ?_
        refine And.intro (show (0 : Int) < 2 by decide) ?_
        refine And.intro (by left; omega) ?_
        exact ⟨Nat.le_of_ble_eq_true rfl, hY2 _ rfl⟩
      · have z := hY [.da (.int (n : Int)), .da (.lst ((lawFull n n).map rowL)), s2, s3, .da (rowL row), s5, s6, .un] rfl
        have e3 : preD (row.map lawTerm) = .tup (row.map fun k => termD (lawTerm k)) := by unfold preD; rw [List.map_map]; rfl
        rw [e3] at z
        exact z
    · have e : (lawFull n n).map (fun r => preD (r.map lawTerm)) = (fullRows n).map preD := by
        rw [← F.1, List.map_map]
        rfl
      rw [e]
      exact h
end Ab
set_option maxHeartbeats 1000000
namespace Ab
open PySem PySem.Spec PyProof.Rows L2
theorem rd_l_rules_are : ∀ ds A, fs_l_rules_are ds A → as_l_rules_are (ED A) (envOf 4 (ds.map .da)) := by
  rintro _ A ⟨ts, rfl, hl, ht, h⟩
  have hlen : ((ts.map ruleD).length : Int) = (ts.length : Int) := by rw [List.length_map]
  have hlen2 : ((ts.map preD).length : Int) = (ts.length : Int) := by rw [List.length_map]
  refine ite_n (show (!decide (((ts.map ruleD).length : Int) = ((ts.map preD).length : Int))) = false by rw [hlen, hlen2]; simp) ?_
  refine And.intro (by omega) (And.intro (by omega) ?_)
  refine for_r0 ts.length (by omega) (fun i δ => ∃ s2 s3, δ = [.da (.lst (ts.map ruleD)), .da (.lst (ts.map preD)), s2, s3]) ⟨_, _, rfl⟩ ?_ ?_
  · rintro i _ hi ⟨s2, s3, rfl⟩ K hK
    have hg : ts[i]? = some ts[i] := List.getElem?_eq_getElem hi
    refine fIx_lst (at_map (at_nat hg)) ?_
    refine fIx_lst (at_map (at_nat hg)) ?_
    refine fIx_lst (at_map (at_nat hg)) ?_
    refine fIx_lst (at_map (at_nat hg)) ?_
    refine ⟨cmpOk_pre _, cmpOk_pre _, ?_⟩
    refine ite_n (show (!eqD (preD ts[i]) (preD ts[i])) = false by rw [eqD_self (itr_pre _)]; rfl) ?_
    refine fIx_lst (at_map (at_nat hg)) ?_
    refine for_i termD (fun r δ => ∃ s3, δ = [.da (.lst (ts.map ruleD)), .da (.lst (ts.map preD)), .da (.int (i : Int)), s3]) ts[i] ⟨_, rfl⟩ ?_ ?_
    · rintro ⟨m, d⟩ r _ ⟨s3, rfl⟩ K2 hK2
      refine ⟨_, at_nat (j := 0) rfl, m, rfl, ?_⟩
      refine ⟨_, at_nat (j := 1) rfl, d, rfl, ?_⟩
      exact hK2 _ ⟨_, rfl⟩
    · rintro _ ⟨s3, rfl⟩
      exact hK _ ⟨_, _, rfl⟩
  · rintro _ ⟨s2, s3, rfl⟩
    exact h
theorem rd_l_row_kind : ∀ ds A, fs_l_row_kind ds A → as_l_row_kind (ED A) (envOf 2 (ds.map .da)) := by
  rintro _ A ⟨⟨p, i, j⟩, rfl, h⟩
  refine ⟨_, at_nat (j := 0) rfl, ?_⟩
  refine ⟨_, at_nat (j := 0) rfl, ?_⟩
  refine for_i termD (fun r δ => ∃ s1, δ = [.da (rowD (p, i, j)), s1]) p ⟨_, rfl⟩ ?_ ?_
  · rintro ⟨m, d⟩ r _ ⟨s1, rfl⟩ K hK
    refine ⟨_, at_nat (j := 0) rfl, m, rfl, ?_⟩
    refine ⟨_, at_nat (j := 1) rfl, d, rfl, ?_⟩
    exact hK _ ⟨_, rfl⟩
  · rintro _ ⟨s1, rfl⟩
    refine ⟨_, at_nat (j := 1) rfl, i, rfl, ?_⟩
    refine ⟨_, at_nat (j := 2) rfl, j, rfl, ?_⟩
    exact h
/-- the law's own look at a prefix -/
theorem isPre_snoc (p : Pre) (t : Term) (n : Nat) (h : isPre (p ++ [t]) n = true) : t ∈ behind p n ∧ (p = [] ∨ isPre p n = true) := by
  have h1 := isPre_at h (i := p.length) (by simp)
  refine ⟨?_, ?_⟩
  · rw [List.getD_eq_getElem?_getD] at h1
    simpa using h1
  · by_cases e : p = []
    · exact .inl e
    · refine .inr ?_
      unfold isPre
      rw [Bool.and_eq_true, List.all_eq_true]
      refine ⟨fun i hi => ?_, decide_eq_true (List.length_pos_iff.mpr e)⟩
      have hi : i < p.length := by simpa using hi
      have h2 := isPre_at h (i := i) (by simp; omega)
      rw [List.getD_eq_getElem?_getD, List.getElem?_append_left hi, List.take_append_of_le_length (by omega)] at h2
      rw [List.getD_eq_getElem?_getD]
      exact decide_eq_true h2
def lawOk (n : Nat) : List Int → Pre → Bool
  | _, [] => true
  | ms, (m, d) :: r => decide (0 ≤ m) && (decide (m < (n : Int)) && (!decide (m ∈ ms) && (decide (d ∈ [(1 : Int), -1]) && lawOk n (ms ++ [m]) r)))
theorem lawOk_cons (n : Nat) (ms : List Int) (m d : Int) (r : Pre) : lawOk n ms ((m, d) :: r) = (decide (0 ≤ m) && (decide (m < (n : Int)) && (!decide (m ∈ ms) && (decide (d ∈ [(1 : Int), -1]) && lawOk n (ms ++ [m]) r)))) := rfl
theorem lawOk_iff (n : Nat) : ∀ (p : Pre) (q : Pre), lawOk n (q.map (·.1)) p = true ↔ ∀ i < p.length, p.getD i (0, 0) ∈ behind (q ++ p.take i) n
  | [], q => by simp [lawOk]
  | (m, d) :: r, q => by
    have ih := lawOk_iff n r (q ++ [(m, d)])
    rw [List.map_append] at ih
    unfold lawOk
    rw [Bool.and_eq_true, Bool.and_eq_true, Bool.and_eq_true, Bool.and_eq_true, show List.map (fun x : Term => x.1) q ++ [m] = List.map (fun x : Term => x.1) q ++ List.map (fun x : Term => x.1) [(m, d)] from rfl, ih]
    constructor
    · rintro ⟨h1, h2, h3, h4, h5⟩ i hi
      cases i with
      | zero =>
        have h4' := of_decide_eq_true h4
        simp only [List.mem_cons, List.not_mem_nil, or_false] at h4'
        simp only [List.take_zero, List.append_nil, List.getD_cons_zero]
        exact mem_behind.mpr ⟨of_decide_eq_true h1, of_decide_eq_true h2, h4', by simpa using h3⟩
      | succ i =>
        have z := h5 i (by simpa using hi)
        simpa using z
    · intro h
      have z := mem_behind.mp (h 0 (by simp))
      simp only [List.take_zero, List.append_nil, List.getD_cons_zero] at z
      refine ⟨decide_eq_true z.1, decide_eq_true z.2.1, by simpa using z.2.2.2, decide_eq_true (by simpa using z.2.2.1), fun i hi => ?_⟩
      have w := h (i + 1) (by simpa using hi)
      simpa using w
theorem isPre_law (p : Pre) (n : Nat) : isPre p n = (lawOk n [] p && decide (0 < p.length)) := by
  have h := lawOk_iff n p []
  unfold isPre
  congr 1
  cases e : lawOk n [] p
  · rw [List.all_eq_false]
    rw [show (List.map (fun x : Term => x.1) ([] : Pre)) = [] from rfl, e] at h
    have h' : ¬ ∀ i < p.length, p.getD i (0, 0) ∈ behind ([] ++ p.take i) n := fun z => by have := h.mpr z; cases this
    simp only [Classical.not_forall] at h'
    obtain ⟨i, hi, z⟩ := h'
    exact ⟨i, by simp [hi], by simpa using z⟩
  · rw [List.all_eq_true]
    intro i hi
    exact decide_eq_true (h.mp e i (by simpa using hi))
theorem cmp_side : ∀ (p : Pre) (x y : Roll), (∀ t ∈ p, t.2 = 1 ∨ t.2 = -1) → cmp p x y = side p x y
  | [], _, _, _ => rfl
  | (m, d) :: r, x, y, h => by
    have hd := h (m, d) (by simp)
    rw [cmp_cons, side_cons, cmp_side r x y fun t ht => h t (by simp [ht])]
    by_cases e : vl x m ≠ vl y m
    · rw [if_pos e, if_pos e]
      rcases hd with rfl | rfl
      · by_cases l : vl x m < vl y m
        · rw [if_neg (show ¬ vl y m < vl x m by omega), decide_eq_true l, if_pos (by decide)]
        · rw [if_pos (show vl y m < vl x m by omega), decide_eq_false l, if_neg (by decide)]
      · by_cases l : vl x m < vl y m
        · rw [if_neg (show ¬ vl y m < vl x m by omega), decide_eq_true l, if_neg (by decide)]; rfl
        · rw [if_pos (show vl y m < vl x m by omega), decide_eq_false l, if_pos (by decide)]
    · rw [if_neg e, if_neg e]
theorem side_val : ∀ (p : Pre) (x y : Roll), (∀ t ∈ p, t.2 = 1 ∨ t.2 = -1) → side p x y = 1 ∨ side p x y = 0 ∨ side p x y = -1
  | [], _, _, _ => .inr (.inl rfl)
  | (m, d) :: r, x, y, h => by
    have hd := h (m, d) (by simp)
    rw [side_cons]
    have ih := side_val r x y fun t ht => h t (by simp [ht])
    simp only at hd
    split
    · split <;> omega
    · exact ih
theorem side_zero : ∀ (p : Pre) (x y : Roll), (∀ t ∈ p, t.2 = 1 ∨ t.2 = -1) → (side p x y = 0 ↔ (p.all fun t => decide (vl x t.1 = vl y t.1)) = true)
  | [], _, _, _ => by simp [side]
  | (m, d) :: r, x, y, h => by
    have hd := h (m, d) (by simp)
    simp only at hd
    rw [side_cons, List.all_cons, Bool.and_eq_true]
    have ih := side_zero r x y fun t ht => h t (by simp [ht])
    by_cases e : vl x m = vl y m
    · rw [if_neg (fun z => z e), ih]
      simp [e]
    · rw [if_pos e]
      constructor
      · intro z
        split at z <;> omega
      · intro z
        exact absurd (of_decide_eq_true z.1) e
theorem isPre_dir {p : Pre} {n : Nat} (h : isPre p n = true) : ∀ t ∈ p, t.2 = 1 ∨ t.2 = -1 := by
  intro t ht
  obtain ⟨i, hi, e⟩ := List.getElem_of_mem ht
  have q := isPre_at h hi
  rw [List.getD_eq_getElem?_getD, List.getElem?_eq_getElem hi] at q
  have q : p[i] ∈ behind (p.take i) n := q
  rw [e] at q
  exact (mem_behind.mp q).2.2.1
theorem shut_law {p : Pre} (h : ∀ t ∈ p, t.2 = 1 ∨ t.2 = -1) (x y : Roll) : shut p x y = (decide (side p.dropLast x y = 0) && decide (0 < side (lastL p) x y)) := by
  rw [shut_split]
  have h1 : ∀ t ∈ p.dropLast, t.2 = 1 ∨ t.2 = -1 := fun t ht => h t (List.dropLast_subset p ht)
  have h2 : ∀ t ∈ lastL p, t.2 = 1 ∨ t.2 = -1 := fun t ht => h t (List.mem_of_mem_drop ht)
  rw [cmp_side _ _ _ h2]
  have z := side_zero _ x y h1
  have w := side_val _ x y h2
  congr 1
  · cases e : (p.dropLast.all fun t => decide (vl x t.1 = vl y t.1))
    · rw [e] at z
      exact (decide_eq_false fun c => by have := z.mp c; cases this).symm
    · exact (decide_eq_true (z.mpr e)).symm
  · exact decide_eq_decide.mpr (by omega)
theorem rd_l_right : ∀ ds A, fs_l_right ds A → as_l_right (ED A) (envOf 9 (ds.map .da)) := by
  rintro _ A ⟨⟨p, i, j⟩, sh, n, rfl, hn, hp, hs, h⟩
  have hp : p.length ≤ 1000 := hp
  have er : right (p, i, j) sh n = ((lawOk n [] p && decide (0 < p.length)) && (decide (0 ≤ i) && decide (i < j) && decide (j < (sh.length : Int))) && shut p (rl sh i.toNat) (rl sh j.toNat)) := by rw [← isPre_law]; rfl
  refine And.intro (Nat.le_of_ble_eq_true rfl) fun l => ?_
  refine for_i termD (fun r δ => ∃ ms s7 s8, δ = [.da (rowD (p, i, j)), .da (.lst (sh.map rollD)), .da (.int (n : Int)), .da (preD p), .da (.int i), .da (.int j), .mu l (ms.map D.int), s7, s8] ∧ ms.length + r.length = p.length ∧ lawOk n [] p = lawOk n ms r) p ⟨[], .un, .un, rfl, by simp, rfl⟩ ?_ ?_
  · rintro ⟨m, d⟩ r _ ⟨ms, s7, s8, rfl, hm, e⟩ K hK
    rw [List.length_cons] at hm
    rw [lawOk_cons] at e
    have out : lawOk n [] p = false → A (.bl false) := fun z => by
      rw [er, z] at h
      exact h
    refine ite_b (fun c => ?_) (fun c => ?_)
    · have c' : m < 0 := of_decide_eq_true c
      exact out (by rw [e, decide_eq_false (by omega)]; rfl)
    · have c0 : ¬ m < 0 := of_decide_eq_false c
      rw [decide_eq_true (show 0 ≤ m by omega), Bool.true_and] at e
      refine ite_b (fun c => ?_) (fun c => ?_)
      · have c' : (n : Int) ≤ m := of_decide_eq_true c
        exact out (by rw [e, decide_eq_false (by omega)]; rfl)
      · have c1 : ¬ (n : Int) ≤ m := of_decide_eq_false c
        rw [decide_eq_true (show m < (n : Int) by omega), Bool.true_and] at e
        refine ⟨ms, rfl, ?_⟩
        refine ite_b (fun c => ?_) (fun c => ?_)
        · have c : decide (m ∈ ms) = true := c
          exact out (by rw [e, c]; rfl)
        · have c : decide (m ∈ ms) = false := c
          rw [c, Bool.not_false, Bool.true_and] at e
          refine And.intro (Nat.le_of_ble_eq_true rfl) ⟨[1, -1], rfl, ?_⟩
          refine ite_b (fun c => ?_) (fun c => ?_)
          · have c : (!decide (d ∈ [(1 : Int), -1])) = true := c
            have c : decide (d ∈ [(1 : Int), -1]) = false := by simpa using c
            exact out (by rw [e, c]; rfl)
          · have c : (!decide (d ∈ [(1 : Int), -1])) = false := c
            have c : decide (d ∈ [(1 : Int), -1]) = true := by
              cases z : decide (d ∈ [(1 : Int), -1])
              · rw [z] at c; cases c
              · rfl
            rw [c, Bool.true_and] at e
            refine ⟨rfl, by rw [List.length_map]; omega, hK _ ⟨ms ++ [m], .da (.int m), .da (.int d), by rw [List.map_append]; rfl, by simp; omega, e⟩⟩
  · rintro _ ⟨ms, s7, s8, rfl, hm, e⟩
    have e : lawOk n [] p = true := by rw [e]; unfold lawOk; rfl
    rw [e, Bool.true_and] at er
    have hm : ms.length = p.length := by simpa using hm
    refine And.intro (Nat.le_of_ble_eq_true rfl) ⟨rfl, cmpOk_ints false ms, cmpOk_nil, ?_⟩
    rw [eqD_map_nil]
    refine ite_b (fun c => ?_) (fun c => ?_)
    · have c : ms = [] := of_decide_eq_true c
      have : p.length = 0 := by rw [← hm, c]; rfl
      rw [er, decide_eq_false (by omega)] at h
      exact h
    · have c : ms ≠ [] := of_decide_eq_false c
      have hpos : 0 < p.length := by rw [← hm]; exact List.length_pos_iff.mpr c
      rw [decide_eq_true hpos, Bool.true_and] at er
      refine ite_b (fun c => ?_) (fun c => ?_)
      · have c : i < 0 := of_decide_eq_true c
        rw [er, decide_eq_false (show ¬ 0 ≤ i by omega)] at h
        exact h
      · have c0 : ¬ i < 0 := of_decide_eq_false c
        refine ite_b (fun c => ?_) (fun c => ?_)
        · have c : j ≤ i := of_decide_eq_true c
          rw [er, decide_eq_false (show ¬ i < j by omega), Bool.and_false] at h
          exact h
        · have c1 : ¬ j ≤ i := of_decide_eq_false c
          refine ite_b (fun c => ?_) (fun c => ?_)
          · have c : ((sh.map rollD).length : Int) ≤ j := of_decide_eq_true c
            rw [List.length_map] at c
            rw [er, decide_eq_false (show ¬ j < (sh.length : Int) by omega), Bool.and_false] at h
            exact h
          · have c2 : ¬ ((sh.map rollD).length : Int) ≤ j := of_decide_eq_false c
            rw [List.length_map] at c2
            have pre : isPre p n = true := by rw [isPre_law, e, decide_eq_true hpos]; rfl
            rw [decide_eq_true (show 0 ≤ i by omega), decide_eq_true (show i < j by omega), decide_eq_true (show j < (sh.length : Int) by omega), shut_law (isPre_dir pre)] at er
            have ei : i = ((i.toNat : Nat) : Int) := by omega
            have ej : j = ((j.toNat : Nat) : Int) := by omega
            have hi : i.toNat < sh.length := by omega
            have hj : j.toNat < sh.length := by omega
            have gi : atI (sh.map rollD) i = some (rollD (rl sh i.toNat)) := by rw [ei]; exact at_rl hi
            have gj : atI (sh.map rollD) j = some (rollD (rl sh j.toNat)) := by rw [ej]; exact at_rl hj
            refine ⟨_, gi, _, gj, ?_⟩
            refine ⟨true, p.dropLast, n, rl sh i.toNat, rl sh j.toNat, by rw [cut_init]; unfold seqD; rw [List.map_dropLast]; rfl, inR_init (isPre_inR pre), rl_len hs hi, rl_len hs hj, ?_⟩
            refine ite_b (fun c => ?_) (fun c => ?_)
            · have c : ¬ side p.dropLast (rl sh i.toNat) (rl sh j.toNat) = 0 := by simpa using c
              rw [er, decide_eq_false c] at h
              exact h
            · have c : side p.dropLast (rl sh i.toNat) (rl sh j.toNat) = 0 := by simpa using c
              refine ⟨_, gi, _, gj, ?_⟩
              refine ⟨true, lastL p, n, rl sh i.toNat, rl sh j.toNat, by rw [cut_last]; unfold seqD lastL; rw [List.map_drop, List.length_map]; rfl, inR_last (isPre_inR pre), rl_len hs hi, rl_len hs hj, ?_⟩
              rw [er, decide_eq_true c] at h
              exact h
end Ab
set_option maxHeartbeats 1000000
namespace Ab
open PySem PySem.Spec PyProof.Rows L2
theorem len_rl (sh : Shelf) : ((sh.map rollD).length : Int) = (sh.length : Int) := by rw [List.length_map]
theorem rd_l_least : ∀ ds A, fs_l_least ds A → as_l_least (ED A) (envOf 8 (ds.map .da)) := by
  rintro _ A ⟨⟨p, ri, rj⟩, sh, n, rfl, hn, hp, hs, hleast, h⟩
  have hl := hs.1
  have hp : p.length ≤ 1000 := hp
  have hlen := len_rl sh
  refine fIx_tup (at_nat (j := 0) rfl) ?_
  refine And.intro (by omega) (And.intro (by omega) ?_)
  refine for_r0 sh.length (by omega) (fun i δ => ∃ s4 s5 s6 s7, δ = [.da (rowD (p, ri, rj)), .da (.lst (sh.map rollD)), .da (.int (n : Int)), .da (preD p), s4, s5, s6, s7]) ⟨_, _, _, _, rfl⟩ ?_ ?_
  · rintro i _ hi ⟨s4, s5, s6, s7, rfl⟩ K hK
    refine And.intro (by omega) ?_
    refine for_r (sh.length - (i + 1)) (by omega) (fun k δ => ∃ s5 s6 s7, δ = [.da (rowD (p, ri, rj)), .da (.lst (sh.map rollD)), .da (.int (n : Int)), .da (preD p), .da (.int (i : Int)), s5, s6, s7]) ⟨_, _, _, rfl⟩ ?_ ?_
    · rintro k _ hk ⟨s5, s6, s7, rfl⟩ K2 hK2
      have ek : (i : Int) + 1 + (k : Int) = ((i + 1 + k : Nat) : Int) := by push_cast; rfl
      rw [ek]
      have hpl : ((p.map termD).length : Int) = (p.length : Int) := by rw [List.length_map]
      refine And.intro (by omega) ?_
      refine for_r p.length (by omega) (fun z δ => ∃ s6 s7, δ = [.da (rowD (p, ri, rj)), .da (.lst (sh.map rollD)), .da (.int (n : Int)), .da (preD p), .da (.int (i : Int)), .da (.int ((i + 1 + k : Nat) : Int)), s6, s7]) ⟨_, _, rfl⟩ ?_ ?_
      · rintro z _ hz ⟨s6, s7, rfl⟩ K3 hK3
        have ez : (1 : Int) + (z : Int) = ((z + 1 : Nat) : Int) := by push_cast; omega
        rw [ez]
        refine And.intro (Nat.le_of_ble_eq_true rfl) ?_
        refine ⟨(p.take (z + 1), (i : Int), ((i + 1 + k : Nat) : Int)), sh, n, by rw [cut_take, ← List.map_take]; rfl, hn, by simp; omega, hs, ?_⟩
        refine ite_b (fun c => ?_) (fun c => ?_)
        · have no := hleast i (i + 1 + k) (z + 1) (by omega) (by omega) (by omega) hz c
          have no : ¬ (z + 1 < p.length ∨ HT.lexLt [(i : Int), ((i + 1 + k : Nat) : Int)] [ri, rj] = true) := no
          refine ite_n (decide_eq_false (by omega)) ?_
          refine And.intro (Nat.le_of_ble_eq_true rfl) ?_
          refine fIx_tup (at_nat (j := 1) rfl) ?_
          refine fIx_tup (at_nat (j := 2) rfl) ?_
          refine And.intro (Nat.le_of_ble_eq_true rfl) ⟨[(i : Int), ((i + 1 + k : Nat) : Int)], [ri, rj], rfl, rfl, ?_⟩
          refine ite_n (show HT.lexLt [(i : Int), ((i + 1 + k : Nat) : Int)] [ri, rj] = false by
            cases w : HT.lexLt [(i : Int), ((i + 1 + k : Nat) : Int)] [ri, rj]
            · rfl
            · exact absurd (.inr w) no) ?_
          exact hK3 _ ⟨_, _, rfl⟩
        · exact hK3 _ ⟨_, _, rfl⟩
      · rintro _ ⟨s6, s7, rfl⟩
        exact hK2 _ ⟨_, _, _, rfl⟩
    · rintro _ ⟨s5, s6, s7, rfl⟩
      exact hK _ ⟨_, _, _, _, rfl⟩
  · rintro _ ⟨s4, s5, s6, s7, rfl⟩
    exact h
theorem rd_l_cut_right : ∀ ds A, fs_l_cut_right ds A → as_l_cut_right (ED A) (envOf 7 (ds.map .da)) := by
  rintro _ A ⟨rows, sh, n, rfl, hn, hs, hr, hpw, h⟩
  refine And.intro (Nat.le_of_ble_eq_true rfl) ?_
  refine for_i rowD (fun r δ => ∃ bf s4 s5, δ = [.da (.tup (rows.map rowD)), .da (.lst (sh.map rollD)), .da (.int (n : Int)), .da (.lst (bf.map D.int)), s4, s5, .un] ∧ (∀ x ∈ r, x.1.length ≤ 1000 ∧ x.1 ≠ [] ∧ right x sh n = true ∧ isLeast x sh n) ∧
    r.Pairwise (fun r s => HT.lexLt (r.1.map rank) (s.1.map rank) = true) ∧ ∀ x ∈ r, HT.lexLt bf (x.1.map rank) = true) rows ⟨[], .un, .un, rfl, hr, hpw, fun x hx => ?_⟩ ?_ ?_
  · obtain ⟨t, q, e⟩ := List.exists_cons_of_ne_nil (hr x hx).2.1
    rw [e]
    rfl
  · rintro x r _ ⟨bf, s4, s5, rfl, hx, hp, hb⟩ K hK
    obtain ⟨h1, h2, h3, h4⟩ := hx x (by simp)
    refine ⟨x, rfl, ?_⟩
    refine ⟨x, sh, n, rfl, hn, h1, hs, ?_⟩
    refine ite_n (show (!right x sh n) = false by rw [h3]; rfl) ?_
    refine fIx_tup (at_nat (j := 0) rfl) ?_
    refine lc_m termD x.1 (fun t => .int (rank t)) (by omega) ⟨trivial, trivial⟩ (fun t _ Y hY => ?_) ?_
    · refine fIx_tup (at_nat (j := 0) rfl) ?_
      refine And.intro (by left; omega) ?_
      refine fIx_tup (at_nat (j := 1) rfl) ?_
      have e : (2 * t.1 + if decide (t.2 < 0) = true then 1 else 0) = rank t := by
        unfold rank
        by_cases z : t.2 < 0
        · rw [if_pos z, if_pos (decide_eq_true z)]
        · rw [if_neg z, if_neg (by simpa using z)]
      have z := hY [.da (.tup (rows.map rowD)), .da (.lst (sh.map rollD)), .da (.int (n : Int)), .da (.lst (bf.map D.int)), .da (rowD x), s5, .da (termD t)] rfl
      rw [← e] at z
      exact z
    · refine ⟨x.1.map rank, bf, by rw [List.map_map]; rfl, rfl, ?_⟩
      refine ite_n (show (!HT.lexLt bf (x.1.map rank)) = false by rw [hb x (by simp)]; rfl) ?_
      refine ⟨x, sh, n, rfl, hn, h1, hs, h4, ?_⟩
      rw [List.pairwise_cons] at hp
      exact hK _ ⟨x.1.map rank, _, _, by rw [List.map_map]; rfl, fun y hy => hx y (by simp [hy]), hp.2, hp.1⟩
  · rintro _ ⟨bf, s4, s5, rfl, hx, hp, hb⟩
    exact h
theorem begun_core {A : List D → Env → Prop} {δ : Env} {t : Pre} {rows : List Rw} {r0 : Slot} (e : δ = [r0, .da (preD t), .un]) (hl : rows.length ≤ 1000) (h : A ((rows.filter fun r => begins t r.1).map rowD) δ) :
    lcB (agName 2) (aB (aOp fEq (aSl (aVar 1) aNoP (aPart (aCB fLen (aCons (aOp fIx (aVar 2) (aC (.int 0))) aNil)))) (aOp fIx (aVar 2) (aC (.int 0))))) (aVar 2) [2] (rows.map rowD) δ A := by
  subst e
  refine lc_f rowD rows (fun r => begins t r.1) (by omega) ⟨trivial, trivial⟩ (fun x hx Y Z hY hZ => ?_) h
  refine fIx_tup (at_nat (j := 0) rfl) ?_
  refine fIx_tup (at_nat (j := 0) rfl) ?_
  have es : D.tup (cutD (t.map termD) none (some ((x.1.map termD).length : Int))) = preD (t.take x.1.length) := by rw [cut_take, List.length_map, ← List.map_take]; rfl
  refine ⟨by rw [es]; exact cmpOk_pre _, cmpOk_pre x.1, ?_⟩
  rw [es, eqD_pre]
  exact ite_b (fun c => hY c _ rfl) fun c => hZ c _ rfl
theorem rd_l_begun : ∀ ds A, fs_l_begun ds A → as_l_begun (ED A) (envOf 3 (ds.map .da)) := by
  rintro _ A ⟨b, rows, t, rfl, hl, hr, ht, h⟩
  cases b
  · exact begun_core rfl hl h
  · exact begun_core rfl hl h
theorem rd_l_due : ∀ ds A, fs_l_due ds A → as_l_due (ED A) (envOf 6 (ds.map .da)) := by
  rintro _ A ⟨rows, sh, n, unfit, rfl, hn, hs, hl, hr, hu, h⟩
  refine for_i rowD (fun r δ => (∃ s4, δ = [.da (.lst (rows.map rowD)), .da (.lst (sh.map rollD)), .da (.int (n : Int)), .da (.lst (unfit.map preD)), s4, .un]) ∧ (∀ x ∈ r, x.1.length ≤ 1000) ∧ (rows.all fun r => right r sh n) = r.all fun r => right r sh n) rows ⟨⟨_, rfl⟩, hr, rfl⟩ ?_ ?_
  · rintro x r _ ⟨⟨s4, rfl⟩, hx, e⟩ K hK
    refine ⟨x, sh, n, rfl, hn, hx x (by simp), hs, ?_⟩
    rw [List.all_cons] at e
    refine ite_b (fun c => ?_) (fun c => ?_)
    · have c : right x sh n = false := by simpa using c
      unfold due at h
      rw [e, c] at h
      exact h
    · have c : right x sh n = true := by simpa using c
      rw [c, Bool.true_and] at e
      exact hK _ ⟨⟨_, rfl⟩, fun y hy => hx y (by simp [hy]), e⟩
  · rintro _ ⟨⟨s4, rfl⟩, _, e⟩
    have e : (rows.all fun r => right r sh n) = true := e
    have hj : due rows sh n unfit = unfit.all fun t => rows.any fun r => begins t r.1 := by unfold due; rw [e, Bool.true_and]
    refine for_i preD (fun r δ => (∃ s5, δ = [.da (.lst (rows.map rowD)), .da (.lst (sh.map rollD)), .da (.int (n : Int)), .da (.lst (unfit.map preD)), s4, s5]) ∧ (∀ t ∈ r, t.length ≤ 1000) ∧ due rows sh n unfit = r.all fun t => rows.any fun r => begins t r.1) unfit ⟨⟨_, rfl⟩, hu, hj⟩ ?_ ?_
    · rintro t r _ ⟨⟨s5, rfl⟩, hm, e2⟩ K hK
      rw [List.all_cons] at e2
      refine ⟨false, rows, t, rfl, hl, hr, hm t (by simp), ?_⟩
      refine And.intro (Nat.le_of_ble_eq_true rfl) ⟨cmpOk_rows false _, cmpOk_nil, ?_⟩
      rw [eqD_map_nil]
      refine ite_b (fun c => ?_) (fun c => ?_)
      · have c : (rows.filter fun r => begins t r.1) = [] := of_decide_eq_true c
        have c : (rows.any fun r => begins t r.1) = false := by
          rw [List.any_eq_false]
          intro x hx
          exact List.filter_eq_nil_iff.mp c x hx
        rw [e2, c] at h
        exact h
      · have c : ¬ (rows.filter fun r => begins t r.1) = [] := of_decide_eq_false c
        have c : (rows.any fun r => begins t r.1) = true := by
          cases z : rows.any fun r => begins t r.1
          · rw [List.any_eq_false] at z
            exact absurd (List.filter_eq_nil_iff.mpr z) c
          · rfl
        rw [c, Bool.true_and] at e2
        exact hK _ ⟨⟨_, rfl⟩, fun u hu => hm u (by simp [hu]), e2⟩
    · rintro _ ⟨⟨s5, rfl⟩, _, e2⟩
      rw [e2] at h
      exact h
theorem rd_l_last_pair : ∀ ds A, fs_l_last_pair ds A → as_l_last_pair (ED A) (envOf 6 (ds.map .da)) := by
  rintro _ A ⟨p, sh, n, rfl, hn, hp, hs, h⟩
  have hl := hs.1
  have hlen := len_rl sh
  refine And.intro (Nat.le_of_ble_eq_true rfl) ?_
  refine And.intro (by omega) (And.intro (by omega) ?_)
  refine for_r0 sh.length (by omega) (fun i δ => ∃ a b s4 s5, δ = [.da (preD p), .da (.lst (sh.map rollD)), .da (.int (n : Int)), .da (.tup [.int a, .int b]), s4, s5]) ⟨0, 0, _, _, rfl⟩ ?_ ?_
  · rintro i _ hi ⟨a, b, s4, s5, rfl⟩ K hK
    refine And.intro (by omega) ?_
    refine for_r (sh.length - (i + 1)) (by omega) (fun k δ => ∃ a b s5, δ = [.da (preD p), .da (.lst (sh.map rollD)), .da (.int (n : Int)), .da (.tup [.int a, .int b]), .da (.int (i : Int)), s5]) ⟨a, b, _, rfl⟩ ?_ ?_
    · rintro k _ hk ⟨a, b, s5, rfl⟩ K2 hK2
      refine And.intro (Nat.le_of_ble_eq_true rfl) ?_
      refine ⟨(p, (i : Int), (i : Int) + 1 + (k : Int)), sh, n, rfl, hn, hp, hs, ?_⟩
      refine ite_b (fun c => ?_) (fun c => ?_)
      · exact And.intro (Nat.le_of_ble_eq_true rfl) (hK2 _ ⟨_, _, _, rfl⟩)
      · exact hK2 _ ⟨_, _, _, rfl⟩
    · rintro _ ⟨a, b, s5, rfl⟩
      exact hK _ ⟨_, _, _, _, rfl⟩
  · rintro _ ⟨a, b, s4, s5, rfl⟩
    exact h a b
end Ab
set_option maxHeartbeats 1000000
namespace Ab
open PySem PySem.Spec PyProof.Rows L2
theorem rd_l_other_prefix : ∀ bs ds A l, fs_l_other_prefix bs ds A → as_l_other_prefix (EB l A) (envOf 7 (.mu l bs :: ds.map .da)) := by
  rintro bs _ A l ⟨C, p, k, n, hb, hC, rfl, hne, hp, h⟩
  have hpos : 0 < p.length := List.length_pos_iff.mpr hne
  have hlen : ((p.map termD).length : Int) = (p.length : Int) := by rw [List.length_map]
  have hlen' : (p.map termD).length = p.length := by rw [List.length_map]
  refine And.intro ⟨by omega, by omega, by decide⟩ ?_
  refine And.intro (Nat.le_of_ble_eq_true rfl) ?_
  refine ⟨rfl, C, 7, hb, by omega, rfl, by decide, by decide, fun d1 cs1 a0 a1 hb1 => ?_⟩
  refine fIx_ints [0, -1, 1, 2, 3, (10 : Int) ^ 18 - 1, (n : Int)] a0 a1 fun m _ => ?_
  refine And.intro (Nat.le_of_ble_eq_true rfl) ?_
  refine ⟨rfl, C + 1, 5, hb1, by omega, rfl, by decide, by decide, fun d2 cs2 b0 b1 hb2 => ?_⟩
  refine fIx_ints [1, -1, 0, 2, -2] b0 b1 fun dir _ => ?_
  refine ⟨rfl, C + 2, ((p.map termD).length : Int), hb2, by omega, rfl, by omega, by omega, fun pl cs3 c0 c1 hb3 => ?_⟩
  have hb4 := hb3.le (E := C + 3) (by omega)
  refine ite_b (fun c => ?_) (fun c => ?_)
  · refine And.intro (Nat.le_of_ble_eq_true rfl) (And.intro (Nat.le_of_ble_eq_true rfl) (And.intro ?_ ⟨rfl, ?_⟩))
    · show (p.map termD).length + 1 ≤ _
      omega
    · have z := h (p ++ [(m, dir)]) cs3 (by simp) hb4
      unfold preD at z
      rw [List.map_append] at z
      exact z
  refine ite_b (fun c => ?_) (fun c => ?_)
  · refine ⟨rfl, ?_⟩
    have z := h p.dropLast cs3 (by simp; omega) hb4
    unfold preD at z
    rw [List.map_dropLast, ← cut_init] at z
    exact z
  refine ite_b (fun c => ?_) (fun c => ?_)
  · have e1 : cutD (p.map termD) none (some (1 : Int)) = (p.map termD).take 1 := cut_take _ 1
    refine And.intro ?_ ⟨rfl, ?_⟩
    · rw [e1, List.length_take]
      omega
    · have z := h (p ++ p.take 1) cs3 (by simp; omega) hb4
      unfold preD at z
      rw [List.map_append, List.map_take, ← e1] at z
      exact z
  have ep : pl = ((pl.toNat : Nat) : Int) := by omega
  have hpl : pl.toNat < p.length := by omega
  have ep1 : pl + 1 = ((pl.toNat + 1 : Nat) : Int) := by push_cast; omega
  have e1 : cutD (p.map termD) none (some pl) = (p.take pl.toNat).map termD := by rw [List.map_take, ← cut_take, ← ep]
  have e2 : cutD (p.map termD) (some (pl + 1)) none = (p.drop (pl.toNat + 1)).map termD := by rw [List.map_drop, ← cut_drop, ← ep1]
  have eat : atI (p.map termD) pl = some (termD p[pl.toNat]) := (congrArg (atI (p.map termD)) ep).trans (at_map (at_nat (List.getElem?_eq_getElem hpl)))
  have fin : ∀ t : Term, A (.tup ((cutD (p.map termD) none (some pl) ++ [termD t]) ++ cutD (p.map termD) (some (pl + 1)) none)) cs3 := fun t => by
    have z := h (p.take pl.toNat ++ [t] ++ p.drop (pl.toNat + 1)) cs3 (by simp; omega) hb4
    unfold preD at z
    rw [List.map_append, List.map_append] at z
    rw [e1, e2]
    exact z
  have l1 : (cutD (p.map termD) none (some pl)).length + 1 ≤ 16777216 := by rw [e1, List.length_map, List.length_take]; omega
  have l2 : ∀ x : D, (cutD (p.map termD) none (some pl) ++ [x]).length + (cutD (p.map termD) (some (pl + 1)) none).length ≤ 16777216 := fun x => by
    rw [e1, e2]
    simp
    omega
  refine ite_b (fun c => ?_) (fun c => ?_)
  · refine fIx_tup eat ?_
    refine fIx_tup (at_nat (j := 0) rfl) ?_
    refine And.intro (Nat.le_of_ble_eq_true rfl) (And.intro (Nat.le_of_ble_eq_true rfl) (And.intro l1 (And.intro (l2 _) ⟨rfl, ?_⟩)))
    exact fin (p[pl.toNat].1, dir)
  · refine fIx_tup eat ?_
    refine fIx_tup (at_nat (j := 1) rfl) ?_
    refine And.intro (Nat.le_of_ble_eq_true rfl) (And.intro (Nat.le_of_ble_eq_true rfl) (And.intro l1 (And.intro (l2 _) ⟨rfl, ?_⟩)))
    exact fin (m, p[pl.toNat].2)
theorem rd_l_other_row : ∀ bs ds A l, fs_l_other_row bs ds A → as_l_other_row (EB l A) (envOf 12 (.mu l bs :: ds.map .da)) := by
  rintro bs _ A l ⟨C, ⟨p, ri, rj⟩, k, sh, n, hb, hC, rfl, hn, hs, hne, hp, h⟩
  have hl := hs.1
  have hp : p.length ≤ 400 := hp
  have hlen := len_rl sh
  refine ⟨rfl, C, ((sh.map rollD).length : Int) + 3, hb, by omega, rfl, by omega, by omega, fun d1 cs1 a0 a1 hb1 => ?_⟩
  refine ⟨rfl, C + 1, ((sh.map rollD).length : Int) + 3, hb1, by omega, rfl, by omega, by omega, fun d2 cs2 b0 b1 hb2 => ?_⟩
  have fin : ∀ a b : Int, A (.tup [preD p, .int a, .int b]) cs2 := fun a b => h (p, a, b) cs2 (by simp) (hb2.le (by omega))
  refine ite_b (fun c => ?_) (fun c => ?_)
  · refine ⟨rfl, C + 2, p, k, n, hb2, by omega, rfl, hne, by omega, fun q cs3 hq hb3 => ?_⟩
    exact And.intro (Nat.le_of_ble_eq_true rfl) ⟨rfl, h (q, ri, rj) cs3 hq (hb3.le (by omega))⟩
  refine ite_b (fun c => ?_) (fun c => ?_)
  · exact And.intro (Nat.le_of_ble_eq_true rfl) ⟨rfl, fin _ _⟩
  refine ite_b (fun c => ?_) (fun c => ?_)
  · exact And.intro (Nat.le_of_ble_eq_true rfl) ⟨rfl, fin _ _⟩
  refine ite_b (fun c => ?_) (fun c => ?_)
  · refine ⟨p, sh, n, rfl, hn, by omega, hs, fun a b => ?_⟩
    refine fIx_tup (at_nat (j := 0) rfl) ?_
    refine fIx_tup (at_nat (j := 1) rfl) ?_
    exact And.intro (Nat.le_of_ble_eq_true rfl) ⟨rfl, fin _ _⟩
  refine ite_b (fun c => ?_) (fun c => ?_)
  · exact And.intro (Nat.le_of_ble_eq_true rfl) ⟨rfl, fin _ _⟩
  refine ite_b (fun c => ?_) (fun c => ?_)
  · exact And.intro (Nat.le_of_ble_eq_true rfl) ⟨rfl, fin _ _⟩
  · exact And.intro (Nat.le_of_ble_eq_true rfl) ⟨rfl, fin _ _⟩
theorem rd_l_longer : ∀ ds A, fs_l_longer ds A → as_l_longer (ED A) (envOf 9 (ds.map .da)) := by
  rintro _ A ⟨rows, k, sh, n, rfl, hn, hs, hk, hl, hr, h⟩
  refine And.intro (Nat.le_of_ble_eq_true rfl) fun l => ?_
  refine And.intro (by omega) (And.intro (by omega) ?_)
  have hg : rows[k]? = some rows[k] := List.getElem?_eq_getElem hk
  have hrk := hr rows[k] (List.getElem_mem hk)
  refine for_r0 n (by omega) (fun i δ => ∃ fd s5 s6 s7 s8, δ = [.da (.lst (rows.map rowD)), .da (.int (k : Int)), .da (.lst (sh.map rollD)), .da (.int (n : Int)), .mu l (fd.map rowD), s5, s6, s7, s8] ∧ fd.length ≤ 2 * i ∧ ∀ r ∈ fd, r.1.length ≤ 401) ⟨[], .un, .un, .un, .un, rfl, by simp, (fun _ h => nomatch h)⟩ ?_ ?_
  · rintro i _ hi ⟨fd, s5, s6, s7, s8, rfl, hf, hf2⟩ K hK
    refine And.intro (Nat.le_of_ble_eq_true rfl) ?_
    refine for_i D.int (fun r δ => ∃ fd s6 s7 s8, δ = [.da (.lst (rows.map rowD)), .da (.int (k : Int)), .da (.lst (sh.map rollD)), .da (.int (n : Int)), .mu l (fd.map rowD), .da (.int (i : Int)), s6, s7, s8] ∧ fd.length + r.length ≤ 2 * i + 2 ∧ ∀ r ∈ fd, r.1.length ≤ 401) [1, -1] ⟨fd, s6, s7, s8, rfl, by simp; omega, hf2⟩ ?_ ?_
    · rintro d r _ ⟨fd, s6, s7, s8, rfl, hf, hf2⟩ K2 hK2
      rw [List.length_cons] at hf
      refine fIx_lst (at_map (at_nat hg)) ?_
      refine fIx_tup (at_nat (j := 0) rfl) ?_
      have hpl : (rows[k].1.map termD).length = rows[k].1.length := List.length_map ..
      refine And.intro (Nat.le_of_ble_eq_true rfl) (And.intro (Nat.le_of_ble_eq_true rfl) (And.intro ?_ ?_))
      · show (rows[k].1.map termD).length + 1 ≤ _
        omega
      · have eq : D.tup (rows[k].1.map termD ++ [D.tup [.int (i : Int), .int d]]) = preD (rows[k].1 ++ [((i : Int), d)]) := by unfold preD; rw [List.map_append]; rfl
        have hq : (rows[k].1 ++ [((i : Int), d)]).length ≤ 401 := by rw [List.length_append, List.length_singleton]; omega
        refine ⟨rows[k].1 ++ [((i : Int), d)], sh, n, by rw [← eq], hn, by omega, hs, fun a b => ?_⟩
        refine fIx_tup (at_nat (j := 0) rfl) ?_
        refine fIx_tup (at_nat (j := 1) rfl) ?_
        refine And.intro (Nat.le_of_ble_eq_true rfl) ?_
        refine ⟨(rows[k].1 ++ [((i : Int), d)], a, b), sh, n, by unfold rowD; rw [← eq], hn, by simp; omega, hs, ?_⟩
        refine ite_b (fun c => ?_) (fun c => ?_)
        · refine fIx_tup (at_nat (j := 0) rfl) ?_
          refine fIx_tup (at_nat (j := 1) rfl) ?_
          refine And.intro (Nat.le_of_ble_eq_true rfl) ⟨rfl, by rw [List.length_map]; omega, hK2 _ ⟨fd ++ [(rows[k].1 ++ [((i : Int), d)], a, b)], .da (.int d), .da (preD (rows[k].1 ++ [((i : Int), d)])), .da (.tup [.int a, .int b]), ?_, by simp; omega, ?_⟩⟩
          · rw [List.map_append, List.map_cons, List.map_nil]
            unfold rowD
            rw [← eq]
            rfl
          · intro x hx
            rcases List.mem_append.mp hx with q | q
            · exact hf2 x q
            · rw [List.mem_singleton.mp q]; exact hq
        · exact hK2 _ ⟨fd, .da (.int d), .da (.tup (rows[k].1.map termD ++ [D.tup [.int (i : Int), .int d]])), .da (.tup [.int a, .int b]), rfl, by omega, hf2⟩
    · rintro _ ⟨fd, s6, s7, s8, rfl, hf, hf2⟩
      exact hK _ ⟨fd, _, _, _, _, rfl, by simp at hf; omega, hf2⟩
  · rintro _ ⟨fd, s5, s6, s7, s8, rfl, hf, hf2⟩
    have e1 : cutD (rows.map rowD) none (some (k : Int)) = (rows.take k).map rowD := by rw [cut_take, List.map_take]
    have e2 : cutD (rows.map rowD) (some ((k : Int) + 1)) none = (rows.drop (k + 1)).map rowD := by rw [List.map_drop, ← cut_drop]; rfl
    refine And.intro ?_ (And.intro ?_ ?_)
    · rw [e1]
      simp
      omega
    · rw [e1, e2]
      simp
      omega
    · have z := h (rows.take k ++ fd ++ rows.drop (k + 1)) (by simp; omega) (fun r hr' => by
        rcases List.mem_append.mp hr' with q | q
        · rcases List.mem_append.mp q with q | q
          · have := hr r (List.mem_of_mem_take q); omega
          · exact hf2 r q
        · have := hr r (List.mem_of_mem_drop q); omega)
      rw [List.map_append, List.map_append, ← e1, ← e2] at z
      exact z
def tailC : AS := (aSeq (aSet 6 (aCallB fs_l_take 0 (aCons (aLenM 5) aNil)))
  (aSeq (aSet 7 (aOp fMod (aCB fInt (aCons (aOp fAdd (aOp fMul (aC (.int 2)) (aVar 2)) (aCallB fs_l_take 0 (aCons (aC (.int 17)) aNil))) aNil)) (aC (.int 17))))
  (aSeq (aIf (aB (aOp fLt (aVar 7) (aC (.int 11)))) (aSeq (aPut 5 (aVar 6) (aCallB fs_l_other_row 0 (aCons (aIxM 5 (aVar 6)) (aCons (aVar 7) (aCons (aVar 3) (aCons (aVar 4) aNil))))))
  (aRet (aFrz (aMove 5)))) aNext)
  (aFz 5 (aSeq (aIf (aB (aOp fEq (aVar 7) (aC (.int 11)))) (aRet (aOp fAdd (aSl (aVar 5) aNoP (aPart (aVar 6))) (aSl (aVar 5) (aPart (aOp fAdd (aVar 6) (aC (.int 1)))) aNoP))) aNext)
  (aSeq (aIf (aB (aOp fEq (aVar 7) (aC (.int 12)))) (aRet (aOp fAdd (aVar 5) (aFrz (aLst (aCons (aOp fIx (aVar 5) (aVar 6)) aNil))))) aNext)
  (aSeq (aIf (aB (aOp fEq (aVar 7) (aC (.int 13)))) (aRet (aUn fRev (aVar 5))) aNext)
  (aSeq (aIf (aB (aOp fEq (aVar 7) (aC (.int 14)))) (aRet (aFrz (aLst aNil))) aNext)
  (aSeq (aIf (aB (aOp fEq (aVar 7) (aC (.int 16)))) (aRet (aCall fs_l_longer (aCons (aVar 5) (aCons (aVar 6) (aCons (aVar 3) (aCons (aVar 4) aNil)))))) aNext)
  (aSeq (aSet 8 (aCallB fs_l_other_row 0 (aCons (aTup (aCons (aTup (aCons (aTup (aCons (aC (.int 0)) (aCons (aC (.int 1)) aNil))) aNil)) (aCons (aC (.int 0)) (aCons (aC (.int 1)) aNil)))) (aCons (aCallB fs_l_take 0 (aCons (aC (.int 11)) aNil)) (aCons (aVar 3) (aCons (aVar 4) aNil))))))
  (aRet (aOp fAdd (aOp fAdd (aSl (aVar 5) aNoP (aPart (aVar 6))) (aFrz (aLst (aCons (aVar 8) aNil)))) (aSl (aVar 5) (aPart (aVar 6)) aNoP)))))))))))))
theorem tailC_ok {bs : List D} {A : D → List D → Prop} {l l5 : Addr} {C : Nat} {cr : D} {k : Int} {rows : List Rw} {sh : Shelf} {n : Nat} (hb : bagOk C bs) (hC : C ≤ 10000) (hn : n ≤ 3) (hs : shOk n sh) (hk0 : 0 ≤ k) (hk : k ≤ 10) (hne : rows ≠ []) (hl : rows.length ≤ 401) (hr : ∀ r ∈ rows, r.1 ≠ [] ∧ r.1.length ≤ 300)
    (h : ∀ (rows2 : List Rw) cs, rows2.length ≤ 600 → (∀ r ∈ rows2, r.1.length ≤ 401) → bagOk (C + 20) cs → A (.lst (rows2.map rowD)) cs) :
    tailC (EB l A) [.mu l bs, .da cr, .da (.int k), .da (.lst (sh.map rollD)), .da (.int (n : Int)), .mu l5 (rows.map rowD), .un, .un, .un] := by
  have hlen : ((rows.map rowD).length : Int) = (rows.length : Int) := by rw [List.length_map]
  have hpos : 0 < rows.length := List.length_pos_iff.mpr hne
  have hr4 : ∀ r ∈ rows, r.1.length ≤ 401 := fun r q => by have := (hr r q).2; omega
  refine ⟨rfl, C, ((rows.map rowD).length : Int), hb, by omega, rfl, by omega, by omega, fun pl cs1 a0 a1 hb1 => ?_⟩
  refine And.intro (by left; omega) ?_
  refine ⟨rfl, C + 1, 17, hb1, by omega, rfl, by decide, by decide, fun d2 cs2 b0 b1 hb2 => ?_⟩
  refine And.intro (show (0 : Int) < 17 by decide) ?_
  have ep : pl = ((pl.toNat : Nat) : Int) := by omega
  have hpl : pl.toNat < rows.length := by omega
  have hg : atI (rows.map rowD) pl = some (rowD rows[pl.toNat]) := (congrArg (atI (rows.map rowD)) ep).trans (at_map (at_nat (List.getElem?_eq_getElem hpl)))
  have hix : ixN (rows.map rowD).length pl = some pl.toNat := by
    unfold ixN
    rw [if_pos (by omega), if_pos (by omega)]
  have hm : rows[pl.toNat] ∈ rows := List.getElem_mem hpl
  have ep1 : pl + 1 = ((pl.toNat + 1 : Nat) : Int) := by push_cast; omega
  have e1 : cutD (rows.map rowD) none (some pl) = (rows.take pl.toNat).map rowD := by rw [List.map_take, ← cut_take, ← ep]
  have e2 : cutD (rows.map rowD) (some (pl + 1)) none = (rows.drop (pl.toNat + 1)).map rowD := by rw [List.map_drop, ← cut_drop, ← ep1]
  have e3 : cutD (rows.map rowD) (some pl) none = (rows.drop pl.toNat).map rowD := by rw [List.map_drop, ← cut_drop, ← ep]
  refine ite_b (fun c => ?_) (fun c => ?_)
  · refine ⟨rfl, rowD rows[pl.toNat], hg, ?_⟩
    refine ⟨rfl, C + 2, rows[pl.toNat], _, sh, n, hb2, by omega, rfl, hn, hs, (hr _ hm).1, by have := (hr _ hm).2; omega, fun q cs3 hq hb3 => ?_⟩
    refine ⟨rfl, pl.toNat, hix, rfl, ?_⟩
    have z := h (rows.set pl.toNat q) cs3 (by simp; omega) (fun r hr' => by
      rcases List.mem_or_eq_of_mem_set hr' with w | w
      · exact hr4 r w
      · rw [w]; have := (hr _ hm).2; omega) (hb3.le (by omega))
    rw [List.map_set] at z
    exact z
  · have hb5 := hb2.le (E := C + 20) (by omega)
    refine ite_b (fun c => ?_) (fun c => ?_)
    · refine And.intro (by rw [e1, e2]; simp; omega) ⟨rfl, ?_⟩
      have z := h (rows.take pl.toNat ++ rows.drop (pl.toNat + 1)) cs2 (by simp; omega) (fun r hr' => by
        rcases List.mem_append.mp hr' with w | w
        · exact hr4 r (List.mem_of_mem_take w)
        · exact hr4 r (List.mem_of_mem_drop w)) hb5
      rw [List.map_append, ← e1, ← e2] at z
      exact z
    refine ite_b (fun c => ?_) (fun c => ?_)
    · refine fIx_lst hg ?_
      refine And.intro (Nat.le_of_ble_eq_true rfl) (And.intro (by simp; omega) ⟨rfl, ?_⟩)
      have z := h (rows ++ [rows[pl.toNat]]) cs2 (by simp; omega) (fun r hr' => by
        rcases List.mem_append.mp hr' with w | w
        · exact hr4 r w
        · rw [List.mem_singleton.mp w]; exact hr4 _ hm) hb5
      rw [List.map_append] at z
      exact z
    refine ite_b (fun c => ?_) (fun c => ?_)
    · have z := h rows.reverse cs2 (by simp; omega) (fun r hr' => hr4 r (by simpa using hr')) hb5
      rw [List.map_reverse] at z
      exact ⟨rfl, z⟩
    refine ite_b (fun c => ?_) (fun c => ?_)
    · exact And.intro (Nat.le_of_ble_eq_true rfl) ⟨rfl, h [] cs2 (by simp) (fun _ h => nomatch h) hb5⟩
    refine ite_b (fun c => ?_) (fun c => ?_)
    · refine ⟨rows, pl.toNat, sh, n, by rw [← ep], hn, hs, hpl, by omega, fun r q => by have := (hr r q).2; omega, fun rows2 h1 h2 => ⟨rfl, h rows2 cs2 h1 h2 hb5⟩⟩
    · refine And.intro (Nat.le_of_ble_eq_true rfl) (And.intro (Nat.le_of_ble_eq_true rfl) (And.intro (Nat.le_of_ble_eq_true rfl) ?_))
      refine ⟨rfl, C + 2, 11, hb2, by omega, rfl, by decide, by decide, fun d3 cs3 c0 c1 hb3 => ?_⟩
      refine ⟨rfl, C + 3, ([(0, 1)], 0, 1), d3, sh, n, hb3, by omega, rfl, hn, hs, by simp, by simp, fun q cs4 hq hb4 => ?_⟩
      refine And.intro (Nat.le_of_ble_eq_true rfl) (And.intro ?_ (And.intro ?_ ⟨rfl, ?_⟩))
      · rw [e1]
        show (List.map rowD (rows.take pl.toNat)).length + 1 ≤ _
        simp
        omega
      · rw [e1, e3]
        simp
        omega
      · have z := h (rows.take pl.toNat ++ [q] ++ rows.drop pl.toNat) cs4 (by simp; omega) (fun r hr' => by
          rcases List.mem_append.mp hr' with w | w
          · rcases List.mem_append.mp w with w | w
            · exact hr4 r (List.mem_of_mem_take w)
            · rw [List.mem_singleton.mp w]
              have : q.1.length ≤ 2 := hq
              omega
          · exact hr4 r (List.mem_of_mem_drop w)) (hb4.le (by omega))
        rw [List.map_append, List.map_append, ← e1, ← e3] at z
        exact z
theorem rd_l_changed : ∀ bs ds A l, fs_l_changed bs ds A → as_l_changed (EB l A) (envOf 9 (.mu l bs :: ds.map .da)) := by
  rintro bs _ A l ⟨C, rows0, k, sh, n, hb, hC, rfl, hn, hs, hk, hl, hr, h⟩
  intro l5
  refine And.intro (Nat.le_of_ble_eq_true rfl) ⟨rfl, cmpOk_rows false rows0, cmpOk_nil, ?_⟩
  rw [eqD_map_nil]
  refine ite_b (fun c => ?_) (fun c => ?_)
  · have c : rows0 = [] := of_decide_eq_true c
    subst c
    refine And.intro (Nat.le_of_ble_eq_true rfl) (And.intro (Nat.le_of_ble_eq_true rfl) (And.intro (Nat.le_of_ble_eq_true rfl) ⟨rfl, Nat.le_of_ble_eq_true rfl, ?_⟩))
    exact tailC_ok (rows := [([(0, 1)], 0, 1)]) (cr := .tup []) hb hC hn hs (by omega) (by omega) (by simp) (by simp) (fun r hr => by rw [List.mem_singleton.mp hr]; simp) h
  · have c : rows0 ≠ [] := of_decide_eq_false c
    exact tailC_ok (rows := rows0) (cr := .tup (rows0.map rowD)) hb hC hn hs (by omega) (by omega) c (by omega) hr h
end Ab
set_option maxHeartbeats 1000000
namespace Ab
open PySem PySem.Spec PyProof.Rows L2
/-! the law in plain lists -/
def dirs (t : Pre) : Prop := ∀ u ∈ t, u.2 = 1 ∨ u.2 = -1
theorem mem_pairs {n i j : Nat} : (i, j) ∈ pairsL n ↔ i < j ∧ j < n := by
  unfold pairsL
  rw [List.mem_flatMap]
  constructor
  · rintro ⟨a, ha, h⟩
    rw [List.mem_map] at h
    obtain ⟨k, hk, e⟩ := h
    simp at ha hk e
    omega
  · rintro ⟨h1, h2⟩
    refine ⟨i, by simp; omega, List.mem_map.mpr ⟨j - (i + 1), by simp; omega, ?_⟩⟩
    rw [show i + 1 + (j - (i + 1)) = j by omega]
theorem side_trans : ∀ (t : Pre) (x y z : Roll), dirs t → side t x y ≤ 0 → side t y z ≤ 0 → side t x z ≤ 0
  | [], _, _, _, _, _, _ => by simp [side]
  | (m, d) :: r, x, y, z, h, h1, h2 => by
    have hd := h (m, d) (by simp)
    simp only at hd
    have ih := side_trans r x y z fun u hu => h u (by simp [hu])
    rw [side_cons] at h1 h2 ⊢
    generalize vl x m = a at *
    generalize vl y m = b at *
    generalize vl z m = c at *
    rcases hd with rfl | rfl
    · by_cases e1 : a = b
      · subst e1
        by_cases e2 : a = c
        · subst e2; simp at h1 h2 ⊢; exact ih h1 h2
        · simpa [e2] using h2
      · by_cases e2 : b = c
        · subst e2; simpa [e1] using h1
        · simp [e1] at h1
          simp [e2] at h2
          by_cases l1 : b < a
          · simp [l1] at h1
          · by_cases l2 : c < b
            · simp [l2] at h2
            · have : a ≠ c := by omega
              rw [if_pos this, if_neg (by omega)]
              decide
    · by_cases e1 : a = b
      · subst e1
        by_cases e2 : a = c
        · subst e2; simp at h1 h2 ⊢; exact ih h1 h2
        · simpa [e2] using h2
      · by_cases e2 : b = c
        · subst e2; simpa [e1] using h1
        · simp [e1] at h1
          simp [e2] at h2
          by_cases l1 : b < a
          · by_cases l2 : c < b
            · have : a ≠ c := by omega
              rw [if_pos this, if_pos (by omega)]
              decide
            · simp [l2] at h2
          · simp [l1] at h1
theorem uns_iff (t : Pre) (sh : Shelf) : uns t sh = true ↔ ∃ i j, i < j ∧ j < sh.length ∧ 0 < side t (rl sh i) (rl sh j) := by
  unfold uns
  rw [List.any_eq_true]
  constructor
  · rintro ⟨⟨i, j⟩, hm, h⟩
    obtain ⟨h1, h2⟩ := mem_pairs.mp hm
    exact ⟨i, j, h1, h2, of_decide_eq_true h⟩
  · rintro ⟨i, j, h1, h2, h⟩
    exact ⟨(i, j), mem_pairs.mpr ⟨h1, h2⟩, decide_eq_true h⟩
theorem srt_iff {t : Pre} (h : dirs t) (sh : Shelf) : srt t sh = true ↔ ∀ i, i + 1 < sh.length → side t (rl sh i) (rl sh (i + 1)) ≤ 0 := by
  unfold srt
  rw [List.all_eq_true]
  constructor
  · intro g i hi
    have z := of_decide_eq_true (g i (by simp; omega))
    rw [cmp_side _ _ _ h] at z
    have w := side_val t (rl sh i) (rl sh (i + 1)) h
    omega
  · intro g i hi
    have z := g i (by simp at hi; omega)
    refine decide_eq_true ?_
    rw [cmp_side _ _ _ h]
    omega
theorem srt_uns {t : Pre} (h : dirs t) (sh : Shelf) : srt t sh = !uns t sh := by
  cases e : uns t sh
  · rw [Bool.not_false]
    refine (srt_iff h sh).mpr fun i hi => ?_
    cases Int.lt_or_le 0 (side t (rl sh i) (rl sh (i + 1))) with
    | inl l =>
      have := (uns_iff t sh).mpr ⟨i, i + 1, by omega, hi, l⟩
      rw [e] at this
      cases this
    | inr l => exact l
  · rw [Bool.not_true]
    obtain ⟨i, j, h1, h2, h3⟩ := (uns_iff t sh).mp e
    cases z : srt t sh
    · rfl
    · have g := (srt_iff h sh).mp z
      have key : ∀ k, i + 1 + k < sh.length → side t (rl sh i) (rl sh (i + 1 + k)) ≤ 0 := by
        intro k
        induction k with
        | zero => exact fun hk => g i hk
        | succ k ih => exact fun hk => side_trans t _ _ _ h (ih (by omega)) (g (i + 1 + k) hk)
      have := key (j - (i + 1)) (by omega)
      rw [show i + 1 + (j - (i + 1)) = j by omega] at this
      omega
theorem full_dirs {n : Nat} (hn : n ≤ 3) {t : Pre} (h : t ∈ fullRows n) : dirs t := fun u hu => ((full_ok hn h).2.1 u hu).2.2
theorem judge_due {n : Nat} (hn : n ≤ 3) (sh : Shelf) (rows : List Rw) : judge sh n rows = due rows sh n ((fullRows n).filter fun t => uns t sh) := by
  unfold judge due
  congr 1
  rw [List.all_filter]
  have key : ∀ ts : List Pre, (∀ t ∈ ts, dirs t) → (ts.all fun t => srt t sh || begAny t (rows.map (·.1))) = ts.all fun a => !uns a sh || rows.any fun r => begins a r.1 := by
    intro ts
    induction ts with
    | nil => exact fun _ => rfl
    | cons t r ih =>
      intro h
      rw [List.all_cons, List.all_cons, ih fun u hu => h u (by simp [hu]), srt_uns (h t (by simp))]
      unfold begAny
      rw [List.any_map]
      rfl
  exact key _ fun t ht => full_dirs hn ht
theorem leastP_none {p : Pre} {sh : Shelf} : leastP p sh = none ↔ ∀ i j, i < j → j < sh.length → shut p (rl sh i) (rl sh j) = false := by
  unfold leastP
  rw [List.find?_eq_none]
  constructor
  · intro h i j h1 h2
    simpa using h (i, j) (mem_pairs.mpr ⟨h1, h2⟩)
  · rintro h ⟨i, j⟩ hm
    obtain ⟨h1, h2⟩ := mem_pairs.mp hm
    simpa using h i j h1 h2
theorem take_ne {q : Pre} {k : Nat} (h : k < q.length) : q.take (k + 1) ≠ [] := by
  intro z
  have := congrArg List.length z
  rw [List.length_take, List.length_nil] at this
  omega
theorem shut_one (u : Term) (x y : Roll) : shut [u] x y = decide (cmp [u] x y = 1) := by
  rw [shut_split]
  rfl
theorem lastL_cons {α : Type} (u : α) {q : List α} (h : q ≠ []) : lastL (u :: q) = lastL q := by
  unfold lastL
  obtain ⟨a, r, rfl⟩ := List.exists_cons_of_ne_nil h
  simp
theorem shut_cons (u : Term) {q : Pre} (h : q ≠ []) (x y : Roll) : shut (u :: q) x y = (decide (vl x u.1 = vl y u.1) && shut q x y) := by
  rw [shut_split, shut_split, lastL_cons u h]
  obtain ⟨a, r, rfl⟩ := List.exists_cons_of_ne_nil h
  rw [List.dropLast_cons_of_ne_nil (by simp), List.all_cons, Bool.and_assoc]
theorem side_shut : ∀ (t : Pre) (x y : Roll), dirs t → (0 < side t x y ↔ ∃ k, k < t.length ∧ shut (t.take (k + 1)) x y = true)
  | [], _, _, _ => by simp [side]
  | (m, d) :: r, x, y, h => by
    have hd := h (m, d) (by simp)
    simp only at hd
    have ih := side_shut r x y fun u hu => h u (by simp [hu])
    have c1 : cmp [(m, d)] x y = side [(m, d)] x y := cmp_side _ _ _ fun u hu => by rw [List.mem_singleton.mp hu]; exact hd
    rw [side_cons]
    have s1 : side [(m, d)] x y = if vl x m ≠ vl y m then (if vl y m < vl x m then d else -d) else 0 := rfl
    by_cases e : vl x m = vl y m
    · rw [if_neg (fun z => z e), ih]
      rw [if_neg (fun z => z e)] at s1
      constructor
      · rintro ⟨k, hk, hs⟩
        refine ⟨k + 1, by simpa using hk, ?_⟩
        rw [List.take_succ_cons, shut_cons _ (take_ne (by first | exact hk | omega)), hs, decide_eq_true e]
        rfl
      · rintro ⟨k, hk, hs⟩
        cases k with
        | zero =>
          rw [List.take_succ_cons, List.take_zero, shut_one, c1, s1] at hs
          simp at hs
        | succ k =>
          have hk : k < r.length := by simpa using hk
          rw [List.take_succ_cons, shut_cons _ (take_ne hk), Bool.and_eq_true] at hs
          exact ⟨k, hk, hs.2⟩
    · rw [if_pos e]
      rw [if_pos e] at s1
      constructor
      · intro z
        refine ⟨0, by simp, ?_⟩
        rw [List.take_succ_cons, List.take_zero, shut_one, c1, s1]
        refine decide_eq_true ?_
        split at z <;> split <;> omega
      · rintro ⟨k, hk, hs⟩
        cases k with
        | zero =>
          rw [List.take_succ_cons, List.take_zero, shut_one, c1, s1] at hs
          have := of_decide_eq_true hs
          omega
        | succ k =>
          have hk : k < r.length := by simpa using hk
          rw [List.take_succ_cons, shut_cons _ (take_ne hk), Bool.and_eq_true] at hs
          exact absurd (of_decide_eq_true hs.1) e
theorem uns_least {t : Pre} (h : dirs t) (sh : Shelf) : uns t sh = (List.range t.length).any fun k => (leastP (t.take (k + 1)) sh).isSome := by
  have e : uns t sh = true ↔ ((List.range t.length).any fun k => (leastP (t.take (k + 1)) sh).isSome) = true := by
    rw [uns_iff, List.any_eq_true]
    constructor
    · rintro ⟨i, j, h1, h2, h3⟩
      obtain ⟨k, hk, hs⟩ := (side_shut t _ _ h).mp h3
      refine ⟨k, by simpa using hk, ?_⟩
      cases z : leastP (t.take (k + 1)) sh with
      | none =>
        have := leastP_none.mp z i j h1 h2
        rw [hs] at this
        cases this
      | some q => rfl
    · rintro ⟨k, hk, hs⟩
      obtain ⟨⟨i, j⟩, hq⟩ := Option.isSome_iff_exists.mp hs
      unfold leastP at hq
      have hm := mem_pairs.mp (List.mem_of_find?_eq_some hq)
      have hp := List.find?_some hq
      exact ⟨i, j, hm.1, hm.2, (side_shut t _ _ h).mpr ⟨k, by simpa using hk, hp⟩⟩
  cases z : uns t sh
  · cases w : (List.range t.length).any fun k => (leastP (t.take (k + 1)) sh).isSome
    · rfl
    · have := e.mpr w
      rw [z] at this
      cases this
  · exact (e.mp z).symm
/-! ### the rows -/
def grow (sh : Shelf) (n f : Nat) (p : Pre) (t : Term) : List Rw := match leastP (p ++ [t]) sh with
  | none => rowsB sh n f (p ++ [t])
  | some (i, j) => [(p ++ [t], (i : Int), (j : Int))]
theorem rowsB_succ (sh : Shelf) (n f : Nat) (p : Pre) : rowsB sh n (f + 1) p = (behind p n).flatMap (grow sh n f p) := rfl
theorem rows_start (sh : Shelf) (n : Nat) : ∀ (f : Nat) (p : Pre), ∀ r ∈ rowsB sh n f p, ∃ u q, r.1 = p ++ u :: q ∧ u ∈ behind p n
  | 0, _, _, h => nomatch h
  | f + 1, p, r, h => by
    rw [rowsB_succ, List.mem_flatMap] at h
    obtain ⟨t, ht, h⟩ := h
    unfold grow at h
    cases e : leastP (p ++ [t]) sh with
    | none =>
      rw [e] at h
      obtain ⟨u, q, e2, _⟩ := rows_start sh n f (p ++ [t]) r h
      exact ⟨t, u :: q, by rw [e2]; simp, ht⟩
    | some q =>
      rw [e] at h
      rw [List.mem_singleton.mp h]
      exact ⟨t, [], rfl, ht⟩
theorem grow_start {sh : Shelf} {n f : Nat} {p : Pre} {t : Term} {r : Rw} (h : r ∈ grow sh n f p t) : ∃ q, r.1 = p ++ t :: q := by
  unfold grow at h
  cases e : leastP (p ++ [t]) sh with
  | none =>
    rw [e] at h
    obtain ⟨u, q, e2, _⟩ := rows_start sh n f (p ++ [t]) r h
    exact ⟨u :: q, by rw [e2]; simp⟩
  | some q =>
    rw [e] at h
    rw [List.mem_singleton.mp h]
    exact ⟨[], rfl⟩
theorem frees_sorted (p : Pre) (n : Nat) : (frees p n).Pairwise (· < ·) := List.Pairwise.filter _ List.pairwise_lt_range
theorem behind_sorted (p : Pre) (n : Nat) : (behind p n).Pairwise fun t u => rank t < rank u := by
  unfold behind
  rw [List.pairwise_flatMap]
  refine ⟨fun m _ => ?_, (frees_sorted p n).imp fun {a b} h x hx y hy => ?_⟩
  · simp [rank]
    omega
  · simp only [List.mem_cons, List.not_mem_nil, or_false] at hx hy
    rcases hx with rfl | rfl <;> rcases hy with rfl | rfl <;> simp [rank] <;> omega
theorem begins_iff {t p : Pre} : begins t p = true ↔ t.take p.length = p := decide_eq_true_iff
theorem cnt_other {α : Type} {P : α → Bool} {β : Type} {g : β → List α} : ∀ {xs : List β}, (∀ x ∈ xs, ∀ r ∈ g x, P r = false) → (xs.flatMap g).filter P = []
  | [], _ => rfl
  | x :: r, h => by
    rw [List.flatMap_cons, List.filter_append, cnt_other fun y hy => h y (by simp [hy]), List.append_nil]
    rw [List.filter_eq_nil_iff]
    intro a ha
    rw [h x (by simp) a ha]
    decide
theorem cnt (sh : Shelf) {n : Nat} {t : Pre} (ok : okRow n t) : ∀ (f : Nat) (p : Pre), t.take p.length = p → p.length + f = n →
    ((rowsB sh n f p).filter fun r => begins t r.1).length = if ((List.range f).any fun k => (leastP (t.take (p.length + k + 1)) sh).isSome) = true then 1 else 0
  | 0, p, _, _ => rfl
  | f + 1, p, hp, hl => by
    have hlen : p.length < t.length := by rw [ok.1]; omega
    have hu : t = p ++ t[p.length] :: t.drop (p.length + 1) := by
      have h1 : t = t.take p.length ++ t.drop p.length := (List.take_append_drop _ _).symm
      rw [List.drop_eq_getElem_cons hlen, hp] at h1
      exact h1
    generalize hue : t[p.length] = u at hu
    have hum : u ∈ behind p n := by
      have hmem : u ∈ t := by rw [← hue]; exact List.getElem_mem hlen
      obtain ⟨b1, b2, b3⟩ := ok.2.1 u hmem
      refine mem_behind.mpr ⟨b1, b2, b3, fun z => ?_⟩
      have nd := ok.2.2
      rw [hu, List.map_append, List.map_cons, List.nodup_append] at nd
      exact nd.2.2 _ z _ (by simp) rfl
    obtain ⟨l1, l2, e⟩ := List.append_of_mem hum
    have srt := behind_sorted p n
    rw [e, List.pairwise_append, List.pairwise_cons] at srt
    have n1 : ∀ v ∈ l1, v ≠ u := fun v hv z => by
      have := srt.2.2 v hv u (by simp)
      rw [z] at this
      omega
    have n2 : ∀ v ∈ l2, v ≠ u := fun v hv z => by
      have := srt.2.1.1 v hv
      rw [z] at this
      omega
    have off : ∀ v, v ≠ u → ∀ r ∈ grow sh n f p v, begins t r.1 = false := by
      intro v hv r hr
      obtain ⟨q, eq⟩ := grow_start hr
      cases z : begins t r.1
      · rfl
      · have z := begins_iff.mp z
        rw [eq] at z
        have z2 := congrArg (fun l => l[p.length]?) z
        have z2 : (t.take (p ++ v :: q).length)[p.length]? = (p ++ v :: q)[p.length]? := z2
        rw [List.getElem?_take_of_lt (by simp), hu, List.getElem?_append_right (Nat.le_refl _), List.getElem?_append_right (Nat.le_refl _), Nat.sub_self] at z2
        exact absurd (Option.some.inj z2).symm hv
    rw [rowsB_succ, e, List.flatMap_append, List.flatMap_cons, List.filter_append, List.filter_append, cnt_other (fun v hv => off v (n1 v hv)), cnt_other (fun v hv => off v (n2 v hv)), List.nil_append, List.append_nil]
    have hp1 : t.take (p ++ [u]).length = p ++ [u] := by
      rw [List.length_append, List.length_singleton, List.take_add_one, hp, List.getElem?_eq_getElem hlen, hue]
      rfl
    have hp2 : t.take (p.length + 0 + 1) = p ++ [u] := by rw [← hp1]; simp
    rw [List.range_succ_eq_map, List.any_cons, List.any_map, hp2]
    unfold grow
    cases el : leastP (p ++ [u]) sh with
    | none =>
      have ih := cnt sh ok f (p ++ [u]) hp1 (by simp; omega)
      rw [Option.isSome_none, Bool.false_or]
      show ((rowsB sh n f (p ++ [u])).filter fun r => begins t r.1).length = _
      rw [ih]
      congr 3
      funext k
      simp only [Function.comp, List.length_append, List.length_singleton]
      congr 3
      omega
    | some q =>
      obtain ⟨i, j⟩ := q
      rw [Option.isSome_some, Bool.true_or, if_pos rfl]
      show ([((p ++ [u], (i : Int), (j : Int)) : Rw)].filter fun r => begins t r.1).length = 1
      rw [List.filter_cons, if_pos (begins_iff.mpr hp1)]
      rfl
theorem cnt_full (sh : Shelf) {n : Nat} (hn : n ≤ 3) {t : Pre} (ht : t ∈ fullRows n) : ((rowsB sh n n []).filter fun r => begins t r.1).length = if uns t sh = true then 1 else 0 := by
  have ok := full_ok hn ht
  rw [cnt sh ok n [] rfl (by simp), uns_least (full_dirs hn ht), ok.1]
  simp
theorem lexLt_app (p : List Int) (a b : Int) (q r : List Int) (h : a < b) : HT.lexLt (p ++ a :: q) (p ++ b :: r) = true := by
  induction p with
  | nil =>
    show HT.lexLt (a :: q) (b :: r) = true
    rw [HT.lexLt_cons, if_neg (by omega)]
    exact decide_eq_true h
  | cons x p ih =>
    show HT.lexLt (x :: (p ++ a :: q)) (x :: (p ++ b :: r)) = true
    rw [HT.lexLt_cons, if_pos rfl]
    exact ih
theorem rows_sorted (sh : Shelf) (n : Nat) : ∀ (f : Nat) (p : Pre), (rowsB sh n f p).Pairwise fun r s => HT.lexLt (r.1.map rank) (s.1.map rank) = true
  | 0, _ => List.Pairwise.nil
  | f + 1, p => by
    rw [rowsB_succ, List.pairwise_flatMap]
    refine ⟨fun t _ => ?_, (behind_sorted p n).imp fun {a b} h x hx y hy => ?_⟩
    · unfold grow
      cases leastP (p ++ [t]) sh with
      | none => exact rows_sorted sh n f (p ++ [t])
      | some q => exact List.pairwise_singleton ..
    · obtain ⟨q, e1⟩ := grow_start hx
      obtain ⟨r, e2⟩ := grow_start hy
      rw [e1, e2, List.map_append, List.map_append, List.map_cons, List.map_cons]
      exact lexLt_app _ _ _ _ _ h
structure RowOk (sh : Shelf) (n : Nat) (m : Nat) (r : Rw) : Prop where
  pre : isPre r.1 n = true
  len : r.1.length ≤ m
  lst : ∃ i j : Nat, r.2.1 = (i : Int) ∧ r.2.2 = (j : Int) ∧ leastP r.1 sh = some (i, j)
  bef : ∀ k, k + 1 < r.1.length → leastP (r.1.take (k + 1)) sh = none
theorem isPre_add {p : Pre} {n : Nat} {t : Term} (h : p = [] ∨ isPre p n = true) (ht : t ∈ behind p n) : isPre (p ++ [t]) n = true := by
  unfold isPre
  rw [Bool.and_eq_true, List.all_eq_true]
  refine ⟨fun i hi => decide_eq_true ?_, decide_eq_true (by simp)⟩
  have hi : i < p.length + 1 := by simpa using hi
  rw [List.getD_eq_getElem?_getD]
  by_cases e : i < p.length
  · rcases h with h | h
    · rw [h] at e; cases e
    · have z := isPre_at h e
      rw [List.getD_eq_getElem?_getD] at z
      rw [List.getElem?_append_left e, List.take_append_of_le_length (by omega)]
      exact z
  · have ei : i = p.length := by omega
    subst ei
    simpa using ht
theorem rows_ok (sh : Shelf) (n : Nat) : ∀ (f : Nat) (p : Pre), (p = [] ∨ isPre p n = true) → (∀ k, k < p.length → leastP (p.take (k + 1)) sh = none) → ∀ r ∈ rowsB sh n f p, RowOk sh n (p.length + f) r
  | 0, _, _, _, _, h => nomatch h
  | f + 1, p, hp, hb, r, h => by
    rw [rowsB_succ, List.mem_flatMap] at h
    obtain ⟨t, ht, h⟩ := h
    have hp1 := isPre_add hp ht
    unfold grow at h
    cases e : leastP (p ++ [t]) sh with
    | none =>
      rw [e] at h
      have q := rows_ok sh n f (p ++ [t]) (.inr hp1) (fun k hk => by
        have hk : k < p.length + 1 := by simpa using hk
        by_cases e2 : k < p.length
        · rw [List.take_append_of_le_length (by omega)]; exact hb k e2
        · have : k = p.length := by omega
          subst this
          rw [List.take_of_length_le (by simp)]
          exact e) r h
      refine ⟨q.pre, ?_, q.lst, q.bef⟩
      have := q.len
      simp at this
      omega
    | some q =>
      rw [e] at h
      obtain ⟨i, j⟩ := q
      have h : r = (p ++ [t], (i : Int), (j : Int)) := List.mem_singleton.mp h
      subst h
      refine ⟨hp1, by show (p ++ [t]).length ≤ _; rw [List.length_append, List.length_singleton]; omega, ⟨i, j, rfl, rfl, e⟩, fun k hk => ?_⟩
      have hk : k + 1 < p.length + 1 := by simpa using hk
      show leastP ((p ++ [t]).take (k + 1)) sh = none
      rw [List.take_append_of_le_length (by omega)]
      exact hb k (by omega)
theorem pairs_sorted (n : Nat) : (pairsL n).Pairwise fun q r => q.1 < r.1 ∨ (q.1 = r.1 ∧ q.2 < r.2) := by
  unfold pairsL
  rw [List.pairwise_flatMap]
  refine ⟨fun i _ => ?_, List.pairwise_lt_range.imp fun {a b} h x hx y hy => ?_⟩
  · rw [List.pairwise_map]
    exact List.pairwise_lt_range.imp fun {a b} h => .inr ⟨rfl, by omega⟩
  · rw [List.mem_map] at hx hy
    obtain ⟨k, _, rfl⟩ := hx
    obtain ⟨l, _, rfl⟩ := hy
    exact .inl h
theorem lexLt2 (a b c d : Int) : HT.lexLt [a, b] [c, d] = true ↔ a < c ∨ (a = c ∧ b < d) := by
  rw [HT.lexLt_cons]
  by_cases e : a = c
  · rw [if_pos e, HT.lexLt_cons]
    by_cases e2 : b = d
    · rw [if_pos e2, HT.lexLt_nil_nil]
      simp
      omega
    · rw [if_neg e2]
      simp
      omega
  · rw [if_neg e]
    simp
    omega
theorem leastP_min {p : Pre} {sh : Shelf} {i j : Nat} (h : leastP p sh = some (i, j)) : (i < j ∧ j < sh.length) ∧ shut p (rl sh i) (rl sh j) = true ∧
    ∀ a b, a < b → b < sh.length → shut p (rl sh a) (rl sh b) = true → ¬ (a < i ∨ (a = i ∧ b < j)) := by
  unfold leastP at h
  have hsh : (fun q : Nat × Nat => shut p (rl sh q.1) (rl sh q.2)) (i, j) = true := List.find?_some (p := fun q : Nat × Nat => shut p (rl sh q.1) (rl sh q.2)) h
  refine ⟨mem_pairs.mp (List.mem_of_find?_eq_some h), hsh, fun a b h1 h2 h3 => ?_⟩
  obtain ⟨_, xs, ys, e, hx⟩ := List.find?_eq_some_iff_append.mp h
  have hm : (a, b) ∈ pairsL sh.length := mem_pairs.mpr ⟨h1, h2⟩
  have ps := pairs_sorted sh.length
  rw [e] at hm ps
  rw [List.pairwise_append, List.pairwise_cons] at ps
  rcases List.mem_append.mp hm with q | q
  · have := hx _ q
    rw [h3] at this
    cases this
  · rcases List.mem_cons.mp q with q | q
    · injection q with q1 q2
      omega
    · have := ps.2.1.1 _ q
      simp only at this
      omega
theorem RowOk.right {sh : Shelf} {n m : Nat} {r : Rw} (h : RowOk sh n m r) : right r sh n = true := by
  obtain ⟨i, j, e1, e2, e3⟩ := h.lst
  have z := leastP_min e3
  unfold Ab.right
  rw [h.pre, e1, e2, decide_eq_true (by omega), decide_eq_true (by omega), decide_eq_true (by omega), Int.toNat_natCast, Int.toNat_natCast, z.2.1]
  rfl
theorem RowOk.least {sh : Shelf} {n m : Nat} {r : Rw} (h : RowOk sh n m r) : isLeast r sh n := by
  intro a b s h1 h2 h3 h4 hr
  obtain ⟨i, j, e1, e2, e3⟩ := h.lst
  unfold Ab.right at hr
  rw [Bool.and_eq_true, Int.toNat_natCast, Int.toNat_natCast] at hr
  have hs := hr.2
  rintro (z | z)
  · have w := h.bef (s - 1) (by omega)
    rw [show s - 1 + 1 = s by omega] at w
    have := leastP_none.mp w a b h1 h2
    rw [hs] at this
    cases this
  · by_cases e : s < r.1.length
    · have w := h.bef (s - 1) (by omega)
      rw [show s - 1 + 1 = s by omega] at w
      have := leastP_none.mp w a b h1 h2
      rw [hs] at this
      cases this
    · have hs : shut (r.1.take s) (rl sh a) (rl sh b) = true := hs
      rw [List.take_of_length_le (by omega)] at hs
      have := (leastP_min e3).2.2 a b h1 h2 hs
      rw [e1, e2, lexLt2] at z
      omega
theorem all_ok (sh : Shelf) (n : Nat) : ∀ r ∈ rowsB sh n n [], RowOk sh n n r := fun r h => by
  have z := rows_ok sh n n [] (.inl rfl) (fun _ h => nomatch h) r h
  simpa using z
theorem judge_own (sh : Shelf) {n : Nat} (hn : n ≤ 3) : judge sh n (rowsB sh n n []) = true := by
  unfold judge
  rw [Bool.and_eq_true, List.all_eq_true, List.all_eq_true]
  refine ⟨fun r hr => (all_ok sh n r hr).right, fun t ht => ?_⟩
  rw [srt_uns (full_dirs hn ht)]
  have c := cnt_full sh hn ht
  cases e : uns t sh
  · rfl
  · rw [e, if_pos rfl] at c
    rw [Bool.not_true, Bool.false_or]
    unfold begAny
    rw [List.any_map, List.any_eq_true]
    have hpos : 0 < ((rowsB sh n n []).filter fun r => begins t r.1).length := by omega
    obtain ⟨x, hx⟩ := List.exists_mem_of_length_pos hpos
    rw [List.mem_filter] at hx
    exact ⟨x, hx.1, hx.2⟩
end Ab
set_option maxHeartbeats 1000000
namespace Ab
open PySem PySem.Spec PyProof.Rows L2
theorem rd_l_judged_right : ∀ bs ds A l, fs_l_judged_right bs ds A → as_l_judged_right (EB l A) (envOf 11 (.mu l bs :: ds.map .da)) := by
  rintro bs _ A l ⟨rows, b, sh, n, hb, rfl, hn, hs, hl, hr, hj, hd, h⟩
  have hr3 : ∀ r ∈ rows, r.1.length ≤ 1000 := fun r q => by have := (hr r q).2; omega
  refine ⟨b, sh, n, rows, rfl, hn, hs, by omega, hr3, ?_⟩
  rw [hj]
  refine And.intro (by decide) (And.intro (by decide) ?_)
  refine for_r0 7 rfl (fun i δ => ∃ cs s6 s7 s8 s9 s10, δ = [.mu l cs, .da (cutOf rows), .da (.lst (sh.map rollD)), .da (seqD b (sh.map rollD)), .da (.int (n : Int)), .da (.lst (((fullRows n).filter fun t => uns t sh).map preD)), s6, s7, s8, s9, s10] ∧ bagOk (62 + 20 * i) cs) ⟨bs, .un, .un, .un, .un, .un, rfl, hb⟩ ?_ ?_
  · rintro i _ hi ⟨cs, s6, s7, s8, s9, s10, rfl, hb⟩ K hK
    refine ⟨rfl, 62 + 20 * i, rows, i, sh, n, hb, by omega, rfl, hn, hs, by omega, by omega, hr, fun rows2 cs2 h1 h2 hb2 l8 => ?_⟩
    have h3 : ∀ r ∈ rows2, r.1.length ≤ 1000 := fun r q => by have := h2 r q; omega
    refine ⟨cmpOk_rows false rows2, cmpOk_rows false rows2, ?_⟩
    refine ite_n (show (!eqD (.lst (rows2.map rowD)) (.lst (rows2.map rowD))) = false by rw [show eqD (.lst (rows2.map rowD)) (.lst (rows2.map rowD)) = true from eqD_self (itr_map itr_row false rows2)]; rfl) ?_
    refine ⟨b, sh, n, rows2, rfl, hn, hs, by omega, h3, ?_⟩
    refine ⟨rows2, sh, n, _, rfl, hn, hs, by omega, h3, fun t ht => ?_, ?_⟩
    · have := (full_ok hn ((List.mem_filter.mp ht).1)).1
      omega
    · refine ite_n (show (!decide (judge sh n rows2 = due rows2 sh n ((fullRows n).filter fun t => uns t sh))) = false by rw [hd rows2]; simp) ?_
      exact hK _ ⟨cs2, _, _, _, _, _, rfl, hb2.le (by omega)⟩
  · rintro _ ⟨cs, s6, s7, s8, s9, s10, rfl, hb⟩
    refine ⟨b, sh, n, rows, rfl, hn, hs, by omega, hr3, ?_⟩
    rw [hj]
    exact ⟨rfl, h cs⟩
def tailL : AS := (aSeq (aSet 6 (aCall fs_l_full (aCons (aVar 2) aNil)))
  (aSeq (aSet 7 (aFrz (aLc (aiSeq (aVar 6)) (agName 10) (aB (aCall fs_l_unsorted (aCons (aVar 10) (aCons (aVar 4) aNil)))) (aVar 10) [10])))
  (aSeq (aSet 8 (aFrz (aLc (aiSeq (aVar 6)) (agName 10) (aB (aOp (fIn true) (aVar 10) (aVar 7))) (aVar 10) [10])))
  (aSeq (aIf (aNot (aB (aCall fs_l_rules_are (aCons (aCall fs_fitting_rules (aCons (aVar 5) (aCons (aVar 2) aNil))) (aCons (aVar 8) aNil))))) (aRet (aC (.bl false))) aNext)
  (aSeq (aSet 9 (aCall fs_shelf_cut (aCons (aVar 5) (aCons (aVar 2) aNil))))
  (aSeq (aIf (aOr (aNot (aB (aIsCut (aVar 9)))) (aNot (aB (aIsi .tuple (aUn fRows (aVar 9)))))) (aRet (aC (.bl false))) aNext)
  (aSeq (aIf (aNot (aB (aCall fs_l_cut_right (aCons (aUn fRows (aVar 9)) (aCons (aVar 4) (aCons (aVar 2) aNil)))))) (aRet (aC (.bl false))) aNext)
  (aSeq (aFor (aiSeq (aVar 6)) (agName 10) (aIf (aB (aOp fNe (aCB fLen (aCons (aCall fs_l_begun (aCons (aUn fRows (aVar 9)) (aCons (aVar 10) aNil))) aNil)) (aCB fInt (aCons (aOp (fIn false) (aVar 10) (aVar 7)) aNil)))) (aRet (aC (.bl false))) aNext))
  (aSeq (aSet 11 (aFrz (aListOf (aCons (aUn fRows (aVar 9)) aNil))))
  (aSeq (aSet 12 (aUn fRev (aVar 4)))
  (aSeq (aSet 13 (aFrz (aLc (aiSeq (aVar 6)) (agName 10) (aB (aCall fs_l_unsorted (aCons (aVar 10) (aCons (aVar 12) aNil)))) (aVar 10) [10])))
  (aSeq (aIf (aB (aOp fNe (aCall fs_judge_cut (aCons (aVar 12) (aCons (aVar 2) (aCons (aVar 9) aNil)))) (aCall fs_l_due (aCons (aVar 11) (aCons (aVar 12) (aCons (aVar 2) (aCons (aVar 13) aNil))))))) (aRet (aC (.bl false))) aNext)
  (aSeq (aIf (aNot (aB (aCallT fs_l_judged_right (aCallO fs_l_box (aCons (aVar 0) (aCons (aC (.int 2)) aNil))) (aCons (aVar 9) (aCons (aVar 4) (aCons (aVar 5) (aCons (aVar 2) (aCons (aVar 7) aNil)))))))) (aRet (aC (.bl false))) aNext)
  (aRet (aAndV (aOp fEq (aFrz (aListOf (aCons (aUn fRows (aVar 9)) aNil))) (aVar 11)) (aOp fEq (aFrz (aListOf (aCons (aVar 5) aNil))) (aVar 4)))))))))))))))))
theorem tailL_ok {A : D → Prop} {ns : List Int} {l1 : Addr} {cs : List D} {m : Nat} {wy : D} {sh : Shelf} (b : Bool) (hm : m ≤ 3) (hs : shOk m sh) (h : A (.bl true)) :
    tailL (ED A) [.da (.scr ns), .mu l1 cs, .da (.int (m : Int)), .da wy, .da (.lst (sh.map rollD)), .da (seqD b (sh.map rollD)), .un, .un, .un, .un, .un, .un, .un, .un] := by
  have hl48 := full_len hm
  have hl16 : (fullRows m).length ≤ 16777216 := by omega
  have tl : ∀ t ∈ fullRows m, t.length ≤ 1000 := fun t ht => by have := (full_ok hm ht).1; omega
  refine ⟨m, rfl, hm, ?_⟩
  refine lc_f preD (fullRows m) (fun t => uns t sh) hl16 ⟨trivial, trivial⟩ (fun t ht Y Z hY hZ => ?_) ?_
  · refine ⟨t, sh, m, rfl, (full_ok hm ht).inR, hs, ?_⟩
    exact ite_b (fun c => hY c _ rfl) fun c => hZ c _ rfl
  refine lc_f preD (fullRows m) (fun t => !decide (t ∈ (fullRows m).filter fun t => uns t sh)) hl16 ⟨trivial, trivial⟩ (fun t ht Y Z hY hZ => ?_) ?_
  · refine ⟨cmpOk_pre t, cmpOk_pres false _, ?_⟩
    refine ite_b (fun c => hY ?_ _ rfl) fun c => hZ ?_ _ rfl
    · have c : (!((((fullRows m).filter fun t => uns t sh).map preD).any fun z => eqD z (preD t))) = true := c
      rw [any_pre] at c
      exact c
    · have c : (!((((fullRows m).filter fun t => uns t sh).map preD).any fun z => eqD z (preD t))) = false := c
      rw [any_pre] at c
      exact c
  have eF : ((fullRows m).filter fun t => !decide (t ∈ (fullRows m).filter fun t => uns t sh)) = (fullRows m).filter fun t => srt t sh := by
    apply List.filter_congr
    intro t ht
    rw [srt_uns (full_dirs hm ht)]
    congr 1
    cases e : uns t sh
    · exact decide_eq_false fun z => by
        have := (List.mem_filter.mp z).2
        rw [e] at this
        cases this
    · exact decide_eq_true (List.mem_filter.mpr ⟨ht, e⟩)
  rw [eF]
  refine ⟨b, sh, m, rfl, hm, hs, ?_⟩
  refine ⟨(fullRows m).filter fun t => srt t sh, rfl, ?_, fun t ht => tl t ((List.mem_filter.mp ht).1), ?_⟩
  · have := List.length_filter_le (fun t => srt t sh) (fullRows m)
    omega
  refine ⟨b, sh, m, rfl, hm, hs, ?_⟩
  have rok := all_ok sh m
  have r3 : ∀ r ∈ rowsB sh m m [], r.1.length ≤ 3 := fun r hr => by have := (rok r hr).len; omega
  have rlen : (rowsB sh m m []).length ≤ 400 := by
    have h1 := rowsB_len sh m hm m []
    have h2 : 6 ^ m ≤ 6 ^ 3 := Nat.pow_le_pow_right (by decide) hm
    omega
  have rne : ∀ r ∈ rowsB sh m m [], r.1 ≠ [] := fun r hr e => by
    have := (rok r hr).pre
    rw [e] at this
    cases this
  have r1000 : ∀ r ∈ rowsB sh m m [], r.1.length ≤ 1000 := fun r hr => by have := r3 r hr; omega
  refine ⟨rowsB sh m m [], sh, m, rfl, hm, hs, fun r hr => ⟨r1000 r hr, rne r hr, (rok r hr).right, (rok r hr).least⟩, rows_sorted sh m m [], ?_⟩
  refine for_i preD (fun r δ => (∃ s10, δ = [.da (.scr ns), .mu l1 cs, .da (.int (m : Int)), .da wy, .da (.lst (sh.map rollD)), .da (seqD b (sh.map rollD)), .da (.lst ((fullRows m).map preD)), .da (.lst (((fullRows m).filter fun t => uns t sh).map preD)), .da (.lst (((fullRows m).filter fun t => srt t sh).map preD)), .da (cutOf (rowsB sh m m [])), s10, .un, .un, .un] ∧ fre s10) ∧ ∀ t ∈ r, t ∈ fullRows m) (fullRows m) ⟨⟨.un, rfl, trivial⟩, fun t ht => ht⟩ ?_ ?_
  · rintro t r _ ⟨⟨s10, rfl, _⟩, hr⟩ K hK
    have ht := hr t (by simp)
    refine ⟨true, rowsB sh m m [], t, rfl, by omega, r1000, tl t ht, ?_⟩
    refine ⟨cmpOk_pre t, cmpOk_pres false _, ?_⟩
    refine ite_n ?_ (hK _ ⟨⟨.da (preD t), rfl, trivial⟩, fun u hu => hr u (by simp [hu])⟩)
    show (!decide (((((rowsB sh m m []).filter fun r => begins t r.1).map rowD).length : Int) = if ((((fullRows m).filter fun t => uns t sh).map preD).any fun z => eqD z (preD t)) = true then 1 else 0)) = false
    rw [any_pre, List.length_map, cnt_full sh hm ht]
    have e : decide (t ∈ (fullRows m).filter fun t => uns t sh) = uns t sh := by
      cases e : uns t sh
      · exact decide_eq_false fun z => by
          have := (List.mem_filter.mp z).2
          rw [e] at this
          cases this
      · exact decide_eq_true (List.mem_filter.mpr ⟨ht, e⟩)
    rw [e]
    cases uns t sh <;> rfl
  · rintro _ ⟨⟨s10, rfl, f10⟩, _⟩
    have hrev : (sh.map rollD).reverse = sh.reverse.map rollD := (List.map_reverse ..).symm
    have hs2 : shOk m sh.reverse := ⟨by rw [List.length_reverse]; exact hs.1, fun r hr => hs.2 r (by simpa using hr)⟩
    refine lc_f preD (fullRows m) (fun t => uns t sh.reverse) hl16 ⟨f10, trivial⟩ (fun t ht Y Z hY hZ => ?_) ?_
    · refine ⟨t, sh.reverse, m, by rw [← hrev], (full_ok hm ht).inR, hs2, ?_⟩
      exact ite_b (fun c => hY c _ rfl) fun c => hZ c _ rfl
    refine ⟨false, sh.reverse, m, rowsB sh m m [], by rw [← hrev]; rfl, hm, hs2, by omega, r1000, ?_⟩
    refine ⟨rowsB sh m m [], sh.reverse, m, (fullRows m).filter fun t => uns t sh.reverse, by rw [← hrev], hm, hs2, by omega, r1000, fun t ht => tl t ((List.mem_filter.mp ht).1), ?_⟩
    refine ite_n (show (!decide (judge sh.reverse m (rowsB sh m m []) = due (rowsB sh m m []) sh.reverse m ((fullRows m).filter fun t => uns t sh.reverse))) = false by rw [judge_due hm]; simp) ?_
    refine ⟨ns, 2, rfl, by decide, fun bs hb => ?_⟩
    refine ⟨rowsB sh m m [], b, sh, m, hb, rfl, hm, hs, rlen, fun r hr => ⟨rne r hr, by have := r3 r hr; omega⟩, judge_own sh hm, fun rows2 => judge_due hm sh rows2, fun cs2 => ?_⟩
    have e1 := eqD_self (itr_map itr_row false (rowsB sh m m []))
    have e2 := eqD_self (itr_map itr_roll false sh)
    refine ⟨cmpOk_rows false _, cmpOk_rows false _, ?_⟩
    refine ite_y e1 ?_
    cases b
    · refine ⟨cmpOk_rolls false _, cmpOk_rolls false _, ?_⟩
      have e2 : eqD (.lst (sh.map rollD)) (.lst (sh.map rollD)) = true := e2
      rw [e2]
      exact h
    · refine ⟨cmpOk_rolls false _, cmpOk_rolls false _, ?_⟩
      have e2 : eqD (.lst (sh.map rollD)) (.lst (sh.map rollD)) = true := e2
      rw [e2]
      exact h
theorem rd_law : ∀ ds A, fs_law ds A → as_law (ED A) (envOf 14 (ds.map .da)) := by
  rintro _ A ⟨ns, rfl, hns, h⟩
  refine ⟨ns, 0, rfl, by decide, fun bs hb l1 => ?_⟩
  refine And.intro (Nat.le_of_ble_eq_true rfl) ?_
  refine ⟨rfl, 62, 4, hb, by decide, rfl, by decide, by decide, fun d cs d0 d1 hb1 => ?_⟩
  refine fIx_ints [2, 3, 1, 0] d0 d1 fun c hc => ?_
  obtain ⟨m, rfl, hm⟩ : ∃ m : Nat, c = (m : Int) ∧ m ≤ 3 := by
    simp only [List.mem_cons, List.not_mem_nil, or_false] at hc
    exact ⟨c.toNat, by omega, by omega⟩
  refine ⟨rfl, 63, 2, hb1, by decide, rfl, by decide, by decide, fun w cs2 w0 w1 hb2 => ?_⟩
  refine ⟨ns, 1, rfl, by decide, fun bs3 hb3 => ?_⟩
  refine ⟨m, hb3, rfl, hm, fun sh cs3 hs => ?_⟩
  refine ite_b (fun c => ?_) (fun c => ?_)
  · exact tailL_ok true hm hs h
  · exact tailL_ok false hm hs h
end Ab
set_option maxHeartbeats 4000000
namespace Ab
open PySem PySem.Spec PyProof.Rows L2
section
variable {P : Program} {w : World} {K : PySem.W.Frag} {mg : Str → Option Value} {base : Heap} {c : Cl} {f : Addr} {fd : FuncData}
theorem df_is_integer (B : Bi mg)  (F : Fun K "is_integer" "is_integer" (topS 7) f fd) (hm : mg "is_integer" = some (.ref f)) : Df P w K mg base "is_integer" 1 ["value"] (spD ⟨K, c⟩ fs_is_integer) :=
  ⟨f, fd, fn_D F sc_is_integer (by intro ds A h; repeat (first | (obtain ⟨rfl, _⟩ := h; rfl) | (obtain ⟨_, h⟩ := h))) (bd_is_integer B ).body rd_is_integer, hm, F.kp, F.binds (ps := ["value"]) fun _ _ _ _ _ _ us hl => match us, hl with | [_], _ => rfl⟩
theorem df_is_term (B : Bi mg) (D_is_integer : Df P w K mg base "is_integer" 1 ["value"] (spD ⟨K, c⟩ fs_is_integer)) (hGM : ∃ t, mg "GREATEST_MARK" = some (.int 3 t)) (F : Fun K "is_term" "is_term" (topS 12) f fd) (hm : mg "is_term" = some (.ref f)) : Df P w K mg base "is_term" 2 ["term"] (spD ⟨K, c⟩ fs_is_term) :=
  ⟨f, fd, fn_D F sc_is_term (by intro ds A h; repeat (first | (obtain ⟨rfl, _⟩ := h; rfl) | (obtain ⟨_, h⟩ := h))) (bd_is_term B D_is_integer hGM).body rd_is_term, hm, F.kp, F.binds (ps := ["term"]) fun _ _ _ _ _ _ us hl => match us, hl with | [_], _ => rfl⟩
theorem df_terms_behind (B : Bi mg)  (F : Fun K "terms_behind" "terms_behind" (topS 15) f fd) (hm : mg "terms_behind" = some (.ref f)) : Df P w K mg base "terms_behind" 1 ["terms", "count"] (spD ⟨K, c⟩ fs_terms_behind) :=
  ⟨f, fd, fn_D F sc_terms_behind (by intro ds A h; repeat (first | (obtain ⟨rfl, _⟩ := h; rfl) | (obtain ⟨_, h⟩ := h))) (bd_terms_behind B ).body rd_terms_behind, hm, F.kp, F.binds (ps := ["terms", "count"]) fun _ _ _ _ _ _ us hl => match us, hl with | [_, _], _ => rfl⟩
theorem df_term_rows (B : Bi mg) (D_terms_behind : Df P w K mg base "terms_behind" 1 ["terms", "count"] (spD ⟨K, c⟩ fs_terms_behind)) (F : Fun K "term_rows" "term_rows" (topS 16) f fd) (hm : mg "term_rows" = some (.ref f)) : Df P w K mg base "term_rows" 2 ["count"] (spD ⟨K, c⟩ fs_term_rows) :=
  ⟨f, fd, fn_D F sc_term_rows (by intro ds A h; repeat (first | (obtain ⟨rfl, _⟩ := h; rfl) | (obtain ⟨_, h⟩ := h))) (bd_term_rows B D_terms_behind).body rd_term_rows, hm, F.kp, F.binds (ps := ["count"]) fun _ _ _ _ _ _ us hl => match us, hl with | [_], _ => rfl⟩
theorem df_compare_by (B : Bi mg)  (F : Fun K "compare_by" "compare_by" (topS 17) f fd) (hm : mg "compare_by" = some (.ref f)) : Df P w K mg base "compare_by" 1 ["terms", "first", "second"] (spD ⟨K, c⟩ fs_compare_by) :=
  ⟨f, fd, fn_D F sc_compare_by (by intro ds A h; repeat (first | (obtain ⟨rfl, _⟩ := h; rfl) | (obtain ⟨_, h⟩ := h))) (bd_compare_by B ).body rd_compare_by, hm, F.kp, F.binds (ps := ["terms", "first", "second"]) fun _ _ _ _ _ _ us hl => match us, hl with | [_, _, _], _ => rfl⟩
theorem df_RuleInit (B : Bi mg) (D_is_term : Df P w K mg base "is_term" 2 ["term"] (spD ⟨K, c⟩ fs_is_term)) (hFR : ClF K c.CR "terms") (F : Fun K "__init__" "Rule.__init__" (inClass (topS 18) 0) f fd) (hm : mg "Rule" = some (.ref c.CR)) (hk : Mk K c.CR f) : Dm P w K mg base "Rule" c.CR 3 ["self", "terms"] (spN ⟨K, c⟩ c.CR "terms" fs_RuleInit) :=
  ⟨f, fd, fn_N F sc_RuleInit (by intro ds A h; repeat (first | (obtain ⟨rfl, _⟩ := h; rfl) | (obtain ⟨_, h⟩ := h))) (bd_RuleInit B D_is_term hFR).body (rd_RuleInit c), hm, hk, F.binds (ps := ["self", "terms"]) fun _ _ _ _ _ _ us hl => match us, hl with | [_, _], _ => rfl⟩
theorem df_all_rules (B : Bi mg) (D_RuleInit : Dm P w K mg base "Rule" c.CR 3 ["self", "terms"] (spN ⟨K, c⟩ c.CR "terms" fs_RuleInit)) (D_term_rows : Df P w K mg base "term_rows" 2 ["count"] (spD ⟨K, c⟩ fs_term_rows)) (F : Fun K "all_rules" "all_rules" (topS 19) f fd) (hm : mg "all_rules" = some (.ref f)) : Df P w K mg base "all_rules" 5 ["count"] (spD ⟨K, c⟩ fs_all_rules) :=
  ⟨f, fd, fn_D F sc_all_rules (by intro ds A h; repeat (first | (obtain ⟨rfl, _⟩ := h; rfl) | (obtain ⟨_, h⟩ := h))) (bd_all_rules B D_RuleInit D_term_rows).body rd_all_rules, hm, F.kp, F.binds (ps := ["count"]) fun _ _ _ _ _ _ us hl => match us, hl with | [_], _ => rfl⟩
theorem df_is_sorted (B : Bi mg) (D_compare_by : Df P w K mg base "compare_by" 1 ["terms", "first", "second"] (spD ⟨K, c⟩ fs_compare_by)) (F : Fun K "is_sorted" "is_sorted" (topS 22) f fd) (hm : mg "is_sorted" = some (.ref f)) : Df P w K mg base "is_sorted" 2 ["terms", "shelf"] (spD ⟨K, c⟩ fs_is_sorted) :=
  ⟨f, fd, fn_D F sc_is_sorted (by intro ds A h; repeat (first | (obtain ⟨rfl, _⟩ := h; rfl) | (obtain ⟨_, h⟩ := h))) (bd_is_sorted B D_compare_by).body rd_is_sorted, hm, F.kp, F.binds (ps := ["terms", "shelf"]) fun _ _ _ _ _ _ us hl => match us, hl with | [_, _], _ => rfl⟩
theorem df_fitting_rules (B : Bi mg) (D_all_rules : Df P w K mg base "all_rules" 5 ["count"] (spD ⟨K, c⟩ fs_all_rules)) (D_is_sorted : Df P w K mg base "is_sorted" 2 ["terms", "shelf"] (spD ⟨K, c⟩ fs_is_sorted)) (hFR : ClF K c.CR "terms") (F : Fun K "fitting_rules" "fitting_rules" (topS 23) f fd) (hm : mg "fitting_rules" = some (.ref f)) : Df P w K mg base "fitting_rules" 6 ["shelf", "count"] (spD ⟨K, c⟩ fs_fitting_rules) :=
  ⟨f, fd, fn_D F sc_fitting_rules (by intro ds A h; repeat (first | (obtain ⟨rfl, _⟩ := h; rfl) | (obtain ⟨_, h⟩ := h))) (bd_fitting_rules B D_all_rules D_is_sorted hFR).body rd_fitting_rules, hm, F.kp, F.binds (ps := ["shelf", "count"]) fun _ _ _ _ _ _ us hl => match us, hl with | [_, _], _ => rfl⟩
theorem df_is_shut_by (B : Bi mg) (D_compare_by : Df P w K mg base "compare_by" 1 ["terms", "first", "second"] (spD ⟨K, c⟩ fs_compare_by)) (F : Fun K "is_shut_by" "is_shut_by" (topS 24) f fd) (hm : mg "is_shut_by" = some (.ref f)) : Df P w K mg base "is_shut_by" 2 ["prefix", "first", "second"] (spD ⟨K, c⟩ fs_is_shut_by) :=
  ⟨f, fd, fn_D F sc_is_shut_by (by intro ds A h; repeat (first | (obtain ⟨rfl, _⟩ := h; rfl) | (obtain ⟨_, h⟩ := h))) (bd_is_shut_by B D_compare_by).body rd_is_shut_by, hm, F.kp, F.binds (ps := ["prefix", "first", "second"]) fun _ _ _ _ _ _ us hl => match us, hl with | [_, _, _], _ => rfl⟩
theorem df_least_pair (B : Bi mg) (D_is_shut_by : Df P w K mg base "is_shut_by" 2 ["prefix", "first", "second"] (spD ⟨K, c⟩ fs_is_shut_by)) (F : Fun K "least_pair" "least_pair" (topS 25) f fd) (hm : mg "least_pair" = some (.ref f)) : Df P w K mg base "least_pair" 3 ["prefix", "shelf"] (spD ⟨K, c⟩ fs_least_pair) :=
  ⟨f, fd, fn_D F sc_least_pair (by intro ds A h; repeat (first | (obtain ⟨rfl, _⟩ := h; rfl) | (obtain ⟨_, h⟩ := h))) (bd_least_pair B D_is_shut_by).body rd_least_pair, hm, F.kp, F.binds (ps := ["prefix", "shelf"]) fun _ _ _ _ _ _ us hl => match us, hl with | [_, _], _ => rfl⟩
theorem df_shelf_cut (B : Bi mg) (D_ShelfCutInit : Dm P w K mg base "ShelfCut" c.CS 1 ["self", "rows"] (spCut ⟨K, c⟩)) (D_rows_behind : Df P w K mg base "rows_behind" 7 ["prefix", "shelf", "count"] (spD ⟨K, c⟩ fs_rows_behind)) (F : Fun K "shelf_cut" "shelf_cut" (topS 27) f fd) (hm : mg "shelf_cut" = some (.ref f)) : Df P w K mg base "shelf_cut" 8 ["shelf", "count"] (spD ⟨K, c⟩ fs_shelf_cut) :=
  ⟨f, fd, fn_D F sc_shelf_cut (by intro ds A h; repeat (first | (obtain ⟨rfl, _⟩ := h; rfl) | (obtain ⟨_, h⟩ := h))) (bd_shelf_cut B D_ShelfCutInit D_rows_behind).body rd_shelf_cut, hm, F.kp, F.binds (ps := ["shelf", "count"]) fun _ _ _ _ _ _ us hl => match us, hl with | [_, _], _ => rfl⟩
theorem df_is_prefix (B : Bi mg) (D_terms_behind : Df P w K mg base "terms_behind" 1 ["terms", "count"] (spD ⟨K, c⟩ fs_terms_behind)) (F : Fun K "is_prefix" "is_prefix" (topS 28) f fd) (hm : mg "is_prefix" = some (.ref f)) : Df P w K mg base "is_prefix" 2 ["terms", "count"] (spD ⟨K, c⟩ fs_is_prefix) :=
  ⟨f, fd, fn_D F sc_is_prefix (by intro ds A h; repeat (first | (obtain ⟨rfl, _⟩ := h; rfl) | (obtain ⟨_, h⟩ := h))) (bd_is_prefix B D_terms_behind).body rd_is_prefix, hm, F.kp, F.binds (ps := ["terms", "count"]) fun _ _ _ _ _ _ us hl => match us, hl with | [_, _], _ => rfl⟩
theorem df_is_right_row (B : Bi mg) (D_is_prefix : Df P w K mg base "is_prefix" 2 ["terms", "count"] (spD ⟨K, c⟩ fs_is_prefix)) (D_is_shut_by : Df P w K mg base "is_shut_by" 2 ["prefix", "first", "second"] (spD ⟨K, c⟩ fs_is_shut_by)) (F : Fun K "is_right_row" "is_right_row" (topS 29) f fd) (hm : mg "is_right_row" = some (.ref f)) : Df P w K mg base "is_right_row" 3 ["row", "shelf", "count"] (spD ⟨K, c⟩ fs_is_right_row) :=
  ⟨f, fd, fn_D F sc_is_right_row (by intro ds A h; repeat (first | (obtain ⟨rfl, _⟩ := h; rfl) | (obtain ⟨_, h⟩ := h))) (bd_is_right_row B D_is_prefix D_is_shut_by).body rd_is_right_row, hm, F.kp, F.binds (ps := ["row", "shelf", "count"]) fun _ _ _ _ _ _ us hl => match us, hl with | [_, _, _], _ => rfl⟩
theorem df_begins_with_any (B : Bi mg)  (F : Fun K "begins_with_any" "begins_with_any" (topS 30) f fd) (hm : mg "begins_with_any" = some (.ref f)) : Df P w K mg base "begins_with_any" 1 ["terms", "prefixes"] (spD ⟨K, c⟩ fs_begins_with_any) :=
  ⟨f, fd, fn_D F sc_begins_with_any (by intro ds A h; repeat (first | (obtain ⟨rfl, _⟩ := h; rfl) | (obtain ⟨_, h⟩ := h))) (bd_begins_with_any B ).body rd_begins_with_any, hm, F.kp, F.binds (ps := ["terms", "prefixes"]) fun _ _ _ _ _ _ us hl => match us, hl with | [_, _], _ => rfl⟩
theorem df_judge_cut (B : Bi mg) (D_begins_with_any : Df P w K mg base "begins_with_any" 1 ["terms", "prefixes"] (spD ⟨K, c⟩ fs_begins_with_any)) (D_is_right_row : Df P w K mg base "is_right_row" 3 ["row", "shelf", "count"] (spD ⟨K, c⟩ fs_is_right_row)) (D_is_sorted : Df P w K mg base "is_sorted" 2 ["terms", "shelf"] (spD ⟨K, c⟩ fs_is_sorted)) (D_term_rows : Df P w K mg base "term_rows" 2 ["count"] (spD ⟨K, c⟩ fs_term_rows)) (hFC : ClF K c.CS "rows") (F : Fun K "judge_cut" "judge_cut" (topS 31) f fd) (hm : mg "judge_cut" = some (.ref f)) : Df P w K mg base "judge_cut" 4 ["shelf", "count", "cut"] (spD ⟨K, c⟩ fs_judge_cut) :=
  ⟨f, fd, fn_D F sc_judge_cut (by intro ds A h; repeat (first | (obtain ⟨rfl, _⟩ := h; rfl) | (obtain ⟨_, h⟩ := h))) (bd_judge_cut B D_begins_with_any D_is_right_row D_is_sorted D_term_rows hFC).body rd_judge_cut, hm, F.kp, F.binds (ps := ["shelf", "count", "cut"]) fun _ _ _ _ _ _ us hl => match us, hl with | [_, _, _], _ => rfl⟩
theorem df_l_box (B : Bi mg)  (F : Fun K "_law_box" "_law_box" (topS 33) f fd) (hm : mg "_law_box" = some (.ref f)) : Df P w K mg base "_law_box" 1 ["_law_script", "_law_place"] (spO ⟨K, c⟩ fs_l_box) :=
  ⟨f, fd, fn_O F sc_l_box (by intro ds A h; repeat (first | (obtain ⟨rfl, _⟩ := h; rfl) | (obtain ⟨_, h⟩ := h))) (bd_l_box B ).body rd_l_box, hm, F.kp, F.binds (ps := ["_law_script", "_law_place"]) fun _ _ _ _ _ _ us hl => match us, hl with | [_, _], _ => rfl⟩
theorem df_l_take (B : Bi mg)  (F : Fun K "_law_take" "_law_take" (topS 34) f fd) (hm : mg "_law_take" = some (.ref f)) : Df P w K mg base "_law_take" 1 ["_law_bag", "_law_size"] (spB ⟨K, c⟩ fs_l_take) :=
  ⟨f, fd, fn_B F sc_l_take (by intro bs ds A h; repeat (first | (obtain ⟨rfl, _⟩ := h; rfl) | (obtain ⟨_, h⟩ := h))) (bd_l_take B ).body rd_l_take, hm, F.kp, F.binds (ps := ["_law_bag", "_law_size"]) fun _ _ _ _ _ _ us hl => match us, hl with | [_, _], _ => rfl⟩
theorem df_l_integer (B : Bi mg)  (F : Fun K "_law_integer" "_law_integer" (topS 35) f fd) (hm : mg "_law_integer" = some (.ref f)) : Df P w K mg base "_law_integer" 1 ["_law_told"] (spD ⟨K, c⟩ fs_l_integer) :=
  ⟨f, fd, fn_D F sc_l_integer (by intro ds A h; repeat (first | (obtain ⟨rfl, _⟩ := h; rfl) | (obtain ⟨_, h⟩ := h))) (bd_l_integer B ).body rd_l_integer, hm, F.kp, F.binds (ps := ["_law_told"]) fun _ _ _ _ _ _ us hl => match us, hl with | [_], _ => rfl⟩
theorem df_l_value (B : Bi mg) (D_l_take : Df P w K mg base "_law_take" 1 ["_law_bag", "_law_size"] (spB ⟨K, c⟩ fs_l_take)) (F : Fun K "_law_value" "_law_value" (topS 36) f fd) (hm : mg "_law_value" = some (.ref f)) : Df P w K mg base "_law_value" 2 ["_law_bag", "_law_plain"] (spB ⟨K, c⟩ fs_l_value) :=
  ⟨f, fd, fn_B F sc_l_value (by intro bs ds A h; repeat (first | (obtain ⟨rfl, _⟩ := h; rfl) | (obtain ⟨_, h⟩ := h))) (bd_l_value B D_l_take).body rd_l_value, hm, F.kp, F.binds (ps := ["_law_bag", "_law_plain"]) fun _ _ _ _ _ _ us hl => match us, hl with | [_, _], _ => rfl⟩
theorem df_l_terms (B : Bi mg) (D_l_take : Df P w K mg base "_law_take" 1 ["_law_bag", "_law_size"] (spB ⟨K, c⟩ fs_l_take)) (F : Fun K "_law_terms" "_law_terms" (topS 37) f fd) (hm : mg "_law_terms" = some (.ref f)) : Df P w K mg base "_law_terms" 2 ["_law_bag", "_law_many", "_law_marks"] (spB ⟨K, c⟩ fs_l_terms) :=
  ⟨f, fd, fn_B F sc_l_terms (by intro bs ds A h; repeat (first | (obtain ⟨rfl, _⟩ := h; rfl) | (obtain ⟨_, h⟩ := h))) (bd_l_terms B D_l_take).body rd_l_terms, hm, F.kp, F.binds (ps := ["_law_bag", "_law_many", "_law_marks"]) fun _ _ _ _ _ _ us hl => match us, hl with | [_, _, _], _ => rfl⟩
theorem df_l_roll (B : Bi mg) (D_l_take : Df P w K mg base "_law_take" 1 ["_law_bag", "_law_size"] (spB ⟨K, c⟩ fs_l_take)) (F : Fun K "_law_roll" "_law_roll" (topS 38) f fd) (hm : mg "_law_roll" = some (.ref f)) : Df P w K mg base "_law_roll" 2 ["_law_bag", "_law_at", "_law_marks", "_law_pool"] (spB ⟨K, c⟩ fs_l_roll) :=
  ⟨f, fd, fn_B F sc_l_roll (by intro bs ds A h; repeat (first | (obtain ⟨rfl, _⟩ := h; rfl) | (obtain ⟨_, h⟩ := h))) (bd_l_roll B D_l_take).body rd_l_roll, hm, F.kp, F.binds (ps := ["_law_bag", "_law_at", "_law_marks", "_law_pool"]) fun _ _ _ _ _ _ us hl => match us, hl with | [_, _, _, _], _ => rfl⟩
theorem df_l_side (B : Bi mg)  (F : Fun K "_law_side" "_law_side" (topS 39) f fd) (hm : mg "_law_side" = some (.ref f)) : Df P w K mg base "_law_side" 1 ["_law_terms_here", "_law_one", "_law_two"] (spD ⟨K, c⟩ fs_l_side) :=
  ⟨f, fd, fn_D F sc_l_side (by intro ds A h; repeat (first | (obtain ⟨rfl, _⟩ := h; rfl) | (obtain ⟨_, h⟩ := h))) (bd_l_side B ).body rd_l_side, hm, F.kp, F.binds (ps := ["_law_terms_here", "_law_one", "_law_two"]) fun _ _ _ _ _ _ us hl => match us, hl with | [_, _, _], _ => rfl⟩
theorem df_l_laid (B : Bi mg) (D_l_side : Df P w K mg base "_law_side" 1 ["_law_terms_here", "_law_one", "_law_two"] (spD ⟨K, c⟩ fs_l_side)) (F : Fun K "_law_laid" "_law_laid" (topS 40) f fd) (hm : mg "_law_laid" = some (.ref f)) : Df P w K mg base "_law_laid" 2 ["_law_terms_here", "_law_rolls"] (spO ⟨K, c⟩ fs_l_laid) :=
  ⟨f, fd, fn_O F sc_l_laid (by intro ds A h; repeat (first | (obtain ⟨rfl, _⟩ := h; rfl) | (obtain ⟨_, h⟩ := h))) (bd_l_laid B D_l_side).body rd_l_laid, hm, F.kp, F.binds (ps := ["_law_terms_here", "_law_rolls"]) fun _ _ _ _ _ _ us hl => match us, hl with | [_, _], _ => rfl⟩
theorem df_l_shelf (B : Bi mg) (D_l_laid : Df P w K mg base "_law_laid" 2 ["_law_terms_here", "_law_rolls"] (spO ⟨K, c⟩ fs_l_laid)) (D_l_roll : Df P w K mg base "_law_roll" 2 ["_law_bag", "_law_at", "_law_marks", "_law_pool"] (spB ⟨K, c⟩ fs_l_roll)) (D_l_take : Df P w K mg base "_law_take" 1 ["_law_bag", "_law_size"] (spB ⟨K, c⟩ fs_l_take)) (D_l_terms : Df P w K mg base "_law_terms" 2 ["_law_bag", "_law_many", "_law_marks"] (spB ⟨K, c⟩ fs_l_terms)) (D_l_value : Df P w K mg base "_law_value" 2 ["_law_bag", "_law_plain"] (spB ⟨K, c⟩ fs_l_value)) (F : Fun K "_law_shelf" "_law_shelf" (topS 41) f fd) (hm : mg "_law_shelf" = some (.ref f)) : Df P w K mg base "_law_shelf" 3 ["_law_bag", "_law_count"] (spB ⟨K, c⟩ fs_l_shelf) :=
  ⟨f, fd, fn_B F sc_l_shelf (by intro bs ds A h; repeat (first | (obtain ⟨rfl, _⟩ := h; rfl) | (obtain ⟨_, h⟩ := h))) (bd_l_shelf B D_l_laid D_l_roll D_l_take D_l_terms D_l_value).body rd_l_shelf, hm, F.kp, F.binds (ps := ["_law_bag", "_law_count"]) fun _ _ _ _ _ _ us hl => match us, hl with | [_, _], _ => rfl⟩
theorem df_l_full (B : Bi mg)  (F : Fun K "_law_full" "_law_full" (topS 42) f fd) (hm : mg "_law_full" = some (.ref f)) : Df P w K mg base "_law_full" 1 ["_law_count"] (spD ⟨K, c⟩ fs_l_full) :=
  ⟨f, fd, fn_D F sc_l_full (by intro ds A h; repeat (first | (obtain ⟨rfl, _⟩ := h; rfl) | (obtain ⟨_, h⟩ := h))) (bd_l_full B ).body rd_l_full, hm, F.kp, F.binds (ps := ["_law_count"]) fun _ _ _ _ _ _ us hl => match us, hl with | [_], _ => rfl⟩
theorem df_l_unsorted (B : Bi mg) (D_l_side : Df P w K mg base "_law_side" 1 ["_law_terms_here", "_law_one", "_law_two"] (spD ⟨K, c⟩ fs_l_side)) (F : Fun K "_law_unsorted" "_law_unsorted" (topS 43) f fd) (hm : mg "_law_unsorted" = some (.ref f)) : Df P w K mg base "_law_unsorted" 2 ["_law_terms_here", "_law_shelf_here"] (spD ⟨K, c⟩ fs_l_unsorted) :=
  ⟨f, fd, fn_D F sc_l_unsorted (by intro ds A h; repeat (first | (obtain ⟨rfl, _⟩ := h; rfl) | (obtain ⟨_, h⟩ := h))) (bd_l_unsorted B D_l_side).body rd_l_unsorted, hm, F.kp, F.binds (ps := ["_law_terms_here", "_law_shelf_here"]) fun _ _ _ _ _ _ us hl => match us, hl with | [_, _], _ => rfl⟩
theorem df_l_rules_are (B : Bi mg) (D_l_integer : Df P w K mg base "_law_integer" 1 ["_law_told"] (spD ⟨K, c⟩ fs_l_integer)) (hFR : ClF K c.CR "terms") (hmR : mg "Rule" = some (.ref c.CR)) (F : Fun K "_law_rules_are" "_law_rules_are" (topS 44) f fd) (hm : mg "_law_rules_are" = some (.ref f)) : Df P w K mg base "_law_rules_are" 2 ["_law_told", "_law_due_here"] (spD ⟨K, c⟩ fs_l_rules_are) :=
  ⟨f, fd, fn_D F sc_l_rules_are (by intro ds A h; repeat (first | (obtain ⟨rfl, _⟩ := h; rfl) | (obtain ⟨_, h⟩ := h))) (bd_l_rules_are B D_l_integer hFR hmR).body rd_l_rules_are, hm, F.kp, F.binds (ps := ["_law_told", "_law_due_here"]) fun _ _ _ _ _ _ us hl => match us, hl with | [_, _], _ => rfl⟩
theorem df_l_row_kind (B : Bi mg) (D_l_integer : Df P w K mg base "_law_integer" 1 ["_law_told"] (spD ⟨K, c⟩ fs_l_integer)) (F : Fun K "_law_row_kind" "_law_row_kind" (topS 45) f fd) (hm : mg "_law_row_kind" = some (.ref f)) : Df P w K mg base "_law_row_kind" 2 ["_law_row"] (spD ⟨K, c⟩ fs_l_row_kind) :=
  ⟨f, fd, fn_D F sc_l_row_kind (by intro ds A h; repeat (first | (obtain ⟨rfl, _⟩ := h; rfl) | (obtain ⟨_, h⟩ := h))) (bd_l_row_kind B D_l_integer).body rd_l_row_kind, hm, F.kp, F.binds (ps := ["_law_row"]) fun _ _ _ _ _ _ us hl => match us, hl with | [_], _ => rfl⟩
theorem df_l_right (B : Bi mg) (D_l_side : Df P w K mg base "_law_side" 1 ["_law_terms_here", "_law_one", "_law_two"] (spD ⟨K, c⟩ fs_l_side)) (F : Fun K "_law_right" "_law_right" (topS 46) f fd) (hm : mg "_law_right" = some (.ref f)) : Df P w K mg base "_law_right" 2 ["_law_row", "_law_shelf_here", "_law_count"] (spD ⟨K, c⟩ fs_l_right) :=
  ⟨f, fd, fn_D F sc_l_right (by intro ds A h; repeat (first | (obtain ⟨rfl, _⟩ := h; rfl) | (obtain ⟨_, h⟩ := h))) (bd_l_right B D_l_side).body rd_l_right, hm, F.kp, F.binds (ps := ["_law_row", "_law_shelf_here", "_law_count"]) fun _ _ _ _ _ _ us hl => match us, hl with | [_, _, _], _ => rfl⟩
theorem df_l_least (B : Bi mg) (D_l_right : Df P w K mg base "_law_right" 2 ["_law_row", "_law_shelf_here", "_law_count"] (spD ⟨K, c⟩ fs_l_right)) (F : Fun K "_law_least" "_law_least" (topS 47) f fd) (hm : mg "_law_least" = some (.ref f)) : Df P w K mg base "_law_least" 3 ["_law_row", "_law_shelf_here", "_law_count"] (spD ⟨K, c⟩ fs_l_least) :=
  ⟨f, fd, fn_D F sc_l_least (by intro ds A h; repeat (first | (obtain ⟨rfl, _⟩ := h; rfl) | (obtain ⟨_, h⟩ := h))) (bd_l_least B D_l_right).body rd_l_least, hm, F.kp, F.binds (ps := ["_law_row", "_law_shelf_here", "_law_count"]) fun _ _ _ _ _ _ us hl => match us, hl with | [_, _, _], _ => rfl⟩
theorem df_l_cut_right (B : Bi mg) (D_l_least : Df P w K mg base "_law_least" 3 ["_law_row", "_law_shelf_here", "_law_count"] (spD ⟨K, c⟩ fs_l_least)) (D_l_right : Df P w K mg base "_law_right" 2 ["_law_row", "_law_shelf_here", "_law_count"] (spD ⟨K, c⟩ fs_l_right)) (D_l_row_kind : Df P w K mg base "_law_row_kind" 2 ["_law_row"] (spD ⟨K, c⟩ fs_l_row_kind)) (F : Fun K "_law_cut_right" "_law_cut_right" (topS 48) f fd) (hm : mg "_law_cut_right" = some (.ref f)) : Df P w K mg base "_law_cut_right" 4 ["_law_rows", "_law_shelf_here", "_law_count"] (spD ⟨K, c⟩ fs_l_cut_right) :=
  ⟨f, fd, fn_D F sc_l_cut_right (by intro ds A h; repeat (first | (obtain ⟨rfl, _⟩ := h; rfl) | (obtain ⟨_, h⟩ := h))) (bd_l_cut_right B D_l_least D_l_right D_l_row_kind).body rd_l_cut_right, hm, F.kp, F.binds (ps := ["_law_rows", "_law_shelf_here", "_law_count"]) fun _ _ _ _ _ _ us hl => match us, hl with | [_, _, _], _ => rfl⟩
theorem df_l_begun (B : Bi mg)  (F : Fun K "_law_begun" "_law_begun" (topS 49) f fd) (hm : mg "_law_begun" = some (.ref f)) : Df P w K mg base "_law_begun" 1 ["_law_rows", "_law_terms_here"] (spD ⟨K, c⟩ fs_l_begun) :=
  ⟨f, fd, fn_D F sc_l_begun (by intro ds A h; repeat (first | (obtain ⟨rfl, _⟩ := h; rfl) | (obtain ⟨_, h⟩ := h))) (bd_l_begun B ).body rd_l_begun, hm, F.kp, F.binds (ps := ["_law_rows", "_law_terms_here"]) fun _ _ _ _ _ _ us hl => match us, hl with | [_, _], _ => rfl⟩
theorem df_l_due (B : Bi mg) (D_l_begun : Df P w K mg base "_law_begun" 1 ["_law_rows", "_law_terms_here"] (spD ⟨K, c⟩ fs_l_begun)) (D_l_right : Df P w K mg base "_law_right" 2 ["_law_row", "_law_shelf_here", "_law_count"] (spD ⟨K, c⟩ fs_l_right)) (F : Fun K "_law_due" "_law_due" (topS 50) f fd) (hm : mg "_law_due" = some (.ref f)) : Df P w K mg base "_law_due" 3 ["_law_rows", "_law_shelf_here", "_law_count", "_law_unfit"] (spD ⟨K, c⟩ fs_l_due) :=
  ⟨f, fd, fn_D F sc_l_due (by intro ds A h; repeat (first | (obtain ⟨rfl, _⟩ := h; rfl) | (obtain ⟨_, h⟩ := h))) (bd_l_due B D_l_begun D_l_right).body rd_l_due, hm, F.kp, F.binds (ps := ["_law_rows", "_law_shelf_here", "_law_count", "_law_unfit"]) fun _ _ _ _ _ _ us hl => match us, hl with | [_, _, _, _], _ => rfl⟩
theorem df_l_last_pair (B : Bi mg) (D_l_right : Df P w K mg base "_law_right" 2 ["_law_row", "_law_shelf_here", "_law_count"] (spD ⟨K, c⟩ fs_l_right)) (F : Fun K "_law_last_pair" "_law_last_pair" (topS 51) f fd) (hm : mg "_law_last_pair" = some (.ref f)) : Df P w K mg base "_law_last_pair" 3 ["_law_prefix", "_law_shelf_here", "_law_count"] (spD ⟨K, c⟩ fs_l_last_pair) :=
  ⟨f, fd, fn_D F sc_l_last_pair (by intro ds A h; repeat (first | (obtain ⟨rfl, _⟩ := h; rfl) | (obtain ⟨_, h⟩ := h))) (bd_l_last_pair B D_l_right).body rd_l_last_pair, hm, F.kp, F.binds (ps := ["_law_prefix", "_law_shelf_here", "_law_count"]) fun _ _ _ _ _ _ us hl => match us, hl with | [_, _, _], _ => rfl⟩
theorem df_l_other_prefix (B : Bi mg) (D_l_take : Df P w K mg base "_law_take" 1 ["_law_bag", "_law_size"] (spB ⟨K, c⟩ fs_l_take)) (F : Fun K "_law_other_prefix" "_law_other_prefix" (topS 52) f fd) (hm : mg "_law_other_prefix" = some (.ref f)) : Df P w K mg base "_law_other_prefix" 2 ["_law_bag", "_law_prefix", "_law_kind", "_law_count"] (spB ⟨K, c⟩ fs_l_other_prefix) :=
  ⟨f, fd, fn_B F sc_l_other_prefix (by intro bs ds A h; repeat (first | (obtain ⟨rfl, _⟩ := h; rfl) | (obtain ⟨_, h⟩ := h))) (bd_l_other_prefix B D_l_take).body rd_l_other_prefix, hm, F.kp, F.binds (ps := ["_law_bag", "_law_prefix", "_law_kind", "_law_count"]) fun _ _ _ _ _ _ us hl => match us, hl with | [_, _, _, _], _ => rfl⟩
theorem df_l_other_row (B : Bi mg) (D_l_last_pair : Df P w K mg base "_law_last_pair" 3 ["_law_prefix", "_law_shelf_here", "_law_count"] (spD ⟨K, c⟩ fs_l_last_pair)) (D_l_other_prefix : Df P w K mg base "_law_other_prefix" 2 ["_law_bag", "_law_prefix", "_law_kind", "_law_count"] (spB ⟨K, c⟩ fs_l_other_prefix)) (D_l_take : Df P w K mg base "_law_take" 1 ["_law_bag", "_law_size"] (spB ⟨K, c⟩ fs_l_take)) (F : Fun K "_law_other_row" "_law_other_row" (topS 53) f fd) (hm : mg "_law_other_row" = some (.ref f)) : Df P w K mg base "_law_other_row" 4 ["_law_bag", "_law_row", "_law_kind", "_law_shelf_here", "_law_count"] (spB ⟨K, c⟩ fs_l_other_row) :=
  ⟨f, fd, fn_B F sc_l_other_row (by intro bs ds A h; repeat (first | (obtain ⟨rfl, _⟩ := h; rfl) | (obtain ⟨_, h⟩ := h))) (bd_l_other_row B D_l_last_pair D_l_other_prefix D_l_take).body rd_l_other_row, hm, F.kp, F.binds (ps := ["_law_bag", "_law_row", "_law_kind", "_law_shelf_here", "_law_count"]) fun _ _ _ _ _ _ us hl => match us, hl with | [_, _, _, _, _], _ => rfl⟩
theorem df_l_longer (B : Bi mg) (D_l_last_pair : Df P w K mg base "_law_last_pair" 3 ["_law_prefix", "_law_shelf_here", "_law_count"] (spD ⟨K, c⟩ fs_l_last_pair)) (D_l_right : Df P w K mg base "_law_right" 2 ["_law_row", "_law_shelf_here", "_law_count"] (spD ⟨K, c⟩ fs_l_right)) (F : Fun K "_law_longer" "_law_longer" (topS 54) f fd) (hm : mg "_law_longer" = some (.ref f)) : Df P w K mg base "_law_longer" 4 ["_law_rows", "_law_place", "_law_shelf_here", "_law_count"] (spD ⟨K, c⟩ fs_l_longer) :=
  ⟨f, fd, fn_D F sc_l_longer (by intro ds A h; repeat (first | (obtain ⟨rfl, _⟩ := h; rfl) | (obtain ⟨_, h⟩ := h))) (bd_l_longer B D_l_last_pair D_l_right).body rd_l_longer, hm, F.kp, F.binds (ps := ["_law_rows", "_law_place", "_law_shelf_here", "_law_count"]) fun _ _ _ _ _ _ us hl => match us, hl with | [_, _, _, _], _ => rfl⟩
theorem df_l_changed (B : Bi mg) (D_l_longer : Df P w K mg base "_law_longer" 4 ["_law_rows", "_law_place", "_law_shelf_here", "_law_count"] (spD ⟨K, c⟩ fs_l_longer)) (D_l_other_row : Df P w K mg base "_law_other_row" 4 ["_law_bag", "_law_row", "_law_kind", "_law_shelf_here", "_law_count"] (spB ⟨K, c⟩ fs_l_other_row)) (D_l_take : Df P w K mg base "_law_take" 1 ["_law_bag", "_law_size"] (spB ⟨K, c⟩ fs_l_take)) (F : Fun K "_law_changed" "_law_changed" (topS 55) f fd) (hm : mg "_law_changed" = some (.ref f)) : Df P w K mg base "_law_changed" 5 ["_law_bag", "_law_cut_rows", "_law_turn", "_law_shelf_here", "_law_count"] (spB ⟨K, c⟩ fs_l_changed) :=
  ⟨f, fd, fn_B F sc_l_changed (by intro bs ds A h; repeat (first | (obtain ⟨rfl, _⟩ := h; rfl) | (obtain ⟨_, h⟩ := h))) (bd_l_changed B D_l_longer D_l_other_row D_l_take).body rd_l_changed, hm, F.kp, F.binds (ps := ["_law_bag", "_law_cut_rows", "_law_turn", "_law_shelf_here", "_law_count"]) fun _ _ _ _ _ _ us hl => match us, hl with | [_, _, _, _, _], _ => rfl⟩
theorem df_l_judged_right (B : Bi mg) (D_ShelfCutInit : Dm P w K mg base "ShelfCut" c.CS 1 ["self", "rows"] (spCut ⟨K, c⟩)) (D_judge_cut : Df P w K mg base "judge_cut" 4 ["shelf", "count", "cut"] (spD ⟨K, c⟩ fs_judge_cut)) (D_l_changed : Df P w K mg base "_law_changed" 5 ["_law_bag", "_law_cut_rows", "_law_turn", "_law_shelf_here", "_law_count"] (spB ⟨K, c⟩ fs_l_changed)) (D_l_due : Df P w K mg base "_law_due" 3 ["_law_rows", "_law_shelf_here", "_law_count", "_law_unfit"] (spD ⟨K, c⟩ fs_l_due)) (hFC : ClF K c.CS "rows") (F : Fun K "_law_judged_right" "_law_judged_right" (topS 56) f fd) (hm : mg "_law_judged_right" = some (.ref f)) : Df P w K mg base "_law_judged_right" 6 ["_law_bag", "_law_told", "_law_shelf_here", "_law_handed", "_law_count", "_law_unfit"] (spB ⟨K, c⟩ fs_l_judged_right) :=
  ⟨f, fd, fn_B F sc_l_judged_right (by intro bs ds A h; repeat (first | (obtain ⟨rfl, _⟩ := h; rfl) | (obtain ⟨_, h⟩ := h))) (bd_l_judged_right B D_ShelfCutInit D_judge_cut D_l_changed D_l_due hFC).body rd_l_judged_right, hm, F.kp, F.binds (ps := ["_law_bag", "_law_told", "_law_shelf_here", "_law_handed", "_law_count", "_law_unfit"]) fun _ _ _ _ _ _ us hl => match us, hl with | [_, _, _, _, _, _], _ => rfl⟩
end
end Ab
set_option maxHeartbeats 4000000
namespace Ab
open PySem PySem.Spec PyProof.Rows L2
section
variable {P : Program} {w : World} {K : PySem.W.Frag} {mg : Str → Option Value} {base : Heap} {c : Cl} {f : Addr} {fd : FuncData}
theorem df_ShelfCutInit (B : Bi mg) (hFC : ClF K c.CS "rows") (F : Fun K "__init__" "ShelfCut.__init__" (inClass (topS 21) 0) f fd) (hm : mg "ShelfCut" = some (.ref c.CS)) (hk : Mk K c.CS f) : Dm P w K mg base "ShelfCut" c.CS 1 ["self", "rows"] (spCut ⟨K, c⟩) := by
  refine ⟨f, fd, F.ok sc_ShelfCutInit (fun vs H Q E h => ?_) (fun cdv A outer s H vs Q E hr h => ?_), hm, hk, F.binds (ps := ["self", "rows"]) fun _ _ _ _ _ _ us hl => match us, hl with | [_, _], _ => rfl⟩
  · obtain ⟨x, dx, p, us, rfl, _⟩ := h
    rfl
  · obtain ⟨x, dx, p, us, rfl, hx, hp, q⟩ := h
    refine ⟨_, (show XB (cxOf CX0 P w K mg base N_ShelfCutInit "ShelfCut.__init__" (defScope (inClass (topS 21) 0)) f cdv A outer s H E).nox ⟨K, c⟩ (defBody (inClass (topS 21) 0)) _ _ from bone (sfld hFC.cl hFC.nf (xv 0) (xtuple B (acons (xv 1) anil)))).p, ?_⟩
    refine ⟨.ref p, rfl, p, us, rfl, .inl ⟨.inl (.inl hp), fun t ht => ?_⟩⟩
    have nx : t ≠ x := fun e => by subst e; rw [hx] at ht; cases ht
    refine ⟨.ref x, rfl, x, c.CS, dx, [], rfl, by rw [upd_ne (Ne.symm nx)]; exact hx, hFC.cl, hFC.nf, by decide, ?_⟩
    exact q t ht
theorem rb_none (F : Fun K "rows_behind" "rows_behind" (topS 26) f fd) (hm : mg "rows_behind" = some (.ref f)) : Df P w K mg base "rows_behind" 3 ["prefix", "shelf", "count"] (spD ⟨K, c⟩ fun _ _ => False) :=
  ⟨f, fd, fn_D (as := aNever) (N := N_rows_behind) F sc_rows_behind (fun _ _ h => h.elim) (fun cdv A outer s H E hr => ⟨tNever, pss_never, ss_never⟩) (fun _ _ h => h.elim), hm, F.kp, F.binds (ps := ["prefix", "shelf", "count"]) fun _ _ _ _ _ _ us hl => match us, hl with | [_, _, _], _ => rfl⟩
theorem rb_step (B : Bi mg) (m : Nat) (hm5 : m ≤ 5) (fsr : List D → (D → Prop) → Prop) (hsr : ∀ g ds A, g + 1 ≤ m → fsB g ds A → fsr ds A) {lv : Nat} (hlv : 3 ≤ lv) (D_least_pair : Df P w K mg base "least_pair" 3 ["prefix", "shelf"] (spD ⟨K, c⟩ fs_least_pair)) (D_rows_behind : Df P w K mg base "rows_behind" lv ["prefix", "shelf", "count"] (spD ⟨K, c⟩ fsr)) (D_terms_behind : Df P w K mg base "terms_behind" 1 ["terms", "count"] (spD ⟨K, c⟩ fs_terms_behind))
    (F : Fun K "rows_behind" "rows_behind" (topS 26) f fd) (hm : mg "rows_behind" = some (.ref f)) : Df P w K mg base "rows_behind" (lv + 1) ["prefix", "shelf", "count"] (spD ⟨K, c⟩ (fsR m)) :=
  ⟨f, fd, fn_D F sc_rows_behind (by intro ds A h; repeat (first | (obtain ⟨rfl, _⟩ := h; rfl) | (obtain ⟨_, h⟩ := h))) (bd_rows_behind hlv B D_least_pair D_rows_behind D_terms_behind).body (rd_rows_behind m hm5 fsr hsr), hm, F.kp, F.binds (ps := ["prefix", "shelf", "count"]) fun _ _ _ _ _ _ us hl => match us, hl with | [_, _, _], _ => rfl⟩
theorem df_rows_behind (B : Bi mg) (D_least_pair : Df P w K mg base "least_pair" 3 ["prefix", "shelf"] (spD ⟨K, c⟩ fs_least_pair)) (D_terms_behind : Df P w K mg base "terms_behind" 1 ["terms", "count"] (spD ⟨K, c⟩ fs_terms_behind))
    (F : Fun K "rows_behind" "rows_behind" (topS 26) f fd) (hm : mg "rows_behind" = some (.ref f)) : Df P w K mg base "rows_behind" 7 ["prefix", "shelf", "count"] (spD ⟨K, c⟩ fs_rows_behind) := by
  have r0 := rb_step B 0 (by decide) _ (fun g ds A h _ => absurd h (by omega)) (Nat.le_refl 3) D_least_pair (rb_none (P := P) (w := w) (base := base) (c := c) F hm) D_terms_behind F hm
  have r1 := rb_step B 1 (by decide) _ (fun g ds A h q => ⟨g, by omega, q⟩) (by decide) D_least_pair r0 D_terms_behind F hm
  have r2 := rb_step B 2 (by decide) _ (fun g ds A h q => ⟨g, by omega, q⟩) (by decide) D_least_pair r1 D_terms_behind F hm
  refine ⟨f, fd, fn_D F sc_rows_behind (by intro ds A h; repeat (first | (obtain ⟨rfl, _⟩ := h; rfl) | (obtain ⟨_, h⟩ := h))) (bd_rows_behind (by decide) B D_least_pair r2 D_terms_behind).body (fun ds A h => rd_rows_behind 3 (by decide) (fsR 2) (fun g ds A h q => ⟨g, by omega, q⟩) ds A ?_), hm, F.kp, F.binds (ps := ["prefix", "shelf", "count"]) fun _ _ _ _ _ _ us hl => match us, hl with | [_, _, _], _ => rfl⟩
  obtain ⟨b, sh, n, rfl, hn, hs, h⟩ := h
  have h0 : ∀ t : Term, t ∉ ([] : Pre) := fun t ht => nomatch ht
  exact ⟨n, hn, [], b, sh, n, rfl, hn, fun t ht => absurd ht (h0 t), frees_length [] n, by simp; omega, hs, h⟩
end
end Ab
set_option maxHeartbeats 4000000
namespace Ab
open PySem PySem.Spec PyProof.Rows L2
def spLaw (K : PySem.W.Frag) : Sp := fun vs H Q _ => ∃ (a : Addr) (ns : List Int), vs = [.ref a] ∧ SqL K H a (ns.map V.int) ∧ ns.length ≤ 63 ∧ ∀ H', Q (.bl true) H'
theorem law_imp {K : PySem.W.Frag} {c : Cl} (vs : List V) (H : Hp) (Q : VK) (E : XK) (h : spLaw K vs H Q E) : spD ⟨K, c⟩ fs_law vs H Q E := by
  obtain ⟨a, ns, rfl, hS, hl, q⟩ := h
  refine ⟨H, [.scr ns], fun z => z = .bl true, Same.refl _, .cons (.scr hS) .nil, ⟨ns, rfl, hl, rfl⟩, ?_⟩
  rintro v z G' H' g r rfl
  cases r
  exact q H'
theorem ok_law {P : Program} {w : World} {K : PySem.W.Frag} {mg : Str → Option Value} {base : Heap} {c : Cl} {f : Addr} {fd : FuncData} (B : Bi mg) (D_fitting_rules : Df P w K mg base "fitting_rules" 6 ["shelf", "count"] (spD ⟨K, c⟩ fs_fitting_rules)) (D_judge_cut : Df P w K mg base "judge_cut" 4 ["shelf", "count", "cut"] (spD ⟨K, c⟩ fs_judge_cut)) (D_l_begun : Df P w K mg base "_law_begun" 1 ["_law_rows", "_law_terms_here"] (spD ⟨K, c⟩ fs_l_begun)) (D_l_box : Df P w K mg base "_law_box" 1 ["_law_script", "_law_place"] (spO ⟨K, c⟩ fs_l_box)) (D_l_cut_right : Df P w K mg base "_law_cut_right" 4 ["_law_rows", "_law_shelf_here", "_law_count"] (spD ⟨K, c⟩ fs_l_cut_right)) (D_l_due : Df P w K mg base "_law_due" 3 ["_law_rows", "_law_shelf_here", "_law_count", "_law_unfit"] (spD ⟨K, c⟩ fs_l_due)) (D_l_full : Df P w K mg base "_law_full" 1 ["_law_count"] (spD ⟨K, c⟩ fs_l_full)) (D_l_judged_right : Df P w K mg base "_law_judged_right" 6 ["_law_bag", "_law_told", "_law_shelf_here", "_law_handed", "_law_count", "_law_unfit"] (spB ⟨K, c⟩ fs_l_judged_right)) (D_l_rules_are : Df P w K mg base "_law_rules_are" 2 ["_law_told", "_law_due_here"] (spD ⟨K, c⟩ fs_l_rules_are)) (D_l_shelf : Df P w K mg base "_law_shelf" 3 ["_law_bag", "_law_count"] (spB ⟨K, c⟩ fs_l_shelf)) (D_l_take : Df P w K mg base "_law_take" 1 ["_law_bag", "_law_size"] (spB ⟨K, c⟩ fs_l_take)) (D_l_unsorted : Df P w K mg base "_law_unsorted" 2 ["_law_terms_here", "_law_shelf_here"] (spD ⟨K, c⟩ fs_l_unsorted)) (D_shelf_cut : Df P w K mg base "shelf_cut" 8 ["shelf", "count"] (spD ⟨K, c⟩ fs_shelf_cut)) (hFC : ClF K c.CS "rows") (hmC : mg "ShelfCut" = some (.ref c.CS)) (F : Fun K "law" "law" (topS 57) f fd) : FnOk P w K mg base CX0 9 f fd ["_law_script"] (spLaw K) :=
  (fn_D F sc_law (by intro ds A h; repeat (first | (obtain ⟨rfl, _⟩ := h; rfl) | (obtain ⟨_, h⟩ := h))) (bd_law B D_fitting_rules D_judge_cut D_l_begun D_l_box D_l_cut_right D_l_due D_l_full D_l_judged_right D_l_rules_are D_l_shelf D_l_take D_l_unsorted D_shelf_cut hFC hmC).body rd_law).imp law_imp
theorem all_mk {l : PySem.W.OpenLaw} {w : World} {K : PySem.W.Frag} {h : Heap} {mg : Str → Option Value} {fa CR CS f_is_integer f_is_term f_terms_behind f_term_rows f_compare_by f_RuleInit f_all_rules f_ShelfCutInit f_is_sorted f_fitting_rules f_is_shut_by f_least_pair f_rows_behind f_shelf_cut f_is_prefix f_is_right_row f_begins_with_any f_judge_cut f_l_box f_l_take f_l_integer f_l_value f_l_terms f_l_roll f_l_side f_l_laid f_l_shelf f_l_full f_l_unsorted f_l_rules_are f_l_row_kind f_l_right f_l_least f_l_cut_right f_l_begun f_l_due f_l_last_pair f_l_other_prefix f_l_other_row f_l_longer f_l_changed f_l_judged_right f_law : Addr}
    {od_is_integer an_is_integer od_is_term an_is_term od_terms_behind an_terms_behind od_term_rows an_term_rows od_compare_by an_compare_by od_RuleInit an_RuleInit od_all_rules an_all_rules od_ShelfCutInit an_ShelfCutInit od_is_sorted an_is_sorted od_fitting_rules an_fitting_rules od_is_shut_by an_is_shut_by od_least_pair an_least_pair od_rows_behind an_rows_behind od_shelf_cut an_shelf_cut od_is_prefix an_is_prefix od_is_right_row an_is_right_row od_begins_with_any an_begins_with_any od_judge_cut an_judge_cut od_l_box an_l_box od_l_take an_l_take od_l_integer an_l_integer od_l_value an_l_value od_l_terms an_l_terms od_l_roll an_l_roll od_l_side an_l_side od_l_laid an_l_laid od_l_shelf an_l_shelf od_l_full an_l_full od_l_unsorted an_l_unsorted od_l_rules_are an_l_rules_are od_l_row_kind an_l_row_kind od_l_right an_l_right od_l_least an_l_least od_l_cut_right an_l_cut_right od_l_begun an_l_begun od_l_due an_l_due od_l_last_pair an_l_last_pair od_l_other_prefix an_l_other_prefix od_l_other_row an_l_other_row od_l_longer an_l_longer od_l_changed an_l_changed od_l_judged_right an_l_judged_right od_law an_law : Option Addr} {sl_is_integer sl_is_term sl_terms_behind sl_term_rows sl_compare_by sl_RuleInit sl_all_rules sl_ShelfCutInit sl_is_sorted sl_fitting_rules sl_is_shut_by sl_least_pair sl_rows_behind sl_shelf_cut sl_is_prefix sl_is_right_row sl_begins_with_any sl_judge_cut sl_l_box sl_l_take sl_l_integer sl_l_value sl_l_terms sl_l_roll sl_l_side sl_l_laid sl_l_shelf sl_l_full sl_l_unsorted sl_l_rules_are sl_l_row_kind sl_l_right sl_l_least sl_l_cut_right sl_l_begun sl_l_due sl_l_last_pair sl_l_other_prefix sl_l_other_row sl_l_longer sl_l_changed sl_l_judged_right sl_law : Array (Option Value)}
    {oc_is_integer kV_is_integer dc_is_integer pm_is_integer cd_is_integer ct_is_integer oc_is_term kV_is_term dc_is_term pm_is_term cd_is_term ct_is_term oc_terms_behind kV_terms_behind dc_terms_behind pm_terms_behind cd_terms_behind ct_terms_behind oc_term_rows kV_term_rows dc_term_rows pm_term_rows cd_term_rows ct_term_rows oc_compare_by kV_compare_by dc_compare_by pm_compare_by cd_compare_by ct_compare_by oc_RuleInit kV_RuleInit dc_RuleInit pm_RuleInit cd_RuleInit ct_RuleInit oc_all_rules kV_all_rules dc_all_rules pm_all_rules cd_all_rules ct_all_rules oc_ShelfCutInit kV_ShelfCutInit dc_ShelfCutInit pm_ShelfCutInit cd_ShelfCutInit ct_ShelfCutInit oc_is_sorted kV_is_sorted dc_is_sorted pm_is_sorted cd_is_sorted ct_is_sorted oc_fitting_rules kV_fitting_rules dc_fitting_rules pm_fitting_rules cd_fitting_rules ct_fitting_rules oc_is_shut_by kV_is_shut_by dc_is_shut_by pm_is_shut_by cd_is_shut_by ct_is_shut_by oc_least_pair kV_least_pair dc_least_pair pm_least_pair cd_least_pair ct_least_pair oc_rows_behind kV_rows_behind dc_rows_behind pm_rows_behind cd_rows_behind ct_rows_behind oc_shelf_cut kV_shelf_cut dc_shelf_cut pm_shelf_cut cd_shelf_cut ct_shelf_cut oc_is_prefix kV_is_prefix dc_is_prefix pm_is_prefix cd_is_prefix ct_is_prefix oc_is_right_row kV_is_right_row dc_is_right_row pm_is_right_row cd_is_right_row ct_is_right_row oc_begins_with_any kV_begins_with_any dc_begins_with_any pm_begins_with_any cd_begins_with_any ct_begins_with_any oc_judge_cut kV_judge_cut dc_judge_cut pm_judge_cut cd_judge_cut ct_judge_cut oc_l_box kV_l_box dc_l_box pm_l_box cd_l_box ct_l_box oc_l_take kV_l_take dc_l_take pm_l_take cd_l_take ct_l_take oc_l_integer kV_l_integer dc_l_integer pm_l_integer cd_l_integer ct_l_integer oc_l_value kV_l_value dc_l_value pm_l_value cd_l_value ct_l_value oc_l_terms kV_l_terms dc_l_terms pm_l_terms cd_l_terms ct_l_terms oc_l_roll kV_l_roll dc_l_roll pm_l_roll cd_l_roll ct_l_roll oc_l_side kV_l_side dc_l_side pm_l_side cd_l_side ct_l_side oc_l_laid kV_l_laid dc_l_laid pm_l_laid cd_l_laid ct_l_laid oc_l_shelf kV_l_shelf dc_l_shelf pm_l_shelf cd_l_shelf ct_l_shelf oc_l_full kV_l_full dc_l_full pm_l_full cd_l_full ct_l_full oc_l_unsorted kV_l_unsorted dc_l_unsorted pm_l_unsorted cd_l_unsorted ct_l_unsorted oc_l_rules_are kV_l_rules_are dc_l_rules_are pm_l_rules_are cd_l_rules_are ct_l_rules_are oc_l_row_kind kV_l_row_kind dc_l_row_kind pm_l_row_kind cd_l_row_kind ct_l_row_kind oc_l_right kV_l_right dc_l_right pm_l_right cd_l_right ct_l_right oc_l_least kV_l_least dc_l_least pm_l_least cd_l_least ct_l_least oc_l_cut_right kV_l_cut_right dc_l_cut_right pm_l_cut_right cd_l_cut_right ct_l_cut_right oc_l_begun kV_l_begun dc_l_begun pm_l_begun cd_l_begun ct_l_begun oc_l_due kV_l_due dc_l_due pm_l_due cd_l_due ct_l_due oc_l_last_pair kV_l_last_pair dc_l_last_pair pm_l_last_pair cd_l_last_pair ct_l_last_pair oc_l_other_prefix kV_l_other_prefix dc_l_other_prefix pm_l_other_prefix cd_l_other_prefix ct_l_other_prefix oc_l_other_row kV_l_other_row dc_l_other_row pm_l_other_row cd_l_other_row ct_l_other_row oc_l_longer kV_l_longer dc_l_longer pm_l_longer cd_l_longer ct_l_longer oc_l_changed kV_l_changed dc_l_changed pm_l_changed cd_l_changed ct_l_changed oc_l_judged_right kV_l_judged_right dc_l_judged_right pm_l_judged_right cd_l_judged_right ct_l_judged_right oc_law kV_law dc_law pm_law cd_law ct_law : Value} {gt : Tok}
    (X : K.In h) (G : h.Ns mainGlobals mg) (hfa : mg "law" = some (.ref fa))
    (a_is_integer : PySem.W.nsIn K mainGlobals "is_integer" = some (some (.ref f_is_integer)))
    (l_is_integer : K.lookup f_is_integer = some ⟨oc_is_integer, od_is_integer, .func (PySem.W.fnOf "is_integer" "is_integer" (defArgs (topS 7)) (defBody (topS 7)) (defScope (topS 7)) .none kV_is_integer dc_is_integer pm_is_integer an_is_integer cd_is_integer ct_is_integer), sl_is_integer⟩)
    (c_is_integer : PySem.W.codeIn K cd_is_integer "is_integer" = true)
    (k_is_integer : PySem.W.keepIn K (.ref f_is_integer) = true)
    (a_is_term : PySem.W.nsIn K mainGlobals "is_term" = some (some (.ref f_is_term)))
    (l_is_term : K.lookup f_is_term = some ⟨oc_is_term, od_is_term, .func (PySem.W.fnOf "is_term" "is_term" (defArgs (topS 12)) (defBody (topS 12)) (defScope (topS 12)) .none kV_is_term dc_is_term pm_is_term an_is_term cd_is_term ct_is_term), sl_is_term⟩)
    (c_is_term : PySem.W.codeIn K cd_is_term "is_term" = true)
    (k_is_term : PySem.W.keepIn K (.ref f_is_term) = true)
    (a_terms_behind : PySem.W.nsIn K mainGlobals "terms_behind" = some (some (.ref f_terms_behind)))
    (l_terms_behind : K.lookup f_terms_behind = some ⟨oc_terms_behind, od_terms_behind, .func (PySem.W.fnOf "terms_behind" "terms_behind" (defArgs (topS 15)) (defBody (topS 15)) (defScope (topS 15)) .none kV_terms_behind dc_terms_behind pm_terms_behind an_terms_behind cd_terms_behind ct_terms_behind), sl_terms_behind⟩)
    (c_terms_behind : PySem.W.codeIn K cd_terms_behind "terms_behind" = true)
    (k_terms_behind : PySem.W.keepIn K (.ref f_terms_behind) = true)
    (a_term_rows : PySem.W.nsIn K mainGlobals "term_rows" = some (some (.ref f_term_rows)))
    (l_term_rows : K.lookup f_term_rows = some ⟨oc_term_rows, od_term_rows, .func (PySem.W.fnOf "term_rows" "term_rows" (defArgs (topS 16)) (defBody (topS 16)) (defScope (topS 16)) .none kV_term_rows dc_term_rows pm_term_rows an_term_rows cd_term_rows ct_term_rows), sl_term_rows⟩)
    (c_term_rows : PySem.W.codeIn K cd_term_rows "term_rows" = true)
    (k_term_rows : PySem.W.keepIn K (.ref f_term_rows) = true)
    (a_compare_by : PySem.W.nsIn K mainGlobals "compare_by" = some (some (.ref f_compare_by)))
    (l_compare_by : K.lookup f_compare_by = some ⟨oc_compare_by, od_compare_by, .func (PySem.W.fnOf "compare_by" "compare_by" (defArgs (topS 17)) (defBody (topS 17)) (defScope (topS 17)) .none kV_compare_by dc_compare_by pm_compare_by an_compare_by cd_compare_by ct_compare_by), sl_compare_by⟩)
    (c_compare_by : PySem.W.codeIn K cd_compare_by "compare_by" = true)
    (k_compare_by : PySem.W.keepIn K (.ref f_compare_by) = true)
    (aC_RuleInit : PySem.W.nsIn K mainGlobals "Rule" = some (some (.ref CR)))
    (a_RuleInit : PySem.W.findIn K (.ref CR) "__init__" = some (some (.ref f_RuleInit)))
    (i_RuleInit : PySem.W.isFn K (.ref f_RuleInit) = true)
    (l_RuleInit : K.lookup f_RuleInit = some ⟨oc_RuleInit, od_RuleInit, .func (PySem.W.fnOf "__init__" "Rule.__init__" (defArgs (inClass (topS 18) 0)) (defBody (inClass (topS 18) 0)) (defScope (inClass (topS 18) 0)) .none kV_RuleInit dc_RuleInit pm_RuleInit an_RuleInit cd_RuleInit ct_RuleInit), sl_RuleInit⟩)
    (c_RuleInit : PySem.W.codeIn K cd_RuleInit "Rule.__init__" = true)
    (k_RuleInit : PySem.W.keepIn K (.ref f_RuleInit) = true)
    (pg_RuleInit : PySem.W.plainGet K CR Str.empty = true)
    (hd_RuleInit : PySem.W.hasDictIn K CR = true)
    (po_RuleInit : PySem.W.plainOver K CR = true)
    (sa_RuleInit : PySem.W.findIn K (.ref CR) "__setattr__" = some (some (.builtin "object.__setattr__")))
    (mk_RuleInit : PySem.W.makesIn K CR = true)
    (kc_RuleInit : PySem.W.keepIn K (.ref CR) = true)
    (nf_RuleInit : PySem.W.findIn K (.ref CR) "terms" = some none)
    (ha_RuleInit : PySem.W.findIn K (.ref CR) "__class__" = some (some (.builtin "object.__class__")))
    (hm_RuleInit : PySem.W.mroIn K CR (.type "object") = some true)
    (a_all_rules : PySem.W.nsIn K mainGlobals "all_rules" = some (some (.ref f_all_rules)))
    (l_all_rules : K.lookup f_all_rules = some ⟨oc_all_rules, od_all_rules, .func (PySem.W.fnOf "all_rules" "all_rules" (defArgs (topS 19)) (defBody (topS 19)) (defScope (topS 19)) .none kV_all_rules dc_all_rules pm_all_rules an_all_rules cd_all_rules ct_all_rules), sl_all_rules⟩)
    (c_all_rules : PySem.W.codeIn K cd_all_rules "all_rules" = true)
    (k_all_rules : PySem.W.keepIn K (.ref f_all_rules) = true)
    (aC_ShelfCutInit : PySem.W.nsIn K mainGlobals "ShelfCut" = some (some (.ref CS)))
    (a_ShelfCutInit : PySem.W.findIn K (.ref CS) "__init__" = some (some (.ref f_ShelfCutInit)))
    (i_ShelfCutInit : PySem.W.isFn K (.ref f_ShelfCutInit) = true)
    (l_ShelfCutInit : K.lookup f_ShelfCutInit = some ⟨oc_ShelfCutInit, od_ShelfCutInit, .func (PySem.W.fnOf "__init__" "ShelfCut.__init__" (defArgs (inClass (topS 21) 0)) (defBody (inClass (topS 21) 0)) (defScope (inClass (topS 21) 0)) .none kV_ShelfCutInit dc_ShelfCutInit pm_ShelfCutInit an_ShelfCutInit cd_ShelfCutInit ct_ShelfCutInit), sl_ShelfCutInit⟩)
    (c_ShelfCutInit : PySem.W.codeIn K cd_ShelfCutInit "ShelfCut.__init__" = true)
    (k_ShelfCutInit : PySem.W.keepIn K (.ref f_ShelfCutInit) = true)
    (pg_ShelfCutInit : PySem.W.plainGet K CS Str.empty = true)
    (hd_ShelfCutInit : PySem.W.hasDictIn K CS = true)
    (po_ShelfCutInit : PySem.W.plainOver K CS = true)
    (sa_ShelfCutInit : PySem.W.findIn K (.ref CS) "__setattr__" = some (some (.builtin "object.__setattr__")))
    (mk_ShelfCutInit : PySem.W.makesIn K CS = true)
    (kc_ShelfCutInit : PySem.W.keepIn K (.ref CS) = true)
    (nf_ShelfCutInit : PySem.W.findIn K (.ref CS) "rows" = some none)
    (ha_ShelfCutInit : PySem.W.findIn K (.ref CS) "__class__" = some (some (.builtin "object.__class__")))
    (hm_ShelfCutInit : PySem.W.mroIn K CS (.type "object") = some true)
    (a_is_sorted : PySem.W.nsIn K mainGlobals "is_sorted" = some (some (.ref f_is_sorted)))
    (l_is_sorted : K.lookup f_is_sorted = some ⟨oc_is_sorted, od_is_sorted, .func (PySem.W.fnOf "is_sorted" "is_sorted" (defArgs (topS 22)) (defBody (topS 22)) (defScope (topS 22)) .none kV_is_sorted dc_is_sorted pm_is_sorted an_is_sorted cd_is_sorted ct_is_sorted), sl_is_sorted⟩)
    (c_is_sorted : PySem.W.codeIn K cd_is_sorted "is_sorted" = true)
    (k_is_sorted : PySem.W.keepIn K (.ref f_is_sorted) = true)
    (a_fitting_rules : PySem.W.nsIn K mainGlobals "fitting_rules" = some (some (.ref f_fitting_rules)))
    (l_fitting_rules : K.lookup f_fitting_rules = some ⟨oc_fitting_rules, od_fitting_rules, .func (PySem.W.fnOf "fitting_rules" "fitting_rules" (defArgs (topS 23)) (defBody (topS 23)) (defScope (topS 23)) .none kV_fitting_rules dc_fitting_rules pm_fitting_rules an_fitting_rules cd_fitting_rules ct_fitting_rules), sl_fitting_rules⟩)
    (c_fitting_rules : PySem.W.codeIn K cd_fitting_rules "fitting_rules" = true)
    (k_fitting_rules : PySem.W.keepIn K (.ref f_fitting_rules) = true)
    (a_is_shut_by : PySem.W.nsIn K mainGlobals "is_shut_by" = some (some (.ref f_is_shut_by)))
    (l_is_shut_by : K.lookup f_is_shut_by = some ⟨oc_is_shut_by, od_is_shut_by, .func (PySem.W.fnOf "is_shut_by" "is_shut_by" (defArgs (topS 24)) (defBody (topS 24)) (defScope (topS 24)) .none kV_is_shut_by dc_is_shut_by pm_is_shut_by an_is_shut_by cd_is_shut_by ct_is_shut_by), sl_is_shut_by⟩)
    (c_is_shut_by : PySem.W.codeIn K cd_is_shut_by "is_shut_by" = true)
    (k_is_shut_by : PySem.W.keepIn K (.ref f_is_shut_by) = true)
    (a_least_pair : PySem.W.nsIn K mainGlobals "least_pair" = some (some (.ref f_least_pair)))
    (l_least_pair : K.lookup f_least_pair = some ⟨oc_least_pair, od_least_pair, .func (PySem.W.fnOf "least_pair" "least_pair" (defArgs (topS 25)) (defBody (topS 25)) (defScope (topS 25)) .none kV_least_pair dc_least_pair pm_least_pair an_least_pair cd_least_pair ct_least_pair), sl_least_pair⟩)
    (c_least_pair : PySem.W.codeIn K cd_least_pair "least_pair" = true)
    (k_least_pair : PySem.W.keepIn K (.ref f_least_pair) = true)
    (a_rows_behind : PySem.W.nsIn K mainGlobals "rows_behind" = some (some (.ref f_rows_behind)))
    (l_rows_behind : K.lookup f_rows_behind = some ⟨oc_rows_behind, od_rows_behind, .func (PySem.W.fnOf "rows_behind" "rows_behind" (defArgs (topS 26)) (defBody (topS 26)) (defScope (topS 26)) .none kV_rows_behind dc_rows_behind pm_rows_behind an_rows_behind cd_rows_behind ct_rows_behind), sl_rows_behind⟩)
    (c_rows_behind : PySem.W.codeIn K cd_rows_behind "rows_behind" = true)
    (k_rows_behind : PySem.W.keepIn K (.ref f_rows_behind) = true)
    (a_shelf_cut : PySem.W.nsIn K mainGlobals "shelf_cut" = some (some (.ref f_shelf_cut)))
    (l_shelf_cut : K.lookup f_shelf_cut = some ⟨oc_shelf_cut, od_shelf_cut, .func (PySem.W.fnOf "shelf_cut" "shelf_cut" (defArgs (topS 27)) (defBody (topS 27)) (defScope (topS 27)) .none kV_shelf_cut dc_shelf_cut pm_shelf_cut an_shelf_cut cd_shelf_cut ct_shelf_cut), sl_shelf_cut⟩)
    (c_shelf_cut : PySem.W.codeIn K cd_shelf_cut "shelf_cut" = true)
    (k_shelf_cut : PySem.W.keepIn K (.ref f_shelf_cut) = true)
    (a_is_prefix : PySem.W.nsIn K mainGlobals "is_prefix" = some (some (.ref f_is_prefix)))
    (l_is_prefix : K.lookup f_is_prefix = some ⟨oc_is_prefix, od_is_prefix, .func (PySem.W.fnOf "is_prefix" "is_prefix" (defArgs (topS 28)) (defBody (topS 28)) (defScope (topS 28)) .none kV_is_prefix dc_is_prefix pm_is_prefix an_is_prefix cd_is_prefix ct_is_prefix), sl_is_prefix⟩)
    (c_is_prefix : PySem.W.codeIn K cd_is_prefix "is_prefix" = true)
    (k_is_prefix : PySem.W.keepIn K (.ref f_is_prefix) = true)
    (a_is_right_row : PySem.W.nsIn K mainGlobals "is_right_row" = some (some (.ref f_is_right_row)))
    (l_is_right_row : K.lookup f_is_right_row = some ⟨oc_is_right_row, od_is_right_row, .func (PySem.W.fnOf "is_right_row" "is_right_row" (defArgs (topS 29)) (defBody (topS 29)) (defScope (topS 29)) .none kV_is_right_row dc_is_right_row pm_is_right_row an_is_right_row cd_is_right_row ct_is_right_row), sl_is_right_row⟩)
    (c_is_right_row : PySem.W.codeIn K cd_is_right_row "is_right_row" = true)
    (k_is_right_row : PySem.W.keepIn K (.ref f_is_right_row) = true)
    (a_begins_with_any : PySem.W.nsIn K mainGlobals "begins_with_any" = some (some (.ref f_begins_with_any)))
    (l_begins_with_any : K.lookup f_begins_with_any = some ⟨oc_begins_with_any, od_begins_with_any, .func (PySem.W.fnOf "begins_with_any" "begins_with_any" (defArgs (topS 30)) (defBody (topS 30)) (defScope (topS 30)) .none kV_begins_with_any dc_begins_with_any pm_begins_with_any an_begins_with_any cd_begins_with_any ct_begins_with_any), sl_begins_with_any⟩)
    (c_begins_with_any : PySem.W.codeIn K cd_begins_with_any "begins_with_any" = true)
    (k_begins_with_any : PySem.W.keepIn K (.ref f_begins_with_any) = true)
    (a_judge_cut : PySem.W.nsIn K mainGlobals "judge_cut" = some (some (.ref f_judge_cut)))
    (l_judge_cut : K.lookup f_judge_cut = some ⟨oc_judge_cut, od_judge_cut, .func (PySem.W.fnOf "judge_cut" "judge_cut" (defArgs (topS 31)) (defBody (topS 31)) (defScope (topS 31)) .none kV_judge_cut dc_judge_cut pm_judge_cut an_judge_cut cd_judge_cut ct_judge_cut), sl_judge_cut⟩)
    (c_judge_cut : PySem.W.codeIn K cd_judge_cut "judge_cut" = true)
    (k_judge_cut : PySem.W.keepIn K (.ref f_judge_cut) = true)
    (a_l_box : PySem.W.nsIn K mainGlobals "_law_box" = some (some (.ref f_l_box)))
    (l_l_box : K.lookup f_l_box = some ⟨oc_l_box, od_l_box, .func (PySem.W.fnOf "_law_box" "_law_box" (defArgs (topS 33)) (defBody (topS 33)) (defScope (topS 33)) .none kV_l_box dc_l_box pm_l_box an_l_box cd_l_box ct_l_box), sl_l_box⟩)
    (c_l_box : PySem.W.codeIn K cd_l_box "_law_box" = true)
    (k_l_box : PySem.W.keepIn K (.ref f_l_box) = true)
    (a_l_take : PySem.W.nsIn K mainGlobals "_law_take" = some (some (.ref f_l_take)))
    (l_l_take : K.lookup f_l_take = some ⟨oc_l_take, od_l_take, .func (PySem.W.fnOf "_law_take" "_law_take" (defArgs (topS 34)) (defBody (topS 34)) (defScope (topS 34)) .none kV_l_take dc_l_take pm_l_take an_l_take cd_l_take ct_l_take), sl_l_take⟩)
    (c_l_take : PySem.W.codeIn K cd_l_take "_law_take" = true)
    (k_l_take : PySem.W.keepIn K (.ref f_l_take) = true)
    (a_l_integer : PySem.W.nsIn K mainGlobals "_law_integer" = some (some (.ref f_l_integer)))
    (l_l_integer : K.lookup f_l_integer = some ⟨oc_l_integer, od_l_integer, .func (PySem.W.fnOf "_law_integer" "_law_integer" (defArgs (topS 35)) (defBody (topS 35)) (defScope (topS 35)) .none kV_l_integer dc_l_integer pm_l_integer an_l_integer cd_l_integer ct_l_integer), sl_l_integer⟩)
    (c_l_integer : PySem.W.codeIn K cd_l_integer "_law_integer" = true)
    (k_l_integer : PySem.W.keepIn K (.ref f_l_integer) = true)
    (a_l_value : PySem.W.nsIn K mainGlobals "_law_value" = some (some (.ref f_l_value)))
    (l_l_value : K.lookup f_l_value = some ⟨oc_l_value, od_l_value, .func (PySem.W.fnOf "_law_value" "_law_value" (defArgs (topS 36)) (defBody (topS 36)) (defScope (topS 36)) .none kV_l_value dc_l_value pm_l_value an_l_value cd_l_value ct_l_value), sl_l_value⟩)
    (c_l_value : PySem.W.codeIn K cd_l_value "_law_value" = true)
    (k_l_value : PySem.W.keepIn K (.ref f_l_value) = true)
    (a_l_terms : PySem.W.nsIn K mainGlobals "_law_terms" = some (some (.ref f_l_terms)))
    (l_l_terms : K.lookup f_l_terms = some ⟨oc_l_terms, od_l_terms, .func (PySem.W.fnOf "_law_terms" "_law_terms" (defArgs (topS 37)) (defBody (topS 37)) (defScope (topS 37)) .none kV_l_terms dc_l_terms pm_l_terms an_l_terms cd_l_terms ct_l_terms), sl_l_terms⟩)
    (c_l_terms : PySem.W.codeIn K cd_l_terms "_law_terms" = true)
    (k_l_terms : PySem.W.keepIn K (.ref f_l_terms) = true)
    (a_l_roll : PySem.W.nsIn K mainGlobals "_law_roll" = some (some (.ref f_l_roll)))
    (l_l_roll : K.lookup f_l_roll = some ⟨oc_l_roll, od_l_roll, .func (PySem.W.fnOf "_law_roll" "_law_roll" (defArgs (topS 38)) (defBody (topS 38)) (defScope (topS 38)) .none kV_l_roll dc_l_roll pm_l_roll an_l_roll cd_l_roll ct_l_roll), sl_l_roll⟩)
    (c_l_roll : PySem.W.codeIn K cd_l_roll "_law_roll" = true)
    (k_l_roll : PySem.W.keepIn K (.ref f_l_roll) = true)
    (a_l_side : PySem.W.nsIn K mainGlobals "_law_side" = some (some (.ref f_l_side)))
    (l_l_side : K.lookup f_l_side = some ⟨oc_l_side, od_l_side, .func (PySem.W.fnOf "_law_side" "_law_side" (defArgs (topS 39)) (defBody (topS 39)) (defScope (topS 39)) .none kV_l_side dc_l_side pm_l_side an_l_side cd_l_side ct_l_side), sl_l_side⟩)
    (c_l_side : PySem.W.codeIn K cd_l_side "_law_side" = true)
    (k_l_side : PySem.W.keepIn K (.ref f_l_side) = true)
    (a_l_laid : PySem.W.nsIn K mainGlobals "_law_laid" = some (some (.ref f_l_laid)))
    (l_l_laid : K.lookup f_l_laid = some ⟨oc_l_laid, od_l_laid, .func (PySem.W.fnOf "_law_laid" "_law_laid" (defArgs (topS 40)) (defBody (topS 40)) (defScope (topS 40)) .none kV_l_laid dc_l_laid pm_l_laid an_l_laid cd_l_laid ct_l_laid), sl_l_laid⟩)
    (c_l_laid : PySem.W.codeIn K cd_l_laid "_law_laid" = true)
    (k_l_laid : PySem.W.keepIn K (.ref f_l_laid) = true)
    (a_l_shelf : PySem.W.nsIn K mainGlobals "_law_shelf" = some (some (.ref f_l_shelf)))
    (l_l_shelf : K.lookup f_l_shelf = some ⟨oc_l_shelf, od_l_shelf, .func (PySem.W.fnOf "_law_shelf" "_law_shelf" (defArgs (topS 41)) (defBody (topS 41)) (defScope (topS 41)) .none kV_l_shelf dc_l_shelf pm_l_shelf an_l_shelf cd_l_shelf ct_l_shelf), sl_l_shelf⟩)
    (c_l_shelf : PySem.W.codeIn K cd_l_shelf "_law_shelf" = true)
    (k_l_shelf : PySem.W.keepIn K (.ref f_l_shelf) = true)
    (a_l_full : PySem.W.nsIn K mainGlobals "_law_full" = some (some (.ref f_l_full)))
    (l_l_full : K.lookup f_l_full = some ⟨oc_l_full, od_l_full, .func (PySem.W.fnOf "_law_full" "_law_full" (defArgs (topS 42)) (defBody (topS 42)) (defScope (topS 42)) .none kV_l_full dc_l_full pm_l_full an_l_full cd_l_full ct_l_full), sl_l_full⟩)
    (c_l_full : PySem.W.codeIn K cd_l_full "_law_full" = true)
    (k_l_full : PySem.W.keepIn K (.ref f_l_full) = true)
    (a_l_unsorted : PySem.W.nsIn K mainGlobals "_law_unsorted" = some (some (.ref f_l_unsorted)))
    (l_l_unsorted : K.lookup f_l_unsorted = some ⟨oc_l_unsorted, od_l_unsorted, .func (PySem.W.fnOf "_law_unsorted" "_law_unsorted" (defArgs (topS 43)) (defBody (topS 43)) (defScope (topS 43)) .none kV_l_unsorted dc_l_unsorted pm_l_unsorted an_l_unsorted cd_l_unsorted ct_l_unsorted), sl_l_unsorted⟩)
    (c_l_unsorted : PySem.W.codeIn K cd_l_unsorted "_law_unsorted" = true)
    (k_l_unsorted : PySem.W.keepIn K (.ref f_l_unsorted) = true)
    (a_l_rules_are : PySem.W.nsIn K mainGlobals "_law_rules_are" = some (some (.ref f_l_rules_are)))
    (l_l_rules_are : K.lookup f_l_rules_are = some ⟨oc_l_rules_are, od_l_rules_are, .func (PySem.W.fnOf "_law_rules_are" "_law_rules_are" (defArgs (topS 44)) (defBody (topS 44)) (defScope (topS 44)) .none kV_l_rules_are dc_l_rules_are pm_l_rules_are an_l_rules_are cd_l_rules_are ct_l_rules_are), sl_l_rules_are⟩)
    (c_l_rules_are : PySem.W.codeIn K cd_l_rules_are "_law_rules_are" = true)
    (k_l_rules_are : PySem.W.keepIn K (.ref f_l_rules_are) = true)
    (a_l_row_kind : PySem.W.nsIn K mainGlobals "_law_row_kind" = some (some (.ref f_l_row_kind)))
    (l_l_row_kind : K.lookup f_l_row_kind = some ⟨oc_l_row_kind, od_l_row_kind, .func (PySem.W.fnOf "_law_row_kind" "_law_row_kind" (defArgs (topS 45)) (defBody (topS 45)) (defScope (topS 45)) .none kV_l_row_kind dc_l_row_kind pm_l_row_kind an_l_row_kind cd_l_row_kind ct_l_row_kind), sl_l_row_kind⟩)
    (c_l_row_kind : PySem.W.codeIn K cd_l_row_kind "_law_row_kind" = true)
    (k_l_row_kind : PySem.W.keepIn K (.ref f_l_row_kind) = true)
    (a_l_right : PySem.W.nsIn K mainGlobals "_law_right" = some (some (.ref f_l_right)))
    (l_l_right : K.lookup f_l_right = some ⟨oc_l_right, od_l_right, .func (PySem.W.fnOf "_law_right" "_law_right" (defArgs (topS 46)) (defBody (topS 46)) (defScope (topS 46)) .none kV_l_right dc_l_right pm_l_right an_l_right cd_l_right ct_l_right), sl_l_right⟩)
    (c_l_right : PySem.W.codeIn K cd_l_right "_law_right" = true)
    (k_l_right : PySem.W.keepIn K (.ref f_l_right) = true)
    (a_l_least : PySem.W.nsIn K mainGlobals "_law_least" = some (some (.ref f_l_least)))
    (l_l_least : K.lookup f_l_least = some ⟨oc_l_least, od_l_least, .func (PySem.W.fnOf "_law_least" "_law_least" (defArgs (topS 47)) (defBody (topS 47)) (defScope (topS 47)) .none kV_l_least dc_l_least pm_l_least an_l_least cd_l_least ct_l_least), sl_l_least⟩)
    (c_l_least : PySem.W.codeIn K cd_l_least "_law_least" = true)
    (k_l_least : PySem.W.keepIn K (.ref f_l_least) = true)
    (a_l_cut_right : PySem.W.nsIn K mainGlobals "_law_cut_right" = some (some (.ref f_l_cut_right)))
    (l_l_cut_right : K.lookup f_l_cut_right = some ⟨oc_l_cut_right, od_l_cut_right, .func (PySem.W.fnOf "_law_cut_right" "_law_cut_right" (defArgs (topS 48)) (defBody (topS 48)) (defScope (topS 48)) .none kV_l_cut_right dc_l_cut_right pm_l_cut_right an_l_cut_right cd_l_cut_right ct_l_cut_right), sl_l_cut_right⟩)
    (c_l_cut_right : PySem.W.codeIn K cd_l_cut_right "_law_cut_right" = true)
    (k_l_cut_right : PySem.W.keepIn K (.ref f_l_cut_right) = true)
    (a_l_begun : PySem.W.nsIn K mainGlobals "_law_begun" = some (some (.ref f_l_begun)))
    (l_l_begun : K.lookup f_l_begun = some ⟨oc_l_begun, od_l_begun, .func (PySem.W.fnOf "_law_begun" "_law_begun" (defArgs (topS 49)) (defBody (topS 49)) (defScope (topS 49)) .none kV_l_begun dc_l_begun pm_l_begun an_l_begun cd_l_begun ct_l_begun), sl_l_begun⟩)
    (c_l_begun : PySem.W.codeIn K cd_l_begun "_law_begun" = true)
    (k_l_begun : PySem.W.keepIn K (.ref f_l_begun) = true)
    (a_l_due : PySem.W.nsIn K mainGlobals "_law_due" = some (some (.ref f_l_due)))
    (l_l_due : K.lookup f_l_due = some ⟨oc_l_due, od_l_due, .func (PySem.W.fnOf "_law_due" "_law_due" (defArgs (topS 50)) (defBody (topS 50)) (defScope (topS 50)) .none kV_l_due dc_l_due pm_l_due an_l_due cd_l_due ct_l_due), sl_l_due⟩)
    (c_l_due : PySem.W.codeIn K cd_l_due "_law_due" = true)
    (k_l_due : PySem.W.keepIn K (.ref f_l_due) = true)
    (a_l_last_pair : PySem.W.nsIn K mainGlobals "_law_last_pair" = some (some (.ref f_l_last_pair)))
    (l_l_last_pair : K.lookup f_l_last_pair = some ⟨oc_l_last_pair, od_l_last_pair, .func (PySem.W.fnOf "_law_last_pair" "_law_last_pair" (defArgs (topS 51)) (defBody (topS 51)) (defScope (topS 51)) .none kV_l_last_pair dc_l_last_pair pm_l_last_pair an_l_last_pair cd_l_last_pair ct_l_last_pair), sl_l_last_pair⟩)
    (c_l_last_pair : PySem.W.codeIn K cd_l_last_pair "_law_last_pair" = true)
    (k_l_last_pair : PySem.W.keepIn K (.ref f_l_last_pair) = true)
    (a_l_other_prefix : PySem.W.nsIn K mainGlobals "_law_other_prefix" = some (some (.ref f_l_other_prefix)))
    (l_l_other_prefix : K.lookup f_l_other_prefix = some ⟨oc_l_other_prefix, od_l_other_prefix, .func (PySem.W.fnOf "_law_other_prefix" "_law_other_prefix" (defArgs (topS 52)) (defBody (topS 52)) (defScope (topS 52)) .none kV_l_other_prefix dc_l_other_prefix pm_l_other_prefix an_l_other_prefix cd_l_other_prefix ct_l_other_prefix), sl_l_other_prefix⟩)
    (c_l_other_prefix : PySem.W.codeIn K cd_l_other_prefix "_law_other_prefix" = true)
    (k_l_other_prefix : PySem.W.keepIn K (.ref f_l_other_prefix) = true)
    (a_l_other_row : PySem.W.nsIn K mainGlobals "_law_other_row" = some (some (.ref f_l_other_row)))
    (l_l_other_row : K.lookup f_l_other_row = some ⟨oc_l_other_row, od_l_other_row, .func (PySem.W.fnOf "_law_other_row" "_law_other_row" (defArgs (topS 53)) (defBody (topS 53)) (defScope (topS 53)) .none kV_l_other_row dc_l_other_row pm_l_other_row an_l_other_row cd_l_other_row ct_l_other_row), sl_l_other_row⟩)
    (c_l_other_row : PySem.W.codeIn K cd_l_other_row "_law_other_row" = true)
    (k_l_other_row : PySem.W.keepIn K (.ref f_l_other_row) = true)
    (a_l_longer : PySem.W.nsIn K mainGlobals "_law_longer" = some (some (.ref f_l_longer)))
    (l_l_longer : K.lookup f_l_longer = some ⟨oc_l_longer, od_l_longer, .func (PySem.W.fnOf "_law_longer" "_law_longer" (defArgs (topS 54)) (defBody (topS 54)) (defScope (topS 54)) .none kV_l_longer dc_l_longer pm_l_longer an_l_longer cd_l_longer ct_l_longer), sl_l_longer⟩)
    (c_l_longer : PySem.W.codeIn K cd_l_longer "_law_longer" = true)
    (k_l_longer : PySem.W.keepIn K (.ref f_l_longer) = true)
    (a_l_changed : PySem.W.nsIn K mainGlobals "_law_changed" = some (some (.ref f_l_changed)))
    (l_l_changed : K.lookup f_l_changed = some ⟨oc_l_changed, od_l_changed, .func (PySem.W.fnOf "_law_changed" "_law_changed" (defArgs (topS 55)) (defBody (topS 55)) (defScope (topS 55)) .none kV_l_changed dc_l_changed pm_l_changed an_l_changed cd_l_changed ct_l_changed), sl_l_changed⟩)
    (c_l_changed : PySem.W.codeIn K cd_l_changed "_law_changed" = true)
    (k_l_changed : PySem.W.keepIn K (.ref f_l_changed) = true)
    (a_l_judged_right : PySem.W.nsIn K mainGlobals "_law_judged_right" = some (some (.ref f_l_judged_right)))
    (l_l_judged_right : K.lookup f_l_judged_right = some ⟨oc_l_judged_right, od_l_judged_right, .func (PySem.W.fnOf "_law_judged_right" "_law_judged_right" (defArgs (topS 56)) (defBody (topS 56)) (defScope (topS 56)) .none kV_l_judged_right dc_l_judged_right pm_l_judged_right an_l_judged_right cd_l_judged_right ct_l_judged_right), sl_l_judged_right⟩)
    (c_l_judged_right : PySem.W.codeIn K cd_l_judged_right "_law_judged_right" = true)
    (k_l_judged_right : PySem.W.keepIn K (.ref f_l_judged_right) = true)
    (a_law : PySem.W.nsIn K mainGlobals "law" = some (some (.ref f_law)))
    (l_law : K.lookup f_law = some ⟨oc_law, od_law, .func (PySem.W.fnOf "law" "law" (defArgs (topS 57)) (defBody (topS 57)) (defScope (topS 57)) .none kV_law dc_law pm_law an_law cd_law ct_law), sl_law⟩)
    (c_law : PySem.W.codeIn K cd_law "law" = true)
    (k_law : PySem.W.keepIn K (.ref f_law) = true)
    (hnG : PySem.W.specialIn K (.builtin "object.__class__") "__get__" = some (some (.builtin "getset_descriptor.__get__")))
    (htG : PySem.W.takesIn K (.builtin "object.__class__") = some true)
    (gm : PySem.W.nsIn K mainGlobals "GREATEST_MARK" = some (some (.int 3 gt)))
    (z_len : PySem.W.nsIn K mainGlobals "len" = some none)
    (z_int : PySem.W.nsIn K mainGlobals "int" = some none)
    (z_bool : PySem.W.nsIn K mainGlobals "bool" = some none)
    (z_list : PySem.W.nsIn K mainGlobals "list" = some none)
    (z_tuple : PySem.W.nsIn K mainGlobals "tuple" = some none)
    (z_range : PySem.W.nsIn K mainGlobals "range" = some none)
    (z_enumerate : PySem.W.nsIn K mainGlobals "enumerate" = some none)
    (z_isinstance : PySem.W.nsIn K mainGlobals "isinstance" = some none)
    (z_max : PySem.W.nsIn K mainGlobals "max" = some none)
    (z_min : PySem.W.nsIn K mainGlobals "min" = some none) :
    ∃ fd : FuncData, (∀ (s : Shared) (v : Value), BindsTo s fd ⟨[v], []⟩ [("_law_script", v)]) ∧ ∀ base : Heap, K.In base → base.Ns mainGlobals mg → FnOk l.prog w K mg base CX0 9 fa fd ["_law_script"] (spLaw K) := by
  have e := hfa.symm.trans (PySem.W.mg_of X G a_law)
  cases e
  have B : Bi mg := ⟨PySem.W.mg_none_of X G z_len, PySem.W.mg_none_of X G z_int, PySem.W.mg_none_of X G z_bool, PySem.W.mg_none_of X G z_list, PySem.W.mg_none_of X G z_tuple, PySem.W.mg_none_of X G z_range, PySem.W.mg_none_of X G z_enumerate, PySem.W.mg_none_of X G z_isinstance, PySem.W.mg_none_of X G z_max, PySem.W.mg_none_of X G z_min⟩
  have hFR : ClF K (Cl.mk CR CS).CR "terms" := ⟨⟨pg_RuleInit, hd_RuleInit, po_RuleInit, sa_RuleInit⟩, nf_RuleInit, ha_RuleInit, hnG, htG, hm_RuleInit, if_pos (beq_self_eq_true _)⟩
  have hFC : ClF K (Cl.mk CR CS).CS "rows" := ⟨⟨pg_ShelfCutInit, hd_ShelfCutInit, po_ShelfCutInit, sa_ShelfCutInit⟩, nf_ShelfCutInit, ha_ShelfCutInit, hnG, htG, hm_ShelfCutInit, if_pos (beq_self_eq_true _)⟩
  have hmR : mg "Rule" = some (.ref (Cl.mk CR CS).CR) := PySem.W.mg_of X G aC_RuleInit
  have hmC : mg "ShelfCut" = some (.ref (Cl.mk CR CS).CS) := PySem.W.mg_of X G aC_ShelfCutInit
  have hGM : ∃ t, mg "GREATEST_MARK" = some (.int 3 t) := ⟨_, PySem.W.mg_of X G gm⟩
  refine ⟨PySem.W.fnOf "law" "law" (defArgs (topS 57)) (defBody (topS 57)) (defScope (topS 57)) .none kV_law dc_law pm_law an_law cd_law ct_law, fun s v => .of_eq rfl, fun base _ _ => ?_⟩
  have D_is_integer := df_is_integer (P := l.prog) (w := w) (base := base) (c := Cl.mk CR CS) B  (fun_mk (st := topS 7) l_is_integer c_is_integer k_is_integer) (PySem.W.mg_of X G a_is_integer)
  have D_is_term := df_is_term (P := l.prog) (w := w) (base := base) (c := Cl.mk CR CS) B D_is_integer hGM (fun_mk (st := topS 12) l_is_term c_is_term k_is_term) (PySem.W.mg_of X G a_is_term)
  have D_terms_behind := df_terms_behind (P := l.prog) (w := w) (base := base) (c := Cl.mk CR CS) B  (fun_mk (st := topS 15) l_terms_behind c_terms_behind k_terms_behind) (PySem.W.mg_of X G a_terms_behind)
  have D_term_rows := df_term_rows (P := l.prog) (w := w) (base := base) (c := Cl.mk CR CS) B D_terms_behind (fun_mk (st := topS 16) l_term_rows c_term_rows k_term_rows) (PySem.W.mg_of X G a_term_rows)
  have D_compare_by := df_compare_by (P := l.prog) (w := w) (base := base) (c := Cl.mk CR CS) B  (fun_mk (st := topS 17) l_compare_by c_compare_by k_compare_by) (PySem.W.mg_of X G a_compare_by)
  have D_RuleInit := df_RuleInit (P := l.prog) (w := w) (base := base) (c := Cl.mk CR CS) B D_is_term hFR (fun_mk (st := inClass (topS 18) 0) l_RuleInit c_RuleInit k_RuleInit) hmR ⟨mk_RuleInit, a_RuleInit, i_RuleInit, kc_RuleInit⟩
  have D_all_rules := df_all_rules (P := l.prog) (w := w) (base := base) (c := Cl.mk CR CS) B D_RuleInit D_term_rows (fun_mk (st := topS 19) l_all_rules c_all_rules k_all_rules) (PySem.W.mg_of X G a_all_rules)
  have D_ShelfCutInit := df_ShelfCutInit (P := l.prog) (w := w) (base := base) B hFC (fun_mk (st := inClass (topS 21) 0) l_ShelfCutInit c_ShelfCutInit k_ShelfCutInit) hmC ⟨mk_ShelfCutInit, a_ShelfCutInit, i_ShelfCutInit, kc_ShelfCutInit⟩
  have D_is_sorted := df_is_sorted (P := l.prog) (w := w) (base := base) (c := Cl.mk CR CS) B D_compare_by (fun_mk (st := topS 22) l_is_sorted c_is_sorted k_is_sorted) (PySem.W.mg_of X G a_is_sorted)
  have D_fitting_rules := df_fitting_rules (P := l.prog) (w := w) (base := base) (c := Cl.mk CR CS) B D_all_rules D_is_sorted hFR (fun_mk (st := topS 23) l_fitting_rules c_fitting_rules k_fitting_rules) (PySem.W.mg_of X G a_fitting_rules)
  have D_is_shut_by := df_is_shut_by (P := l.prog) (w := w) (base := base) (c := Cl.mk CR CS) B D_compare_by (fun_mk (st := topS 24) l_is_shut_by c_is_shut_by k_is_shut_by) (PySem.W.mg_of X G a_is_shut_by)
  have D_least_pair := df_least_pair (P := l.prog) (w := w) (base := base) (c := Cl.mk CR CS) B D_is_shut_by (fun_mk (st := topS 25) l_least_pair c_least_pair k_least_pair) (PySem.W.mg_of X G a_least_pair)
  have D_rows_behind := df_rows_behind (P := l.prog) (w := w) (base := base) (c := Cl.mk CR CS) B D_least_pair D_terms_behind (fun_mk (st := topS 26) l_rows_behind c_rows_behind k_rows_behind) (PySem.W.mg_of X G a_rows_behind)
  have D_shelf_cut := df_shelf_cut (P := l.prog) (w := w) (base := base) (c := Cl.mk CR CS) B D_ShelfCutInit D_rows_behind (fun_mk (st := topS 27) l_shelf_cut c_shelf_cut k_shelf_cut) (PySem.W.mg_of X G a_shelf_cut)
  have D_is_prefix := df_is_prefix (P := l.prog) (w := w) (base := base) (c := Cl.mk CR CS) B D_terms_behind (fun_mk (st := topS 28) l_is_prefix c_is_prefix k_is_prefix) (PySem.W.mg_of X G a_is_prefix)
  have D_is_right_row := df_is_right_row (P := l.prog) (w := w) (base := base) (c := Cl.mk CR CS) B D_is_prefix D_is_shut_by (fun_mk (st := topS 29) l_is_right_row c_is_right_row k_is_right_row) (PySem.W.mg_of X G a_is_right_row)
  have D_begins_with_any := df_begins_with_any (P := l.prog) (w := w) (base := base) (c := Cl.mk CR CS) B  (fun_mk (st := topS 30) l_begins_with_any c_begins_with_any k_begins_with_any) (PySem.W.mg_of X G a_begins_with_any)
  have D_judge_cut := df_judge_cut (P := l.prog) (w := w) (base := base) (c := Cl.mk CR CS) B D_begins_with_any D_is_right_row D_is_sorted D_term_rows hFC (fun_mk (st := topS 31) l_judge_cut c_judge_cut k_judge_cut) (PySem.W.mg_of X G a_judge_cut)
  have D_l_box := df_l_box (P := l.prog) (w := w) (base := base) (c := Cl.mk CR CS) B  (fun_mk (st := topS 33) l_l_box c_l_box k_l_box) (PySem.W.mg_of X G a_l_box)
  have D_l_take := df_l_take (P := l.prog) (w := w) (base := base) (c := Cl.mk CR CS) B  (fun_mk (st := topS 34) l_l_take c_l_take k_l_take) (PySem.W.mg_of X G a_l_take)
  have D_l_integer := df_l_integer (P := l.prog) (w := w) (base := base) (c := Cl.mk CR CS) B  (fun_mk (st := topS 35) l_l_integer c_l_integer k_l_integer) (PySem.W.mg_of X G a_l_integer)
  have D_l_value := df_l_value (P := l.prog) (w := w) (base := base) (c := Cl.mk CR CS) B D_l_take (fun_mk (st := topS 36) l_l_value c_l_value k_l_value) (PySem.W.mg_of X G a_l_value)
  have D_l_terms := df_l_terms (P := l.prog) (w := w) (base := base) (c := Cl.mk CR CS) B D_l_take (fun_mk (st := topS 37) l_l_terms c_l_terms k_l_terms) (PySem.W.mg_of X G a_l_terms)
  have D_l_roll := df_l_roll (P := l.prog) (w := w) (base := base) (c := Cl.mk CR CS) B D_l_take (fun_mk (st := topS 38) l_l_roll c_l_roll k_l_roll) (PySem.W.mg_of X G a_l_roll)
  have D_l_side := df_l_side (P := l.prog) (w := w) (base := base) (c := Cl.mk CR CS) B  (fun_mk (st := topS 39) l_l_side c_l_side k_l_side) (PySem.W.mg_of X G a_l_side)
  have D_l_laid := df_l_laid (P := l.prog) (w := w) (base := base) (c := Cl.mk CR CS) B D_l_side (fun_mk (st := topS 40) l_l_laid c_l_laid k_l_laid) (PySem.W.mg_of X G a_l_laid)
  have D_l_shelf := df_l_shelf (P := l.prog) (w := w) (base := base) (c := Cl.mk CR CS) B D_l_laid D_l_roll D_l_take D_l_terms D_l_value (fun_mk (st := topS 41) l_l_shelf c_l_shelf k_l_shelf) (PySem.W.mg_of X G a_l_shelf)
  have D_l_full := df_l_full (P := l.prog) (w := w) (base := base) (c := Cl.mk CR CS) B  (fun_mk (st := topS 42) l_l_full c_l_full k_l_full) (PySem.W.mg_of X G a_l_full)
  have D_l_unsorted := df_l_unsorted (P := l.prog) (w := w) (base := base) (c := Cl.mk CR CS) B D_l_side (fun_mk (st := topS 43) l_l_unsorted c_l_unsorted k_l_unsorted) (PySem.W.mg_of X G a_l_unsorted)
  have D_l_rules_are := df_l_rules_are (P := l.prog) (w := w) (base := base) (c := Cl.mk CR CS) B D_l_integer hFR hmR (fun_mk (st := topS 44) l_l_rules_are c_l_rules_are k_l_rules_are) (PySem.W.mg_of X G a_l_rules_are)
  have D_l_row_kind := df_l_row_kind (P := l.prog) (w := w) (base := base) (c := Cl.mk CR CS) B D_l_integer (fun_mk (st := topS 45) l_l_row_kind c_l_row_kind k_l_row_kind) (PySem.W.mg_of X G a_l_row_kind)
  have D_l_right := df_l_right (P := l.prog) (w := w) (base := base) (c := Cl.mk CR CS) B D_l_side (fun_mk (st := topS 46) l_l_right c_l_right k_l_right) (PySem.W.mg_of X G a_l_right)
  have D_l_least := df_l_least (P := l.prog) (w := w) (base := base) (c := Cl.mk CR CS) B D_l_right (fun_mk (st := topS 47) l_l_least c_l_least k_l_least) (PySem.W.mg_of X G a_l_least)
  have D_l_cut_right := df_l_cut_right (P := l.prog) (w := w) (base := base) (c := Cl.mk CR CS) B D_l_least D_l_right D_l_row_kind (fun_mk (st := topS 48) l_l_cut_right c_l_cut_right k_l_cut_right) (PySem.W.mg_of X G a_l_cut_right)
  have D_l_begun := df_l_begun (P := l.prog) (w := w) (base := base) (c := Cl.mk CR CS) B  (fun_mk (st := topS 49) l_l_begun c_l_begun k_l_begun) (PySem.W.mg_of X G a_l_begun)
  have D_l_due := df_l_due (P := l.prog) (w := w) (base := base) (c := Cl.mk CR CS) B D_l_begun D_l_right (fun_mk (st := topS 50) l_l_due c_l_due k_l_due) (PySem.W.mg_of X G a_l_due)
  have D_l_last_pair := df_l_last_pair (P := l.prog) (w := w) (base := base) (c := Cl.mk CR CS) B D_l_right (fun_mk (st := topS 51) l_l_last_pair c_l_last_pair k_l_last_pair) (PySem.W.mg_of X G a_l_last_pair)
  have D_l_other_prefix := df_l_other_prefix (P := l.prog) (w := w) (base := base) (c := Cl.mk CR CS) B D_l_take (fun_mk (st := topS 52) l_l_other_prefix c_l_other_prefix k_l_other_prefix) (PySem.W.mg_of X G a_l_other_prefix)
  have D_l_other_row := df_l_other_row (P := l.prog) (w := w) (base := base) (c := Cl.mk CR CS) B D_l_last_pair D_l_other_prefix D_l_take (fun_mk (st := topS 53) l_l_other_row c_l_other_row k_l_other_row) (PySem.W.mg_of X G a_l_other_row)
  have D_l_longer := df_l_longer (P := l.prog) (w := w) (base := base) (c := Cl.mk CR CS) B D_l_last_pair D_l_right (fun_mk (st := topS 54) l_l_longer c_l_longer k_l_longer) (PySem.W.mg_of X G a_l_longer)
  have D_l_changed := df_l_changed (P := l.prog) (w := w) (base := base) (c := Cl.mk CR CS) B D_l_longer D_l_other_row D_l_take (fun_mk (st := topS 55) l_l_changed c_l_changed k_l_changed) (PySem.W.mg_of X G a_l_changed)
  have D_l_judged_right := df_l_judged_right (P := l.prog) (w := w) (base := base) (c := Cl.mk CR CS) B D_ShelfCutInit D_judge_cut D_l_changed D_l_due hFC (fun_mk (st := topS 56) l_l_judged_right c_l_judged_right k_l_judged_right) (PySem.W.mg_of X G a_l_judged_right)
  exact ok_law (P := l.prog) (w := w) (base := base) (c := Cl.mk CR CS) B D_fitting_rules D_judge_cut D_l_begun D_l_box D_l_cut_right D_l_due D_l_full D_l_judged_right D_l_rules_are D_l_shelf D_l_take D_l_unsorted D_shelf_cut hFC hmC (fun_mk (st := topS 57) l_law c_law k_law)
end Ab
open PySem PySem.W PyProof.Rows
set_option maxHeartbeats 0 in
open_top head for PySem.Challenge.rw_fittingpasts_k33_whole_rules_or_cut
set_option maxHeartbeats 0 in
theorem PySem.Challenge.cw_fittingpasts_k33_whole_rules_or_cut_holds : PySem.Challenge.rw_fittingpasts_k33_whole_rules_or_cut.Holds :=
  head (by
  k_fill
  refine L2.walk_of (l := PySem.Challenge.rw_fittingpasts_k33_whole_rules_or_cut) (n := 63) (k := 9) (x := "_law_script") (CX := fun _ => L2.CX0) (sp := fun w => Ab.spLaw _) rfl (by decide) rfl ⟨rfl, by decide, by decide⟩ (fun w h Y => PySem.W.kIn_of Y) ?F (fun _ _ a ns hl _ hS => ⟨a, ns, rfl, hS, hl, fun _ => rfl⟩) (fun _ _ _ _ _ h => h)
  case F =>
    intro w mg fa h KX G hmg
    refine' Ab.all_mk KX G hmg ?a_is_integer ?l_is_integer ?c_is_integer ?k_is_integer ?a_is_term ?l_is_term ?c_is_term ?k_is_term ?a_terms_behind ?l_terms_behind ?c_terms_behind ?k_terms_behind ?a_term_rows ?l_term_rows ?c_term_rows ?k_term_rows ?a_compare_by ?l_compare_by ?c_compare_by ?k_compare_by ?aC_RuleInit ?a_RuleInit ?i_RuleInit ?l_RuleInit ?c_RuleInit ?k_RuleInit ?pg_RuleInit ?hd_RuleInit ?po_RuleInit ?sa_RuleInit ?mk_RuleInit ?kc_RuleInit ?nf_RuleInit ?ha_RuleInit ?hm_RuleInit ?a_all_rules ?l_all_rules ?c_all_rules ?k_all_rules ?aC_ShelfCutInit ?a_ShelfCutInit ?i_ShelfCutInit ?l_ShelfCutInit ?c_ShelfCutInit ?k_ShelfCutInit ?pg_ShelfCutInit ?hd_ShelfCutInit ?po_ShelfCutInit ?sa_ShelfCutInit ?mk_ShelfCutInit ?kc_ShelfCutInit ?nf_ShelfCutInit ?ha_ShelfCutInit ?hm_ShelfCutInit ?a_is_sorted ?l_is_sorted ?c_is_sorted ?k_is_sorted ?a_fitting_rules ?l_fitting_rules ?c_fitting_rules ?k_fitting_rules ?a_is_shut_by ?l_is_shut_by ?c_is_shut_by ?k_is_shut_by ?a_least_pair ?l_least_pair ?c_least_pair ?k_least_pair ?a_rows_behind ?l_rows_behind ?c_rows_behind ?k_rows_behind ?a_shelf_cut ?l_shelf_cut ?c_shelf_cut ?k_shelf_cut ?a_is_prefix ?l_is_prefix ?c_is_prefix ?k_is_prefix ?a_is_right_row ?l_is_right_row ?c_is_right_row ?k_is_right_row ?a_begins_with_any ?l_begins_with_any ?c_begins_with_any ?k_begins_with_any ?a_judge_cut ?l_judge_cut ?c_judge_cut ?k_judge_cut ?a_l_box ?l_l_box ?c_l_box ?k_l_box ?a_l_take ?l_l_take ?c_l_take ?k_l_take ?a_l_integer ?l_l_integer ?c_l_integer ?k_l_integer ?a_l_value ?l_l_value ?c_l_value ?k_l_value ?a_l_terms ?l_l_terms ?c_l_terms ?k_l_terms ?a_l_roll ?l_l_roll ?c_l_roll ?k_l_roll ?a_l_side ?l_l_side ?c_l_side ?k_l_side ?a_l_laid ?l_l_laid ?c_l_laid ?k_l_laid ?a_l_shelf ?l_l_shelf ?c_l_shelf ?k_l_shelf ?a_l_full ?l_l_full ?c_l_full ?k_l_full ?a_l_unsorted ?l_l_unsorted ?c_l_unsorted ?k_l_unsorted ?a_l_rules_are ?l_l_rules_are ?c_l_rules_are ?k_l_rules_are ?a_l_row_kind ?l_l_row_kind ?c_l_row_kind ?k_l_row_kind ?a_l_right ?l_l_right ?c_l_right ?k_l_right ?a_l_least ?l_l_least ?c_l_least ?k_l_least ?a_l_cut_right ?l_l_cut_right ?c_l_cut_right ?k_l_cut_right ?a_l_begun ?l_l_begun ?c_l_begun ?k_l_begun ?a_l_due ?l_l_due ?c_l_due ?k_l_due ?a_l_last_pair ?l_l_last_pair ?c_l_last_pair ?k_l_last_pair ?a_l_other_prefix ?l_l_other_prefix ?c_l_other_prefix ?k_l_other_prefix ?a_l_other_row ?l_l_other_row ?c_l_other_row ?k_l_other_row ?a_l_longer ?l_l_longer ?c_l_longer ?k_l_longer ?a_l_changed ?l_l_changed ?c_l_changed ?k_l_changed ?a_l_judged_right ?l_l_judged_right ?c_l_judged_right ?k_l_judged_right ?a_law ?l_law ?c_law ?k_law ?hnG ?htG ?gm ?z_len ?z_int ?z_bool ?z_list ?z_tuple ?z_range ?z_enumerate ?z_isinstance ?z_max ?z_min
    (case a_is_integer => k_is)
    (case l_is_integer => k_is)
    (case c_is_integer => k_is)
    (case k_is_integer => k_is)
    (case a_is_term => k_is)
    (case l_is_term => k_is)
    (case c_is_term => k_is)
    (case k_is_term => k_is)
    (case a_terms_behind => k_is)
    (case l_terms_behind => k_is)
    (case c_terms_behind => k_is)
    (case k_terms_behind => k_is)
    (case a_term_rows => k_is)
    (case l_term_rows => k_is)
    (case c_term_rows => k_is)
    (case k_term_rows => k_is)
    (case a_compare_by => k_is)
    (case l_compare_by => k_is)
    (case c_compare_by => k_is)
    (case k_compare_by => k_is)
    (case aC_RuleInit => k_is)
    (case a_RuleInit => k_is)
    (case i_RuleInit => k_is)
    (case l_RuleInit => k_is)
    (case c_RuleInit => k_is)
    (case k_RuleInit => k_is)
    (case pg_RuleInit => k_is)
    (case hd_RuleInit => k_is)
    (case po_RuleInit => k_is)
    (case sa_RuleInit => k_is)
    (case mk_RuleInit => k_is)
    (case kc_RuleInit => k_is)
    (case nf_RuleInit => k_is)
    (case ha_RuleInit => k_is)
    (case hm_RuleInit => k_is)
    (case a_all_rules => k_is)
    (case l_all_rules => k_is)
    (case c_all_rules => k_is)
    (case k_all_rules => k_is)
    (case aC_ShelfCutInit => k_is)
    (case a_ShelfCutInit => k_is)
    (case i_ShelfCutInit => k_is)
    (case l_ShelfCutInit => k_is)
    (case c_ShelfCutInit => k_is)
    (case k_ShelfCutInit => k_is)
    (case pg_ShelfCutInit => k_is)
    (case hd_ShelfCutInit => k_is)
    (case po_ShelfCutInit => k_is)
    (case sa_ShelfCutInit => k_is)
    (case mk_ShelfCutInit => k_is)
    (case kc_ShelfCutInit => k_is)
    (case nf_ShelfCutInit => k_is)
    (case ha_ShelfCutInit => k_is)
    (case hm_ShelfCutInit => k_is)
    (case a_is_sorted => k_is)
    (case l_is_sorted => k_is)
    (case c_is_sorted => k_is)
    (case k_is_sorted => k_is)
    (case a_fitting_rules => k_is)
    (case l_fitting_rules => k_is)
    (case c_fitting_rules => k_is)
    (case k_fitting_rules => k_is)
    (case a_is_shut_by => k_is)
    (case l_is_shut_by => k_is)
    (case c_is_shut_by => k_is)
    (case k_is_shut_by => k_is)
    (case a_least_pair => k_is)
    (case l_least_pair => k_is)
    (case c_least_pair => k_is)
    (case k_least_pair => k_is)
    (case a_rows_behind => k_is)
    (case l_rows_behind => k_is)
    (case c_rows_behind => k_is)
    (case k_rows_behind => k_is)
    (case a_shelf_cut => k_is)
    (case l_shelf_cut => k_is)
    (case c_shelf_cut => k_is)
    (case k_shelf_cut => k_is)
    (case a_is_prefix => k_is)
    (case l_is_prefix => k_is)
    (case c_is_prefix => k_is)
    (case k_is_prefix => k_is)
    (case a_is_right_row => k_is)
    (case l_is_right_row => k_is)
    (case c_is_right_row => k_is)
    (case k_is_right_row => k_is)
    (case a_begins_with_any => k_is)
    (case l_begins_with_any => k_is)
    (case c_begins_with_any => k_is)
    (case k_begins_with_any => k_is)
    (case a_judge_cut => k_is)
    (case l_judge_cut => k_is)
    (case c_judge_cut => k_is)
    (case k_judge_cut => k_is)
    (case a_l_box => k_is)
    (case l_l_box => k_is)
    (case c_l_box => k_is)
    (case k_l_box => k_is)
    (case a_l_take => k_is)
    (case l_l_take => k_is)
    (case c_l_take => k_is)
    (case k_l_take => k_is)
    (case a_l_integer => k_is)
    (case l_l_integer => k_is)
    (case c_l_integer => k_is)
    (case k_l_integer => k_is)
    (case a_l_value => k_is)
    (case l_l_value => k_is)
    (case c_l_value => k_is)
    (case k_l_value => k_is)
    (case a_l_terms => k_is)
    (case l_l_terms => k_is)
    (case c_l_terms => k_is)
    (case k_l_terms => k_is)
    (case a_l_roll => k_is)
    (case l_l_roll => k_is)
    (case c_l_roll => k_is)
    (case k_l_roll => k_is)
    (case a_l_side => k_is)
    (case l_l_side => k_is)
    (case c_l_side => k_is)
    (case k_l_side => k_is)
    (case a_l_laid => k_is)
    (case l_l_laid => k_is)
    (case c_l_laid => k_is)
    (case k_l_laid => k_is)
    (case a_l_shelf => k_is)
    (case l_l_shelf => k_is)
    (case c_l_shelf => k_is)
    (case k_l_shelf => k_is)
    (case a_l_full => k_is)
    (case l_l_full => k_is)
    (case c_l_full => k_is)
    (case k_l_full => k_is)
    (case a_l_unsorted => k_is)
    (case l_l_unsorted => k_is)
    (case c_l_unsorted => k_is)
    (case k_l_unsorted => k_is)
    (case a_l_rules_are => k_is)
    (case l_l_rules_are => k_is)
    (case c_l_rules_are => k_is)
    (case k_l_rules_are => k_is)
    (case a_l_row_kind => k_is)
    (case l_l_row_kind => k_is)
    (case c_l_row_kind => k_is)
    (case k_l_row_kind => k_is)
    (case a_l_right => k_is)
    (case l_l_right => k_is)
    (case c_l_right => k_is)
    (case k_l_right => k_is)
    (case a_l_least => k_is)
    (case l_l_least => k_is)
    (case c_l_least => k_is)
    (case k_l_least => k_is)
    (case a_l_cut_right => k_is)
    (case l_l_cut_right => k_is)
    (case c_l_cut_right => k_is)
    (case k_l_cut_right => k_is)
    (case a_l_begun => k_is)
    (case l_l_begun => k_is)
    (case c_l_begun => k_is)
    (case k_l_begun => k_is)
    (case a_l_due => k_is)
    (case l_l_due => k_is)
    (case c_l_due => k_is)
    (case k_l_due => k_is)
    (case a_l_last_pair => k_is)
    (case l_l_last_pair => k_is)
    (case c_l_last_pair => k_is)
    (case k_l_last_pair => k_is)
    (case a_l_other_prefix => k_is)
    (case l_l_other_prefix => k_is)
    (case c_l_other_prefix => k_is)
    (case k_l_other_prefix => k_is)
    (case a_l_other_row => k_is)
    (case l_l_other_row => k_is)
    (case c_l_other_row => k_is)
    (case k_l_other_row => k_is)
    (case a_l_longer => k_is)
    (case l_l_longer => k_is)
    (case c_l_longer => k_is)
    (case k_l_longer => k_is)
    (case a_l_changed => k_is)
    (case l_l_changed => k_is)
    (case c_l_changed => k_is)
    (case k_l_changed => k_is)
    (case a_l_judged_right => k_is)
    (case l_l_judged_right => k_is)
    (case c_l_judged_right => k_is)
    (case k_l_judged_right => k_is)
    (case a_law => k_is)
    (case l_law => k_is)
    (case c_law => k_is)
    (case k_law => k_is)
    (case hnG => k_is)
    (case htG => k_is)
    (case gm => k_is)
    (case z_len => k_is)
    (case z_int => k_is)
    (case z_bool => k_is)
    (case z_list => k_is)
    (case z_tuple => k_is)
    (case z_range => k_is)
    (case z_enumerate => k_is)
    (case z_isinstance => k_is)
    (case z_max => k_is)
    (case z_min => k_is))
