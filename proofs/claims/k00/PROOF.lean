import PyProof.Rows.All
import Wide.All
import OpenK.AllK
import Wide.FinOn
import HandS.ForMost
import HandS.ForExc
import HandS.ExcInit
import HandS.ExcIs
import HandS.ExcField
import HandS.IsInst
import HandS.Wide
import HandS.Comp
import HandS.StrMore
import HandS.Style
import HandS.CallSlots
import HandS.Zip
import KE.KTupSum
import KE.Datum
import HandS.ClsMeth
import KE.IntTextLaws
import PySem.Challenge.RW_wheelchorus_k00_what_is_a_number
set_option Elab.async false
set_option linter.all false
set_option maxRecDepth 100000
set_option maxHeartbeats 4000000
/-! Zd, the data layer: plain data D, how values stand for it, results, the relation of the states. -/
namespace Zd
open PySem PySem.Spec PyProof.Rows L2

inductive D where
  | non | bl (b : Bool) | int (i : Int) | str (s : Str)
  | tup (xs : List D) | lst (xs : List D) | rol (xs : List D)
  | cell (n : Nat)
  | obj (c : Str) (ks : List Str) (xs : List D)
  | dic (ks : List Key) (xs : List D)
  | exn (c : Str) (ks : List Str) (xs : List D)
  | junk

/-- what the text has: the written part, the module's names; the exception that a suite holds -/
structure Wd where
  K : PySem.W.Frag
  mg : Str → Option Value
  xi : Option (Addr × Value × Option Addr)

mutual
inductive Rp (W : Wd) (ms : List Addr) (G : Hp) : V → D → Prop
  | non : Rp W ms G .non .non
  | bl (b : Bool) : Rp W ms G (.bl b) (.bl b)
  | int (i : Int) : Rp W ms G (.int i) (.int i)
  | str (s : Str) : Rp W ms G (.str s) (.str s)
  | tup {a : Addr} {vs : List V} {ds : List D} : SqT W.K G a vs → RpL W ms G vs ds → Rp W ms G (.ref a) (.tup ds)
  | lst {a : Addr} {vs : List V} {ds : List D} : G a = some (.lst vs) → RpL W ms G vs ds → Rp W ms G (.ref a) (.lst ds)
  | rol {a : Addr} {vs : List V} {ds : List D} : SqL W.K G a vs → RpL W ms G vs ds → Rp W ms G (.ref a) (.rol ds)
  | cell {a : Addr} {n : Nat} : ms[n]? = some a → Rp W ms G (.ref a) (.cell n)
  | obj {a C dx : Addr} {c : Str} {ks : List Str} {vs : List V} {ds : List D} : W.mg c = some (.ref C) → G a = some (.ins C dx (ks.zip vs)) → ks.length = vs.length → RpL W ms G vs ds → Rp W ms G (.ref a) (.obj c ks ds)
  | dic {a : Addr} {ks : List Key} {vs : List V} {ds : List D} : G a = some (.dK (ks.zip vs)) → ks.length = vs.length → RpL W ms G vs ds → Rp W ms G (.ref a) (.dic ks ds)
  | exn {a C dd : Addr} {c : Str} {ks : List Str} {vs : List V} {ds : List D} : W.xi = some (a, .ref C, some dd) → W.mg c = some (.ref C) → G dd = some (.xd (ks.zip vs)) → ks.length = vs.length → RpL W ms G vs ds → Rp W ms G (.ref a) (.exn c ks ds)
  | junk (v : V) : Rp W ms G v .junk
inductive RpL (W : Wd) (ms : List Addr) (G : Hp) : List V → List D → Prop
  | nil : RpL W ms G [] []
  | cons {v : V} {vs : List V} {d : D} {ds : List D} : Rp W ms G v d → RpL W ms G vs ds → RpL W ms G (v :: vs) (d :: ds)
end

theorem Same.sqT {K : PySem.W.Frag} {H H' : Hp} {a : Addr} {xs : List V} (e : Same H H') (h : SqT K H a xs) : SqT K H' a xs := by
  rcases h with (h | ⟨o, h⟩) | h
  · exact .inl (.inl (e _ _ h))
  · exact .inl (.inr ⟨o, e _ _ h⟩)
  · exact .inr h

section
variable {W W' : Wd} {ms ms' : List Addr} {G G' : Hp}
theorem pre_get {l : List Addr} {n : Nat} {a : Addr} (h : ms[n]? = some a) : (ms ++ l)[n]? = some a := by
  rw [List.getElem?_append_left (List.getElem?_eq_some_iff.mp h).1]; exact h
mutual
theorem Rp.mono (hm : ∃ l, ms' = ms ++ l) (hs : Same G G') (hx : W.xi = none ∨ W'.xi = W.xi) (hK : W'.K = W.K) (hg : W'.mg = W.mg) : ∀ (d : D) (v : V), Rp W ms G v d → Rp W' ms' G' v d
  | .non, _, h => by cases h; exact .non
  | .bl _, _, h => by cases h; exact .bl _
  | .int _, _, h => by cases h; exact .int _
  | .str _, _, h => by cases h; exact .str _
  | .tup ds, _, h => by cases h with | tup a b => exact .tup (by rw [hK]; exact Same.sqT hs a) (RpL.mono hm hs hx hK hg ds _ b)
  | .lst ds, _, h => by cases h with | lst a b => exact .lst (hs _ _ a) (RpL.mono hm hs hx hK hg ds _ b)
  | .rol ds, _, h => by cases h with | rol a b => exact .rol (by rw [hK]; exact Same.seq hs a) (RpL.mono hm hs hx hK hg ds _ b)
  | .cell n, _, h => by cases h with | cell a => obtain ⟨l, rfl⟩ := hm; exact .cell (pre_get a)
  | .obj c ks ds, _, h => by cases h with | obj a b e r => exact .obj (by rw [hg]; exact a) (hs _ _ b) e (RpL.mono hm hs hx hK hg ds _ r)
  | .dic ks ds, _, h => by cases h with | dic b e r => exact .dic (hs _ _ b) e (RpL.mono hm hs hx hK hg ds _ r)
  | .exn c ks ds, _, h => by
    cases h with
    | exn x a b e r =>
      refine .exn ?_ (by rw [hg]; exact a) (hs _ _ b) e (RpL.mono hm hs hx hK hg ds _ r)
      rcases hx with q | q
      · rw [q] at x; cases x
      · rw [q]; exact x
  | .junk, _, _ => .junk _
theorem RpL.mono (hm : ∃ l, ms' = ms ++ l) (hs : Same G G') (hx : W.xi = none ∨ W'.xi = W.xi) (hK : W'.K = W.K) (hg : W'.mg = W.mg) : ∀ (ds : List D) (vs : List V), RpL W ms G vs ds → RpL W' ms' G' vs ds
  | [], _, h => by cases h; exact .nil
  | d :: ds, _, h => by cases h with | cons a b => exact .cons (Rp.mono hm hs hx hK hg d _ a) (RpL.mono hm hs hx hK hg ds _ b)
end
end

mutual
def low (n : Nat) : D → Bool
  | .tup xs => lowL n xs
  | .lst xs => lowL n xs
  | .rol xs => lowL n xs
  | .cell m => decide (m < n)
  | .obj _ _ xs => lowL n xs
  | .dic _ xs => lowL n xs
  | .exn _ _ xs => lowL n xs
  | _ => true
def lowL (n : Nat) : List D → Bool
  | [] => true
  | d :: ds => low n d && lowL n ds
end

section
variable {W : Wd} {ms : List Addr} {G : Hp}
mutual
theorem Rp.take {n : Nat} : ∀ (d : D) (v : V), low n d = true → Rp W ms G v d → Rp W (ms.take n) G v d
  | .non, _, _, h => by cases h; exact .non
  | .bl _, _, _, h => by cases h; exact .bl _
  | .int _, _, _, h => by cases h; exact .int _
  | .str _, _, _, h => by cases h; exact .str _
  | .tup ds, _, l, h => by cases h with | tup a b => exact .tup a (RpL.take ds _ l b)
  | .lst ds, _, l, h => by cases h with | lst a b => exact .lst a (RpL.take ds _ l b)
  | .rol ds, _, l, h => by cases h with | rol a b => exact .rol a (RpL.take ds _ l b)
  | .cell m, _, l, h => by
    cases h with
    | cell a =>
      have q : m < n := of_decide_eq_true l
      exact .cell (by rw [List.getElem?_take_of_lt q]; exact a)
  | .obj c ks ds, _, l, h => by cases h with | obj a b e r => exact .obj a b e (RpL.take ds _ l r)
  | .dic ks ds, _, l, h => by cases h with | dic b e r => exact .dic b e (RpL.take ds _ l r)
  | .exn c ks ds, _, l, h => by cases h with | exn x a b e r => exact .exn x a b e (RpL.take ds _ l r)
  | .junk, _, _, _ => .junk _
theorem RpL.take {n : Nat} : ∀ (ds : List D) (vs : List V), lowL n ds = true → RpL W ms G vs ds → RpL W (ms.take n) G vs ds
  | [], _, _, h => by cases h; exact .nil
  | d :: ds, _, l, h => by
    cases h with
    | cons a b =>
      have q := Bool.and_eq_true_iff.mp l
      exact .cons (Rp.take d _ q.1 a) (RpL.take ds _ q.2 b)
end
theorem RpL.length : ∀ {ds : List D} {vs : List V}, RpL W ms G vs ds → vs.length = ds.length
  | [], _, h => by cases h; rfl
  | d :: ds, _, h => by cases h with | cons a b => simp [RpL.length b]
theorem RpL.get : ∀ {ds : List D} {vs : List V} {i : Nat} {d : D}, RpL W ms G vs ds → ds[i]? = some d → ∃ v, vs[i]? = some v ∧ Rp W ms G v d
  | [], _, _, _, _, e => by simp at e
  | _ :: _, _, 0, _, h, e => by cases h with | cons a b => simp at e; subst e; exact ⟨_, rfl, a⟩
  | _ :: _, _, i + 1, _, h, e => by
    cases h with
    | cons a b =>
      obtain ⟨v, h1, h2⟩ := RpL.get b (i := i) (by simpa using e)
      exact ⟨v, by simpa using h1, h2⟩
theorem RpL.get' {ds : List D} {vs : List V} {i : Nat} {v : V} (h : RpL W ms G vs ds) (e : vs[i]? = some v) : ∃ d, ds[i]? = some d ∧ Rp W ms G v d := by
  have hl := h.length
  have hi : i < ds.length := by rw [← hl]; exact (List.getElem?_eq_some_iff.mp e).1
  obtain ⟨u, h1, h2⟩ := h.get (List.getElem?_eq_getElem hi)
  rw [e] at h1; cases h1
  exact ⟨_, List.getElem?_eq_getElem hi, h2⟩
theorem RpL.append : ∀ {ds es : List D} {vs us : List V}, RpL W ms G vs ds → RpL W ms G us es → RpL W ms G (vs ++ us) (ds ++ es)
  | [], _, _, _, h, k => by cases h; exact k
  | _ :: _, _, _, _, h, k => by cases h with | cons a b => exact .cons a (RpL.append b k)
theorem RpL.set {d : D} {v : V} (r : Rp W ms G v d) : ∀ {ds : List D} {vs : List V} (i : Nat), RpL W ms G vs ds → RpL W ms G (vs.set i v) (ds.set i d)
  | [], _, _, h => by cases h; exact .nil
  | _ :: _, _, 0, h => by cases h with | cons a b => exact .cons r b
  | _ :: _, _, i + 1, h => by cases h with | cons a b => exact .cons a (RpL.set r i b)
theorem RpL.takeN : ∀ {ds : List D} {vs : List V} (n : Nat), RpL W ms G vs ds → RpL W ms G (vs.take n) (ds.take n)
  | _, _, 0, _ => by simp; exact .nil
  | [], _, _ + 1, h => by cases h; exact .nil
  | _ :: _, _, n + 1, h => by cases h with | cons a b => exact .cons a (RpL.takeN n b)
theorem RpL.drop : ∀ {ds : List D} {vs : List V} (n : Nat), RpL W ms G vs ds → RpL W ms G (vs.drop n) (ds.drop n)
  | _, _, 0, h => h
  | [], _, _ + 1, h => by cases h; exact .nil
  | _ :: _, _, n + 1, h => by cases h with | cons a b => exact RpL.drop n b
theorem RpL.rep {d : D} {v : V} (r : Rp W ms G v d) : ∀ n, RpL W ms G (List.replicate n v) (List.replicate n d)
  | 0 => .nil
  | n + 1 => .cons r (RpL.rep r n)
theorem RpL.map {α : Type} {f : α → V} {g : α → D} (h : ∀ a, Rp W ms G (f a) (g a)) : ∀ l : List α, RpL W ms G (l.map f) (l.map g)
  | [] => .nil
  | a :: l => .cons (h a) (RpL.map h l)
theorem RpL.reverse {ds : List D} {vs : List V} (h : RpL W ms G vs ds) : RpL W ms G vs.reverse ds.reverse := by
  induction ds generalizing vs with
  | nil => cases h; exact .nil
  | cons d ds ih =>
    cases h with
    | cons a b =>
      rw [List.reverse_cons, List.reverse_cons]
      exact RpL.append (ih b) (.cons a .nil)
/-- the ints, texts of it -/
theorem RpL.ints {vs : List V} : ∀ {ns : List Int}, RpL W ms G vs (ns.map D.int) → vs = ns.map V.int := by
  induction vs with
  | nil => intro ns h; cases ns with | nil => rfl | cons a b => cases h
  | cons v vs ih =>
    intro ns h
    cases ns with
    | nil => cases h
    | cons a b => cases h with | cons x y => cases x; rw [ih y]; rfl
end

/-! ### the owned objects -/
inductive Cl where
  | lst (xs : List D) | obj (c : Str) (ks : List Str) (xs : List D) | dic (ks : List Key) (xs : List D) | dead
abbrev Sto := List Cl
abbrev Nv := List (Option D)

def era (ms : List Addr) (H : Hp) : Hp := fun a => if a ∈ ms then none else H a
theorem era_in {ms : List Addr} {H : Hp} {a : Addr} (h : a ∈ ms) : era ms H a = none := if_pos h
theorem era_out {ms : List Addr} {H : Hp} {a : Addr} (h : a ∉ ms) : era ms H a = H a := if_neg h
theorem era_same (ms : List Addr) (H : Hp) : Same (era ms H) H := fun a o e => by
  by_cases h : a ∈ ms
  · rw [era_in h] at e; cases e
  · rw [era_out h] at e; exact e
theorem era_nil (H : Hp) : era [] H = H := funext fun a => if_neg (by simp)

def CellOk (W : Wd) (ms : List Addr) (n : Nat) (H : Hp) (a : Addr) : Cl → Prop
  | .lst ds => ∃ vs, H a = some (.lst vs) ∧ RpL W (ms.take n) (era ms H) vs ds
  | .obj c ks ds => ∃ C dx vs, W.mg c = some (.ref C) ∧ H a = some (.ins C dx (ks.zip vs)) ∧ ks.length = vs.length ∧ RpL W (ms.take n) (era ms H) vs ds
  | .dic ks ds => ∃ vs, H a = some (.dK (ks.zip vs)) ∧ ks.length = vs.length ∧ RpL W (ms.take n) (era ms H) vs ds
  | .dead => ∃ o, H a = some o

structure StOk (W : Wd) (ms : List Addr) (S : Sto) (H : Hp) : Prop where
  nd : ms.Nodup
  len : ms.length = S.length
  cell : ∀ n a c, ms[n]? = some a → S[n]? = some c → CellOk W ms n H a c

structure Fut (ms : List Addr) (H : Hp) (ms' : List Addr) (H' : Hp) : Prop where
  ext : ∃ l, ms' = ms ++ l
  same : Same (era ms H) (era ms' H')
theorem Fut.refl (ms : List Addr) (H : Hp) : Fut ms H ms H := ⟨⟨[], by simp⟩, Same.refl _⟩
theorem Fut.trans {ms ms1 ms2 : List Addr} {H H1 H2 : Hp} (a : Fut ms H ms1 H1) (b : Fut ms1 H1 ms2 H2) : Fut ms H ms2 H2 := by
  obtain ⟨⟨l, rfl⟩, s⟩ := a
  obtain ⟨⟨k, rfl⟩, t⟩ := b
  exact ⟨⟨l ++ k, by rw [List.append_assoc]⟩, s.trans t⟩

section
variable {W : Wd} {ms ms' : List Addr} {H H' : Hp} {S S' : Sto}
theorem Rp.fut {v : V} {d : D} (h : Rp W ms (era ms H) v d) (f : Fut ms H ms' H') : Rp W ms' (era ms' H') v d := Rp.mono f.ext f.same (.inr rfl) rfl rfl d v h
theorem RpL.fut {v : List V} {d : List D} (h : RpL W ms (era ms H) v d) (f : Fut ms H ms' H') : RpL W ms' (era ms' H') v d := RpL.mono f.ext f.same (.inr rfl) rfl rfl d v h

theorem StOk.at (s : StOk W ms S H) {n : Nat} {a : Addr} (h : ms[n]? = some a) : ∃ c, S[n]? = some c ∧ CellOk W ms n H a c := by
  have hn : n < S.length := by rw [← s.len]; exact (List.getElem?_eq_some_iff.mp h).1
  exact ⟨_, List.getElem?_eq_getElem hn, s.cell n a _ h (List.getElem?_eq_getElem hn)⟩
theorem StOk.at' (s : StOk W ms S H) {n : Nat} {c : Cl} (h : S[n]? = some c) : ∃ a, ms[n]? = some a ∧ CellOk W ms n H a c := by
  have hn : n < ms.length := by rw [s.len]; exact (List.getElem?_eq_some_iff.mp h).1
  exact ⟨_, List.getElem?_eq_getElem hn, s.cell n _ c (List.getElem?_eq_getElem hn) h⟩
theorem CellOk.there {n : Nat} {a : Addr} {c : Cl} (h : CellOk W ms n H a c) : ∃ o, H a = some o := by
  cases c with
  | lst _ => obtain ⟨_, e, _⟩ := h; exact ⟨_, e⟩
  | obj _ _ _ => obtain ⟨_, _, _, _, e, _⟩ := h; exact ⟨_, e⟩
  | dic _ _ => obtain ⟨_, e, _⟩ := h; exact ⟨_, e⟩
  | dead => exact h
theorem StOk.there (s : StOk W ms S H) {a : Addr} (h : a ∈ ms) : ∃ o, H a = some o := by
  obtain ⟨n, hn⟩ := List.getElem?_of_mem h
  obtain ⟨c, _, k⟩ := s.at hn
  exact k.there
theorem StOk.fresh (s : StOk W ms S H) {a : Addr} (h : H a = none) : a ∉ ms := fun q => by
  obtain ⟨o, e⟩ := s.there q
  rw [h] at e; cases e
theorem CellOk.mono {n : Nat} {a : Addr} {c : Cl} (h : CellOk W ms n H a c) (hp : ∃ l, ms' = ms ++ l) (hn : n ≤ ms.length) (ha : H' a = H a) (hs : Same (era ms H) (era ms' H')) : CellOk W ms' n H' a c := by
  have tk : ms'.take n = ms.take n := by
    obtain ⟨l, rfl⟩ := hp
    exact List.take_append_of_le_length hn
  have mv : ∀ {vs ds}, RpL W (ms.take n) (era ms H) vs ds → RpL W (ms'.take n) (era ms' H') vs ds := fun {vs ds} r => by
    rw [tk]
    exact RpL.mono ⟨[], by simp⟩ hs (.inr rfl) rfl rfl ds vs r
  cases c with
  | lst _ => obtain ⟨vs, e, r⟩ := h; exact ⟨vs, ha.trans e, mv r⟩
  | obj _ _ _ => obtain ⟨C, dx, vs, g, e, l, r⟩ := h; exact ⟨C, dx, vs, g, ha.trans e, l, mv r⟩
  | dic _ _ => obtain ⟨vs, e, l, r⟩ := h; exact ⟨vs, ha.trans e, l, mv r⟩
  | dead => obtain ⟨o, e⟩ := h; exact ⟨o, ha.trans e⟩
theorem nth_le {n : Nat} {a : Addr} (h : ms[n]? = some a) : n ≤ ms.length := Nat.le_of_lt (List.getElem?_eq_some_iff.mp h).1

/-- a new object that is not owned -/
theorem Fut.new {p : Addr} {o : HO} (s : StOk W ms S H) (hp : H p = none) : Fut ms H ms (upd H p o) := by
  refine ⟨⟨[], by simp⟩, fun a u e => ?_⟩
  by_cases h : a ∈ ms
  · rw [era_in h] at e; cases e
  · rw [era_out h] at e ⊢
    rw [upd_ne (ne_of_none e hp)]
    exact e
theorem StOk.new {p : Addr} {o : HO} (s : StOk W ms S H) (hp : H p = none) : StOk W ms S (upd H p o) := by
  refine ⟨s.nd, s.len, fun n a c h k => (s.cell n a c h k).mono ⟨[], by simp⟩ (nth_le h) ?_ (Fut.new s hp).same⟩
  obtain ⟨u, e⟩ := s.there (List.mem_of_getElem? h)
  exact upd_ne (ne_of_none e hp)
theorem era_new {p : Addr} {o : HO} (s : StOk W ms S H) (hp : H p = none) : era ms (upd H p o) p = some o := by
  rw [era_out (s.fresh hp), upd_same]
/-- a new owned object -/
theorem era_snoc {p : Addr} {o : HO} (hp : H p = none) : era (ms ++ [p]) (upd H p o) = era ms H := by
  funext a
  unfold era
  by_cases h : a ∈ ms
  · rw [if_pos h, if_pos (List.mem_append_left _ h)]
  · rw [if_neg h]
    by_cases q : a = p
    · subst q
      rw [if_pos (by simp), hp]
    · rw [if_neg (by simp [h, q]), upd_ne q]
theorem Fut.own {p : Addr} {o : HO} (hp : H p = none) : Fut ms H (ms ++ [p]) (upd H p o) := ⟨⟨[p], rfl⟩, by rw [era_snoc hp]; exact Same.refl _⟩
theorem StOk.own {p : Addr} {o : HO} {c : Cl} (s : StOk W ms S H) (hp : H p = none) (hc : CellOk W (ms ++ [p]) ms.length (upd H p o) p c) : StOk W (ms ++ [p]) (S ++ [c]) (upd H p o) := by
  have np := s.fresh hp
  refine ⟨?_, by simp [s.len], fun n a k h q => ?_⟩
  · rw [List.nodup_append]
    refine ⟨s.nd, by simp, fun x hx y hy e => ?_⟩
    have : y = p := by simpa using hy
    subst this; subst e; exact np hx
  · by_cases hn : n < ms.length
    · rw [List.getElem?_append_left hn] at h
      rw [List.getElem?_append_left (by rw [← s.len]; exact hn)] at q
      refine (s.cell n a k h q).mono ⟨[p], rfl⟩ (nth_le h) ?_ (by rw [era_snoc hp]; exact Same.refl _)
      obtain ⟨u, e⟩ := s.there (List.mem_of_getElem? h)
      exact upd_ne (ne_of_none e hp)
    · have hb : n < (ms ++ [p]).length := (List.getElem?_eq_some_iff.mp h).1
      rw [List.length_append, List.length_singleton] at hb
      have e : n = ms.length := by omega
      subst e
      rw [List.getElem?_append_right (Nat.le_refl _), Nat.sub_self] at h
      rw [s.len, List.getElem?_append_right (Nat.le_refl _), Nat.sub_self] at q
      simp at h q
      subst h; subst q
      exact hc
theorem StOk.ownL {p : Addr} {vs : List V} {ds : List D} (s : StOk W ms S H) (hp : H p = none) (r : RpL W ms (era ms H) vs ds) : StOk W (ms ++ [p]) (S ++ [.lst ds]) (upd H p (.lst vs)) := by
  refine s.own hp ⟨vs, upd_same, ?_⟩
  rw [era_snoc hp, List.take_left' rfl]
  exact r
/-- an owned object is written -/
theorem era_write {p : Addr} {o : HO} (hp : p ∈ ms) : era ms (upd H p o) = era ms H := by
  funext a
  unfold era
  by_cases h : a ∈ ms
  · rw [if_pos h, if_pos h]
  · rw [if_neg h, if_neg h, upd_ne fun e => h (by rw [e]; exact hp)]
theorem Fut.write {p : Addr} {o : HO} (hp : p ∈ ms) : Fut ms H ms (upd H p o) := ⟨⟨[], by simp⟩, by rw [era_write hp]; exact Same.refl _⟩
theorem StOk.write {p : Addr} {n : Nat} {o : HO} {c : Cl} (s : StOk W ms S H) (hp : ms[n]? = some p) (hc : CellOk W ms n (upd H p o) p c) : StOk W ms (S.set n c) (upd H p o) := by
  refine ⟨s.nd, by simp [s.len], fun m a k h q => ?_⟩
  by_cases e : m = n
  · subst e
    rw [hp] at h; cases h
    have hl : m < S.length := by rw [← s.len]; exact (List.getElem?_eq_some_iff.mp hp).1
    rw [List.getElem?_set_self hl] at q
    cases q
    exact hc
  · rw [List.getElem?_set_ne (Ne.symm e)] at q
    refine (s.cell m a k h q).mono ⟨[], by simp⟩ (nth_le h) ?_ (by rw [era_write (List.mem_of_getElem? hp)]; exact Same.refl _)
    refine upd_ne fun z => e ?_
    subst z
    obtain ⟨h1, e1⟩ := List.getElem?_eq_some_iff.mp h
    obtain ⟨h2, e2⟩ := List.getElem?_eq_some_iff.mp hp
    exact (List.getElem_inj s.nd).mp (e1.trans e2.symm)
theorem StOk.writeL {p : Addr} {n : Nat} {vs : List V} {ds : List D} (s : StOk W ms S H) (hp : ms[n]? = some p) (r : RpL W (ms.take n) (era ms H) vs ds) : StOk W ms (S.set n (.lst ds)) (upd H p (.lst vs)) := by
  refine s.write hp ⟨vs, upd_same, ?_⟩
  rw [era_write (List.mem_of_getElem? hp)]
  exact r
theorem take_ext (n : Nat) : ∃ l, ms = ms.take n ++ l := ⟨ms.drop n, (List.take_append_drop n ms).symm⟩
/-- what a cell holds, read -/
theorem StOk.readL (s : StOk W ms S H) {n : Nat} {a : Addr} {ds : List D} (h : ms[n]? = some a) (k : S[n]? = some (.lst ds)) : ∃ vs, H a = some (.lst vs) ∧ RpL W ms (era ms H) vs ds := by
  obtain ⟨vs, e, r⟩ := s.cell n a _ h k
  exact ⟨vs, e, RpL.mono (take_ext n) (Same.refl _) (.inr rfl) rfl rfl ds vs r⟩
theorem StOk.readO (s : StOk W ms S H) {n : Nat} {a : Addr} {c : Str} {ks : List Str} {ds : List D} (h : ms[n]? = some a) (k : S[n]? = some (.obj c ks ds)) :
    ∃ C dx vs, W.mg c = some (.ref C) ∧ H a = some (.ins C dx (ks.zip vs)) ∧ ks.length = vs.length ∧ RpL W ms (era ms H) vs ds := by
  obtain ⟨C, dx, vs, g, e, l, r⟩ := s.cell n a _ h k
  exact ⟨C, dx, vs, g, e, l, RpL.mono (take_ext n) (Same.refl _) (.inr rfl) rfl rfl ds vs r⟩
/-- the last cells are let go: they stay as they are -/
theorem era_take (s : StOk W ms S H) (n : Nat) : Same (era ms H) (era (ms.take n) H) := fun a o e => by
  by_cases h : a ∈ ms
  · rw [era_in h] at e; cases e
  · rw [era_out h] at e
    rw [era_out fun q => h (List.mem_of_mem_take q)]
    exact e
theorem StOk.take (s : StOk W ms S H) (n : Nat) : StOk W (ms.take n) (S.take n) H := by
  refine ⟨s.nd.sublist (List.take_sublist n ms), by simp [s.len], fun m a c h k => ?_⟩
  have hm : m < n := by
    have := (List.getElem?_eq_some_iff.mp h).1
    rw [List.length_take] at this
    omega
  rw [List.getElem?_take_of_lt hm] at h k
  have tk : (ms.take n).take m = ms.take m := by rw [List.take_take]; congr 1; omega
  have mv : ∀ {vs ds}, RpL W (ms.take m) (era ms H) vs ds → RpL W ((ms.take n).take m) (era (ms.take n) H) vs ds := fun {vs ds} r => by
    rw [tk]
    exact RpL.mono ⟨[], by simp⟩ (era_take s n) (.inr rfl) rfl rfl ds vs r
  have q := s.cell m a c h k
  cases c with
  | lst _ => obtain ⟨vs, e, r⟩ := q; exact ⟨vs, e, mv r⟩
  | obj _ _ _ => obtain ⟨C, dx, vs, g, e, l, r⟩ := q; exact ⟨C, dx, vs, g, e, l, mv r⟩
  | dic _ _ => obtain ⟨vs, e, l, r⟩ := q; exact ⟨vs, e, l, mv r⟩
  | dead => exact q
theorem Fut.drop (s : StOk W ms' S' H') {n : Nat} (hn : n = ms.length) (f : Fut ms H ms' H') : ms'.take n = ms ∧ Fut ms H ms H' := by
  obtain ⟨⟨l, rfl⟩, q⟩ := f
  have e : (ms ++ l).take n = ms := by rw [hn]; exact List.take_left' rfl
  refine ⟨e, ⟨[], by simp⟩, fun a o z => ?_⟩
  have w := era_take s n a o (q a o z)
  rw [e] at w
  exact w
end

/-! ### letting go: what hangs on the new cells is data from then on -/
mutual
def sub (h : Nat → D) : D → D
  | .tup xs => .tup (subL h xs)
  | .lst xs => .lst (subL h xs)
  | .rol xs => .rol (subL h xs)
  | .cell m => h m
  | .obj c ks xs => .obj c ks (subL h xs)
  | .dic ks xs => .dic ks (subL h xs)
  | .exn c ks xs => .exn c ks (subL h xs)
  | .non => .non
  | .bl b => .bl b
  | .int i => .int i
  | .str s => .str s
  | .junk => .junk
def subL (h : Nat → D) : List D → List D
  | [] => []
  | d :: ds => sub h d :: subL h ds
end
def fz (n0 : Nat) (S : Sto) : Nat → D → D
  | 0 => sub fun n => if n < n0 then .cell n else .junk
  | k + 1 => sub fun n => if n < n0 then .cell n else match S[n]? with
    | some (.lst ds) => .lst (ds.map (fz n0 S k))
    | some (.obj c ks ds) => .obj c ks (ds.map (fz n0 S k))
    | some (.dic ks ds) => .dic ks (ds.map (fz n0 S k))
    | _ => .junk

section
variable {W : Wd} {ms : List Addr} {H : Hp} {S : Sto} {G : Hp} {ms' : List Addr}
mutual
theorem Rp.sub {h : Nat → D} (hc : ∀ n a, ms[n]? = some a → Rp W ms' G (.ref a) (h n)) : ∀ (d : D) (v : V), Rp W ms G v d → Rp W ms' G v (sub h d)
  | .non, _, k => by cases k; exact .non
  | .bl _, _, k => by cases k; exact .bl _
  | .int _, _, k => by cases k; exact .int _
  | .str _, _, k => by cases k; exact .str _
  | .tup ds, _, k => by cases k with | tup a b => exact .tup a (RpL.sub hc ds _ b)
  | .lst ds, _, k => by cases k with | lst a b => exact .lst a (RpL.sub hc ds _ b)
  | .rol ds, _, k => by cases k with | rol a b => exact .rol a (RpL.sub hc ds _ b)
  | .cell m, _, k => by cases k with | cell a => exact hc m _ a
  | .obj c ks ds, _, k => by cases k with | obj a b e r => exact .obj a b e (RpL.sub hc ds _ r)
  | .dic ks ds, _, k => by cases k with | dic b e r => exact .dic b e (RpL.sub hc ds _ r)
  | .exn c ks ds, _, k => by cases k with | exn x a b e r => exact .exn x a b e (RpL.sub hc ds _ r)
  | .junk, _, _ => .junk _
theorem RpL.sub {h : Nat → D} (hc : ∀ n a, ms[n]? = some a → Rp W ms' G (.ref a) (h n)) : ∀ (ds : List D) (vs : List V), RpL W ms G vs ds → RpL W ms' G vs (subL h ds)
  | [], _, k => by cases k; exact .nil
  | d :: ds, _, k => by cases k with | cons a b => exact .cons (Rp.sub hc d _ a) (RpL.sub hc ds _ b)
end
theorem RpL.mapD {G' : Hp} {f : D → D} (hf : ∀ d v, Rp W ms G v d → Rp W ms' G' v (f d)) : ∀ {ds : List D} {vs : List V}, RpL W ms G vs ds → RpL W ms' G' vs (ds.map f)
  | [], _, h => by cases h; exact .nil
  | _ :: _, _, h => by cases h with | cons a b => exact .cons (hf _ _ a) (RpL.mapD hf b)
theorem Rp.fz (s : StOk W ms S H) (n0 : Nat) : ∀ (k : Nat) (d : D) (v : V), Rp W ms (era ms H) v d → Rp W (ms.take n0) (era (ms.take n0) H) v (fz n0 S k d) := by
  have up := era_take s n0
  have lo : ∀ n a, n < n0 → ms[n]? = some a → Rp W (ms.take n0) (era (ms.take n0) H) (.ref a) (.cell n) := fun n a hn h => .cell (by rw [List.getElem?_take_of_lt hn]; exact h)
  have hi : ∀ n a, ¬ n < n0 → ms[n]? = some a → a ∉ ms.take n0 := fun n a hn h q => by
    obtain ⟨m, hm⟩ := List.getElem?_of_mem q
    have hlt : m < n0 := by
      have := (List.getElem?_eq_some_iff.mp hm).1
      rw [List.length_take] at this
      omega
    rw [List.getElem?_take_of_lt hlt] at hm
    obtain ⟨h1, e1⟩ := List.getElem?_eq_some_iff.mp h
    obtain ⟨h2, e2⟩ := List.getElem?_eq_some_iff.mp hm
    have := (List.getElem_inj s.nd).mp (e1.trans e2.symm)
    omega
  have g0 : ∀ {h : Nat → D}, (∀ n a, ms[n]? = some a → Rp W (ms.take n0) (era (ms.take n0) H) (.ref a) (h n)) → ∀ (d : D) (v : V), Rp W ms (era ms H) v d → Rp W (ms.take n0) (era (ms.take n0) H) v (Zd.sub h d) := fun {h} hc d v r =>
    Rp.sub hc d v (Rp.mono ⟨[], by simp⟩ up (.inr rfl) rfl rfl d v r)
  intro k
  induction k with
  | zero =>
    refine g0 fun n a h => ?_
    by_cases hn : n < n0
    · rw [if_pos hn]; exact lo n a hn h
    · rw [if_neg hn]; exact .junk _
  | succ k ih =>
    refine g0 fun n a h => ?_
    by_cases hn : n < n0
    · rw [if_pos hn]; exact lo n a hn h
    · rw [if_neg hn]
      obtain ⟨c, hc, q⟩ := s.at h
      have ha := hi n a hn h
      rw [hc]
      have mv : ∀ {vs ds}, RpL W (ms.take n) (era ms H) vs ds → RpL W (ms.take n0) (era (ms.take n0) H) vs (ds.map (Zd.fz n0 S k)) := fun {vs ds} r =>
        RpL.mapD ih (RpL.mono (take_ext n) (Same.refl _) (.inr rfl) rfl rfl ds vs r)
      cases c with
      | lst ds => obtain ⟨vs, e, r⟩ := q; exact .lst (by rw [era_out ha]; exact e) (mv r)
      | obj c ks ds => obtain ⟨C, dx, vs, g, e, l, r⟩ := q; exact .obj g (by rw [era_out ha]; exact e) l (mv r)
      | dic ks ds => obtain ⟨vs, e, l, r⟩ := q; exact .dic (by rw [era_out ha]; exact e) l (mv r)
      | dead => exact .junk _
end
end Zd

set_option Elab.async false
set_option linter.all false
set_option maxRecDepth 100000
set_option maxHeartbeats 4000000
set_option autoImplicit false
/-! Zd, the rules: expressions, tests, statements as functions over data. -/
namespace Zd
open PySem PySem.Spec L2
open PyProof.Rows hiding St

/-- a ≤ b, not to be reckoned with by the kernel -/
def NLe (a b : Nat) : Prop := a ≤ b
noncomputable instance {a b : Nat} : Decidable (NLe a b) := Classical.propDecidable _
/-- p, not to be reckoned with by the kernel -/
def Bd (p : Prop) : Prop := p
noncomputable instance {p : Prop} : Decidable (Bd p) := Classical.propDecidable _
/-! ### results -/
inductive R (α : Type) where
  | ok (a : α) (S : Sto)
  | exc (c : Str) (ks : List Str) (ds : List D) (S : Sto)
  | bad
inductive SR where
  | nx (ρ : Nv) (S : Sto)
  | rt (d : D) (S : Sto)
  | bk (ρ : Nv) (S : Sto)
  | ct (ρ : Nv) (S : Sto)
  | exc (c : Str) (ks : List Str) (ds : List D) (ρ : Nv) (S : Sto)
  | bad
def R.bind {α β : Type} (r : R α) (k : α → Sto → R β) : R β := match r with
  | .ok a S => k a S
  | .exc c ks ds S => .exc c ks ds S
  | .bad => .bad
theorem R.bind_ok {α β : Type} {a : α} {S : Sto} {k : α → Sto → R β} : (R.ok a S).bind k = k a S := rfl
theorem R.bind_exc {α β : Type} {c : Str} {ks : List Str} {ds : List D} {S : Sto} {k : α → Sto → R β} : (R.exc c ks ds S : R α).bind k = .exc c ks ds S := rfl
theorem R.bind_bad {α β : Type} {k : α → Sto → R β} : (R.bad : R α).bind k = .bad := rfl
/-- into a statement's result -/
def R.st {α : Type} (r : R α) (ρ : Nv) (k : α → Sto → SR) : SR := match r with
  | .ok a S => k a S
  | .exc c ks ds S => .exc c ks ds ρ S
  | .bad => .bad
theorem R.st_ok {α : Type} {a : α} {S : Sto} {ρ : Nv} {k : α → Sto → SR} : (R.ok a S).st ρ k = k a S := rfl
theorem R.st_exc {α : Type} {c : Str} {ks : List Str} {ds : List D} {S : Sto} {ρ : Nv} {k : α → Sto → SR} : (R.exc c ks ds S : R α).st ρ k = .exc c ks ds ρ S := rfl
def SR.seq (r : SR) (k : Nv → Sto → SR) : SR := match r with
  | .nx ρ S => k ρ S
  | r => r
theorem SR.seq_nx {ρ : Nv} {S : Sto} {k : Nv → Sto → SR} : (SR.nx ρ S).seq k = k ρ S := rfl
theorem SR.seq_rt {d : D} {S : Sto} {k : Nv → Sto → SR} : (SR.rt d S).seq k = .rt d S := rfl
theorem SR.seq_exc {c : Str} {ks : List Str} {ds : List D} {ρ : Nv} {S : Sto} {k : Nv → Sto → SR} : (SR.exc c ks ds ρ S).seq k = .exc c ks ds ρ S := rfl
theorem SR.seq_bk {ρ : Nv} {S : Sto} {k : Nv → Sto → SR} : (SR.bk ρ S).seq k = .bk ρ S := rfl
theorem SR.seq_ct {ρ : Nv} {S : Sto} {k : Nv → Sto → SR} : (SR.ct ρ S).seq k = .ct ρ S := rfl

/-- a loop's turn r, then k -/
def SR.turn (r : SR) (k : Nv → Sto → SR) : SR := match r with
  | .nx ρ S => k ρ S
  | .ct ρ S => k ρ S
  | .bk ρ S => .nx ρ S
  | r => r
theorem SR.turn_nx {ρ : Nv} {S : Sto} {k : Nv → Sto → SR} : (SR.nx ρ S).turn k = k ρ S := rfl
theorem SR.turn_ct {ρ : Nv} {S : Sto} {k : Nv → Sto → SR} : (SR.ct ρ S).turn k = k ρ S := rfl
theorem SR.turn_bk {ρ : Nv} {S : Sto} {k : Nv → Sto → SR} : (SR.bk ρ S).turn k = .nx ρ S := rfl
theorem SR.turn_rt {d : D} {S : Sto} {k : Nv → Sto → SR} : (SR.rt d S).turn k = .rt d S := rfl
theorem SR.turn_exc {c : Str} {ks : List Str} {ds : List D} {ρ : Nv} {S : Sto} {k : Nv → Sto → SR} : (SR.exc c ks ds ρ S).turn k = .exc c ks ds ρ S := rfl
abbrev F (α : Type) := Nv → Sto → R α
abbrev EF := F D
abbrev SF := Nv → Sto → SR

/-! ### what is wanted of a result -/
/-- an exception lies so -/
structure Xr (W : Wd) (ms : List Addr) (H : Hp) (c : Str) (ks : List Str) (ds : List D) (C dd : Addr) : Prop where
  g : W.mg c = some (.ref C)
  at_ : ∃ vs, era ms H dd = some (.xd (ks.zip vs)) ∧ ks.length = vs.length ∧ RpL W ms (era ms H) vs ds
def Post {α β : Type} (W : Wd) (Rel : List Addr → Hp → β → α → Prop) (ms : List Addr) (H : Hp) (r : R α) (Q : β → Hp → Prop) (E : XK) : Prop := match r with
  | .ok a S' => ∀ b ms' H', Fut ms H ms' H' → StOk W ms' S' H' → Rel ms' (era ms' H') b a → Q b H'
  | .exc c ks ds S' => ∀ C dd ms' H', Fut ms H ms' H' → StOk W ms' S' H' → Xr W ms' H' c ks ds C dd → E (.ref C) (some dd) H'
  | .bad => False
structure Ev (W : Wd) (ρ : Nv) (σ : St) (ms : List Addr) (H : Hp) : Prop where
  len : ρ.length = σ.length
  get : ∀ (i : Nat) (d : D), ρ[i]? = some (some d) → ∃ v, σ[i]? = some (some v) ∧ Rp W ms (era ms H) v d
def PostS (W : Wd) (ms : List Addr) (H : Hp) (r : SR) (D : Ends) (Wx : WX) : Prop := match r with
  | .nx ρ S' => ∀ σ ms' H', Fut ms H ms' H' → StOk W ms' S' H' → Ev W ρ σ ms' H' → D.nx σ H'
  | .rt d S' => ∀ v ms' H', Fut ms H ms' H' → StOk W ms' S' H' → Rp W ms' (era ms' H') v d → D.rt v H'
  | .bk ρ S' => ∀ σ ms' H', Fut ms H ms' H' → StOk W ms' S' H' → Ev W ρ σ ms' H' → D.bk σ H'
  | .ct ρ S' => ∀ σ ms' H', Fut ms H ms' H' → StOk W ms' S' H' → Ev W ρ σ ms' H' → D.ct σ H'
  | .exc c ks ds ρ S' => ∀ σ C dd ms' H', Fut ms H ms' H' → StOk W ms' S' H' → Ev W ρ σ ms' H' → Xr W ms' H' c ks ds C dd → Wx (.ref C) (some dd) σ H'
  | .bad => False

section
variable {W : Wd} {ms ms' : List Addr} {H H' : Hp} {ρ : Nv} {σ : St} {S : Sto}
theorem Ev.fut (e : Ev W ρ σ ms H) (f : Fut ms H ms' H') : Ev W ρ σ ms' H' := ⟨e.len, fun i d h => let ⟨v, a, b⟩ := e.get i d h; ⟨v, a, b.fut f⟩⟩
theorem Ev.set (e : Ev W ρ σ ms H) {v : V} {d : D} (r : Rp W ms (era ms H) v d) (i : Nat) : Ev W (ρ.set i (some d)) (σ.set i (some v)) ms H := by
  refine ⟨by simp [e.len], fun j x h => ?_⟩
  by_cases hj : j = i
  · subst hj
    have hl : j < ρ.length := by
      have := (List.getElem?_eq_some_iff.mp h).1
      simpa using this
    rw [List.getElem?_set_self hl] at h
    cases h
    exact ⟨v, by rw [List.getElem?_set_self (by rw [← e.len]; exact hl)], r⟩
  · rw [List.getElem?_set_ne (Ne.symm hj)] at h
    obtain ⟨u, a, b⟩ := e.get j x h
    exact ⟨u, by rw [List.getElem?_set_ne (Ne.symm hj)]; exact a, b⟩
theorem Ev.unset (e : Ev W ρ σ ms H) (i : Nat) : Ev W (ρ.set i none) (σ.set i none) ms H := by
  refine ⟨by simp [e.len], fun j x h => ?_⟩
  by_cases hj : j = i
  · subst hj
    by_cases hl : j < ρ.length
    · rw [List.getElem?_set_self hl] at h; cases h
    · rw [List.getElem?_eq_none (by simpa using hl)] at h; cases h
  · rw [List.getElem?_set_ne (Ne.symm hj)] at h
    obtain ⟨u, a, b⟩ := e.get j x h
    exact ⟨u, by rw [List.getElem?_set_ne (Ne.symm hj)]; exact a, b⟩
theorem Post.mono {α β : Type} {Rel : List Addr → Hp → β → α → Prop} {r : R α} {Q Q' : β → Hp → Prop} {E E' : XK} (h : Post W Rel ms H r Q E) (hq : ∀ b H, Q b H → Q' b H) (he : ∀ c d H, E c d H → E' c d H) : Post W Rel ms H r Q' E' := by
  cases r with
  | ok a S => exact fun b ms' H' f s x => hq _ _ (h b ms' H' f s x)
  | exc c ks ds S => exact fun C dd ms' H' f s x => he _ _ _ (h C dd ms' H' f s x)
  | bad => exact h
theorem Post.fut {α β : Type} {Rel : List Addr → Hp → β → α → Prop} {r : R α} {Q : β → Hp → Prop} {E : XK} (h : Post W Rel ms H r Q E) (f : Fut ms H ms' H') : Post W Rel ms' H' r Q E := by
  cases r with
  | ok a S => exact fun b m1 H1 g s x => h b m1 H1 (f.trans g) s x
  | exc c ks ds S => exact fun C dd m1 H1 g s x => h C dd m1 H1 (f.trans g) s x
  | bad => exact h
theorem PostS.fut {r : SR} {D : Ends} {Wx : WX} (h : PostS W ms H r D Wx) (f : Fut ms H ms' H') : PostS W ms' H' r D Wx := by
  cases r with
  | nx ρ S => exact fun σ m1 H1 g s x => h σ m1 H1 (f.trans g) s x
  | rt d S => exact fun v m1 H1 g s x => h v m1 H1 (f.trans g) s x
  | bk ρ S => exact fun σ m1 H1 g s x => h σ m1 H1 (f.trans g) s x
  | ct ρ S => exact fun σ m1 H1 g s x => h σ m1 H1 (f.trans g) s x
  | exc c ks ds ρ S => exact fun σ C dd m1 H1 g s e x => h σ C dd m1 H1 (f.trans g) s e x
  | bad => exact h
/-- first r, then k -/
theorem Post.split {α β α' β' : Type} {Rel : List Addr → Hp → β → α → Prop} {Rel' : List Addr → Hp → β' → α' → Prop} {r : R α} {k : α → Sto → R α'} {Q : β' → Hp → Prop} {E : XK} {Q1 : β → Hp → Prop} (h : Post W Rel' ms H (r.bind k) Q E)
    (hk : ∀ a S1 b ms1 H1, r = .ok a S1 → Fut ms H ms1 H1 → StOk W ms1 S1 H1 → Rel ms1 (era ms1 H1) b a → Post W Rel' ms1 H1 (k a S1) Q E → Q1 b H1) : Post W Rel ms H r Q1 E := by
  cases r with
  | ok a S => exact fun b ms1 H1 f s x => hk a S b ms1 H1 rfl f s x (Post.fut (r := k a S) h f)
  | exc c ks ds S => exact h
  | bad => exact h
theorem PostS.split {α β : Type} {Rel : List Addr → Hp → β → α → Prop} {r : R α} {k : α → Sto → SR} {D : Ends} {Wx : WX} {Q1 : β → Hp → Prop} (ev : Ev W ρ σ ms H) (h : PostS W ms H (r.st ρ k) D Wx)
    (hk : ∀ a S1 b ms1 H1, r = .ok a S1 → Fut ms H ms1 H1 → StOk W ms1 S1 H1 → Rel ms1 (era ms1 H1) b a → PostS W ms1 H1 (k a S1) D Wx → Q1 b H1) : Post W Rel ms H r Q1 (fun c d H' => Wx c d σ H') := by
  cases r with
  | ok a S => exact fun b ms1 H1 f s x => hk a S b ms1 H1 rfl f s x (PostS.fut (r := k a S) h f)
  | exc c ks ds S => exact fun C dd ms1 H1 f s x => h σ C dd ms1 H1 f s (ev.fut f) x
  | bad => exact h
end

/-- the relations -/
abbrev relD (W : Wd) : List Addr → Hp → V → D → Prop := fun ms G v d => Rp W ms G v d
abbrev relB : List Addr → Hp → Bool → Bool → Prop := fun _ _ b c => b = c
abbrev relL (W : Wd) : List Addr → Hp → List V → List D → Prop := fun ms G v d => RpL W ms G v d
abbrev relO : List Addr → Hp → Option Int → Option Int → Prop := fun _ _ b c => b = c

/-- the wish about exceptions, and the exception that is held -/
structure Yx where
  xi : Option (Addr × Value × Option Addr)
  wx : WX
abbrev wd (X : Cx) (Y : Yx) : Wd := ⟨X.K, X.mg, Y.xi⟩

def tX {α β : Type} (W : Wd) (Wx : WX) (Rel : List Addr → Hp → β → α → Prop) (f : F α) : St → Hp → (β → Hp → Prop) → Prop := fun σ H Q =>
  ∃ ms S ρ, Ev W ρ σ ms H ∧ StOk W ms S H ∧ Post W Rel ms H (f ρ S) Q (fun c d H' => Wx c d σ H')
def tDS (W : Wd) (Wx : WX) (g : SF) : TS := fun D σ H => ∃ ms S ρ, Ev W ρ σ ms H ∧ StOk W ms S H ∧ PostS W ms H (g ρ S) D Wx

abbrev DE (X : Cx) (Y : Yx) (e : Expr) (f : EF) : Prop := PE X e (tX (wd X Y) Y.wx (relD (wd X Y)) f)
abbrev DT (X : Cx) (Y : Yx) (e : Expr) (f : F Bool) : Prop := PT X e (tX (wd X Y) Y.wx relB f)
abbrev DW (X : Cx) (Y : Yx) (e : Expr) (f : F Bool) : Prop := PW X e (tX (wd X Y) Y.wx relB f)
abbrev DA (X : Cx) (Y : Yx) (es : List Expr) (f : F (List D)) : Prop := PA X es (tX (wd X Y) Y.wx (relL (wd X Y)) f)
abbrev DO (X : Cx) (Y : Yx) (e : Option Expr) (f : F (Option Int)) : Prop := PO X e (tX (wd X Y) Y.wx relO f)
abbrev DS (X : Cx) (Y : Yx) (st : Stmt) (g : SF) : Prop := PS X st (tDS (wd X Y) Y.wx g)
abbrev DSs (X : Cx) (Y : Yx) (st : List Stmt) (g : SF) : Prop := PSs X st (tDS (wd X Y) Y.wx g)

theorem PE.weak {X : Cx} {e : Expr} {t t' : TE} (h : PE X e t) (w : ∀ σ H Q, t' σ H Q → t σ H Q) : PE X e t' := ⟨fun pins s σ H Q I q => h.run pins s σ H Q I (w σ H Q q)⟩
theorem PT.weak {X : Cx} {e : Expr} {t t' : TT} (h : PT X e t) (w : ∀ σ H Q, t' σ H Q → t σ H Q) : PT X e t' := ⟨fun pins s σ H Q I q => h.run pins s σ H Q I (w σ H Q q)⟩
theorem PW.weak {X : Cx} {e : Expr} {t t' : TT} (h : PW X e t) (w : ∀ σ H Q, t' σ H Q → t σ H Q) : PW X e t' := ⟨fun wh pins s σ H Q I q => h.run wh pins s σ H Q I (w σ H Q q)⟩
theorem PA.weak {X : Cx} {e : List Expr} {t t' : TA} (h : PA X e t) (w : ∀ σ H Q, t' σ H Q → t σ H Q) : PA X e t' := ⟨fun pos pins s σ H Q I q => h.run pos pins s σ H Q I (w σ H Q q)⟩
theorem PO.weak {X : Cx} {e : Option Expr} {t t' : TO} (h : PO X e t) (w : ∀ σ H Q, t' σ H Q → t σ H Q) : PO X e t' := ⟨fun pins s σ H Q I q => h.run pins s σ H Q I (w σ H Q q)⟩
theorem PS.weak {X : Cx} {e : Stmt} {t t' : TS} (h : PS X e t) (w : ∀ D σ H, t' D σ H → t D σ H) : PS X e t' := ⟨fun pins s σ H D I q => h.run pins s σ H D I (w D σ H q)⟩
theorem PSs.weak {X : Cx} {e : List Stmt} {t t' : TS} (h : PSs X e t) (w : ∀ D σ H, t' D σ H → t D σ H) : PSs X e t' := ⟨fun pins s σ H D I q => h.run pins s σ H D I (w D σ H q)⟩

/-! ### names, constants -/
section
variable {X : Cx} {Y : Yx}
def varE (i : Nat) : EF := fun ρ S => match ρ[i]? with
  | some (some d) => .ok d S
  | _ => .bad
def cE (d : D) : EF := fun _ S => .ok d S
theorem dv (i : Nat) {x : Str} {pos : Pos} (hN : X.N[i]? = some x := by rfl) (hv : Vis X.env.scope x := by first | exact Or.inl rfl | exact Or.inr (Or.inl rfl) | exact Or.inr (Or.inr rfl)) (hd : (x == ("__debug__" : Str)) = false := by decide)
    (hcd : (x == ("__classdict__" : Str)) = false := by decide) : DE X Y (.Name x pos) (varE i) := by
  refine PE.weak (pe_var hN hv hd hcd) fun σ H Q h => ?_
  obtain ⟨ms, S, ρ, ev, st, p⟩ := h
  unfold varE at p
  split at p
  · rename_i d e
    obtain ⟨v, e1, r⟩ := ev.get i d e
    exact ⟨v, e1, p v ms H (Fut.refl _ _) st r⟩
  · exact p.elim
theorem dc {e : Expr} {v : V} {d : D} (h : PE X e (tC v)) (r : ∀ W ms G, Rp W ms G v d) : DE X Y e (cE d) := by
  refine PE.weak h fun σ H Q h => ?_
  obtain ⟨ms, S, ρ, ev, st, p⟩ := h
  exact p v ms H (Fut.refl _ _) st (r _ _ _)
theorem d_int {i : Int} {j : Nat} {pos : Pos} : DE X Y (.Constant (.int i) j pos) (cE (.int i)) := dc pe_int fun _ _ _ => .int i
theorem d_bl {b : Bool} {j : Nat} {pos : Pos} : DE X Y (.Constant (.bool b) j pos) (cE (.bl b)) := dc pe_bl fun _ _ _ => .bl b
theorem d_non {j : Nat} {pos : Pos} : DE X Y (.Constant .none j pos) (cE .non) := dc pe_non fun _ _ _ => .non
theorem d_str {x : Str} {j : Nat} {pos : Pos} : DE X Y (.Constant (.str x) j pos) (cE (.str x)) := dc pe_str fun _ _ _ => .str x
/-- a constant of the module -/
theorem d_glob {x : Str} {v : V} {d : D} {u : Value} {pos : Pos} (hg : Gl X x) (hm : X.mg x = some u) (r : RelV v u) (rd : ∀ W ms G, Rp W ms G v d) (hd : (x == ("__debug__" : Str)) = false := by decide) : DE X Y (.Name x pos) (cE d) := dc (pe_glob hg hm r hd) rd

/-! ### operators -/
def binF (g : D → D → Sto → R D) (fa fb : EF) : EF := fun ρ S => (fa ρ S).bind fun d S1 => (fb ρ S1).bind fun e S2 => g d e S2
/-- g says what the operator's reading r asks -/
def OpD (W : Wd) (r : R2) (g : D → D → Sto → R D) : Prop := ∀ (ms : List Addr) (S : Sto) (H : Hp) (x y : V) (d e : D) (Q : VK) (E : XK), StOk W ms S H → Rp W ms (era ms H) x d → Rp W ms (era ms H) y e → Post W (relD W) ms H (g d e S) Q E → r x y H Q
theorem two_of {W : Wd} {Wx : WX} {fa fb : EF} {g : D → D → Sto → R D} {r : R2} (hr : OpD W r g) {σ : St} {H : Hp} {Q : VK} (h : tX W Wx (relD W) (binF g fa fb) σ H Q) :
    tX W Wx (relD W) fa σ H fun x H1 => tX W Wx (relD W) fb σ H1 fun y H2 => r x y H2 Q := by
  obtain ⟨ms, S, ρ, ev, st, p⟩ := h
  refine ⟨ms, S, ρ, ev, st, Post.split p fun d S1 x ms1 H1 _ f1 s1 r1 p1 => ⟨ms1, S1, ρ, ev.fut f1, s1, Post.split p1 fun e S2 y ms2 H2 _ f2 s2 r2 p2 => ?_⟩⟩
  exact hr ms2 S2 H2 x y d e Q _ s2 (Rp.fut r1 f2) r2 p2
variable {a b : Expr} {fa fb : EF} {pos : Pos}
theorem d_op {op : Operator} {r : R2} {g : D → D → Sto → R D} (ho : OpR X (binaryOp op) r) (hr : OpD (wd X Y) r g) (ha : DE X Y a fa) (hb : DE X Y b fb) : DE X Y (.BinOp a op b pos) (binF g fa fb) :=
  PE.weak (pe_op ho ha hb) fun _ _ _ h => two_of hr h
theorem d_cmp {op : CmpOp} {r : R2} {g : D → D → Sto → R D} (ho : OpR X (compareOp op) r) (hr : OpD (wd X Y) r g) (ha : DE X Y a fa) (hb : DE X Y b fb) (hm : behindInMarks op b = false) : DE X Y (.Compare a [op] [b] pos) (binF g fa fb) :=
  PE.weak (pe_cmpR ho ha hb hm) fun _ _ _ h => two_of hr h
/-- a value that is True or False -/
def tstF (fe : EF) : F Bool := fun ρ S => (fe ρ S).bind fun d S1 => match d with
  | .bl b => .ok b S1
  | _ => .bad
theorem tst_of {W : Wd} {Wx : WX} {fe : EF} {σ : St} {H : Hp} {Q : Bool → Hp → Prop} (h : tX W Wx relB (tstF fe) σ H Q) : tX W Wx (relD W) fe σ H fun x H1 => ∃ c, x = .bl c ∧ Q c H1 := by
  obtain ⟨ms, S, ρ, ev, st, p⟩ := h
  refine ⟨ms, S, ρ, ev, st, Post.split p fun d S1 x ms1 H1 _ f1 s1 r1 p1 => ?_⟩
  cases r1 with
  | bl c => exact ⟨c, rfl, p1 c ms1 H1 (Fut.refl _ _) s1 rfl⟩
  | _ => exact p1.elim
theorem d_val {e : Expr} {fe : EF} (h : DE X Y e fe) (he : ∀ whole, isTrue e X.env whole = (do let v ← whole; standAt e.pos; holding [v] (truthy v)) := by intro _; rfl) : DT X Y e (tstF fe) :=
  PT.weak (pt_val h he) fun _ _ _ h => tst_of h
theorem d_cmpT {op : CmpOp} {r : R2} {g : D → D → Sto → R D} (ho : OpR X (compareOp op) r) (hr : OpD (wd X Y) r g) (ha : DE X Y a fa) (hb : DE X Y b fb) (hm : behindInMarks op b = false) : DT X Y (.Compare a [op] [b] pos) (tstF (binF g fa fb)) := by
  refine PT.weak (pt_cmpR ho ha hb hm) fun σ H Q h => ?_
  have := tst_of h
  exact two_of hr this
/-- chains -/
def chnF (g g' : D → D → Sto → R D) (fa fb fc : EF) : EF := fun ρ S => (fa ρ S).bind fun d S1 => (fb ρ S1).bind fun e S2 => (g d e S2).bind fun z S3 => match z with
  | .bl true => (fc ρ S3).bind fun k S4 => g' e k S4
  | .bl false => .ok (.bl false) S3
  | _ => .bad

/-! ### and, or, not -/
def andB (fa fb : F Bool) : F Bool := fun ρ S => (fa ρ S).bind fun k S1 => if k then fb ρ S1 else .ok false S1
def orB (fa fb : F Bool) : F Bool := fun ρ S => (fa ρ S).bind fun k S1 => if k then .ok true S1 else fb ρ S1
def notB (fa : F Bool) : F Bool := fun ρ S => (fa ρ S).bind fun k S1 => .ok (!k) S1
variable {ta tb : F Bool} {rest : List Expr}
theorem dw_and1 (h : DT X Y a ta) : DW X Y (.BoolOp .And [a] pos) ta := pw_and1 h
theorem dw_or1 (h : DT X Y a ta) : DW X Y (.BoolOp .Or [a] pos) ta := pw_or1 h
theorem dw_and (ha : DT X Y a ta) (hb : DW X Y (.BoolOp .And (b :: rest) pos) tb) : DW X Y (.BoolOp .And (a :: b :: rest) pos) (andB ta tb) := by
  refine PW.weak (pw_and ha hb) fun σ H Q h => ?_
  obtain ⟨ms, S, ρ, ev, st, p⟩ := h
  refine ⟨ms, S, ρ, ev, st, Post.split p fun k S1 x ms1 H1 _ f1 s1 r1 p1 => ?_⟩
  cases r1
  cases k with
  | true => exact iteT ⟨ms1, S1, ρ, ev.fut f1, s1, p1⟩
  | false => exact iteF (p1 false ms1 H1 (Fut.refl _ _) s1 rfl)
theorem dw_or (ha : DT X Y a ta) (hb : DW X Y (.BoolOp .Or (b :: rest) pos) tb) : DW X Y (.BoolOp .Or (a :: b :: rest) pos) (orB ta tb) := by
  refine PW.weak (pw_or ha hb) fun σ H Q h => ?_
  obtain ⟨ms, S, ρ, ev, st, p⟩ := h
  refine ⟨ms, S, ρ, ev, st, Post.split p fun k S1 x ms1 H1 _ f1 s1 r1 p1 => ?_⟩
  cases r1
  cases k with
  | true => exact iteT (p1 true ms1 H1 (Fut.refl _ _) s1 rfl)
  | false => exact iteF ⟨ms1, S1, ρ, ev.fut f1, s1, p1⟩
theorem d_not (ha : DT X Y a ta) : DT X Y (.UnaryOp .Not a pos) (notB ta) := by
  refine PT.weak (pt_not ha) fun σ H Q h => ?_
  obtain ⟨ms, S, ρ, ev, st, p⟩ := h
  refine ⟨ms, S, ρ, ev, st, Post.split p fun k S1 x ms1 H1 _ f1 s1 r1 p1 => ?_⟩
  cases r1
  exact p1 (!k) ms1 H1 (Fut.refl _ _) s1 rfl
theorem dw_t {e : Expr} {t : F Bool} (h : DW X Y e t) : DT X Y e t := h.pt
/-- as values: all but the last one True or False -/
def andV (fa fb : EF) : EF := fun ρ S => (fa ρ S).bind fun d S1 => match d with
  | .bl true => fb ρ S1
  | .bl false => .ok (.bl false) S1
  | _ => .bad
def orV (fa fb : EF) : EF := fun ρ S => (fa ρ S).bind fun d S1 => match d with
  | .bl true => .ok (.bl true) S1
  | .bl false => fb ρ S1
  | _ => .bad
def notV (fa : EF) : EF := fun ρ S => (fa ρ S).bind fun d S1 => match d with
  | .bl b => .ok (.bl (!b)) S1
  | _ => .bad
theorem d_one {op : BoolOp} (h : DE X Y a fa) : DE X Y (.BoolOp op [a] pos) fa := pe_one h
theorem d_andV (ha : DE X Y a fa) (hb : DE X Y (.BoolOp .And (b :: rest) pos) fb) : DE X Y (.BoolOp .And (a :: b :: rest) pos) (andV fa fb) := by
  refine PE.weak (pe_and ha hb) fun σ H Q h => ?_
  obtain ⟨ms, S, ρ, ev, st, p⟩ := h
  refine ⟨ms, S, ρ, ev, st, Post.split p fun d S1 x ms1 H1 _ f1 s1 r1 p1 => ?_⟩
  cases r1 with
  | bl k =>
    refine ⟨k, rfl, ?_⟩
    cases k with
    | true => exact iteT ⟨ms1, S1, ρ, ev.fut f1, s1, p1⟩
    | false => exact iteF (p1 _ ms1 H1 (Fut.refl _ _) s1 (.bl false))
  | _ => exact p1.elim
theorem d_orV (ha : DE X Y a fa) (hb : DE X Y (.BoolOp .Or (b :: rest) pos) fb) : DE X Y (.BoolOp .Or (a :: b :: rest) pos) (orV fa fb) := by
  refine PE.weak (pe_or ha hb) fun σ H Q h => ?_
  obtain ⟨ms, S, ρ, ev, st, p⟩ := h
  refine ⟨ms, S, ρ, ev, st, Post.split p fun d S1 x ms1 H1 _ f1 s1 r1 p1 => ?_⟩
  cases r1 with
  | bl k =>
    refine ⟨k, rfl, ?_⟩
    cases k with
    | true => exact iteT (p1 _ ms1 H1 (Fut.refl _ _) s1 (.bl true))
    | false => exact iteF ⟨ms1, S1, ρ, ev.fut f1, s1, p1⟩
  | _ => exact p1.elim
theorem d_notV (ha : DE X Y a fa) : DE X Y (.UnaryOp .Not a pos) (notV fa) := by
  refine PE.weak (pe_not ha) fun σ H Q h => ?_
  obtain ⟨ms, S, ρ, ev, st, p⟩ := h
  refine ⟨ms, S, ρ, ev, st, Post.split p fun d S1 x ms1 H1 _ f1 s1 r1 p1 => ?_⟩
  cases r1 with
  | bl k => exact ⟨k, rfl, p1 _ ms1 H1 (Fut.refl _ _) s1 (.bl _)⟩
  | _ => exact p1.elim
/-- a if t else b -/
def ifE (t : F Bool) (fa fb : EF) : EF := fun ρ S => (t ρ S).bind fun k S1 => if k then fa ρ S1 else fb ρ S1
theorem d_ifE {c : Expr} {t : F Bool} (hc : DT X Y c t) (ha : DE X Y a fa) (hb : DE X Y b fb) : DE X Y (.IfExp c a b pos) (ifE t fa fb) := by
  refine PE.weak (pe_ifExp hc ha hb) fun σ H Q h => ?_
  obtain ⟨ms, S, ρ, ev, st, p⟩ := h
  refine ⟨ms, S, ρ, ev, st, Post.split p fun k S1 x ms1 H1 _ f1 s1 r1 p1 => ?_⟩
  cases r1
  cases k with
  | true => exact iteT ⟨ms1, S1, ρ, ev.fut f1, s1, p1⟩
  | false => exact iteF ⟨ms1, S1, ρ, ev.fut f1, s1, p1⟩
theorem d_chn {c : Expr} {fc : EF} {op op' : CmpOp} {r r' : R2} {g g' : D → D → Sto → R D} (ho : OpR X (compareOp op) r) (ho' : OpR X (compareOp op') r') (hr : OpD (wd X Y) r g) (hr' : OpD (wd X Y) r' g')
    (ha : DE X Y a fa) (hb : DE X Y b fb) (hc : DE X Y c fc) (hm : lastMarks [op, op'] [b, c] = false := by rfl) : DE X Y (.Compare a [op, op'] [b, c] pos) (chnF g g' fa fb fc) := by
  refine PE.weak (pe_chain ho ho' ha hb hc hm) fun σ H Q h => ?_
  obtain ⟨ms, S, ρ, ev, st, p⟩ := h
  refine ⟨ms, S, ρ, ev, st, Post.split p fun d S1 x ms1 H1 _ f1 s1 r1 p1 => ⟨ms1, S1, ρ, ev.fut f1, s1, Post.split p1 fun e S2 y ms2 H2 _ f2 s2 r2 p2 => ?_⟩⟩
  refine hr ms2 S2 H2 x y d e _ _ s2 (Rp.fut r1 f2) r2 (Post.split p2 fun z S3 v ms3 H3 _ f3 s3 r3 p3 => ?_)
  cases r3 with
  | bl k =>
    refine ⟨k, rfl, ?_⟩
    cases k with
    | true =>
      refine iteT ⟨ms3, S3, ρ, ev.fut (f1.trans (f2.trans f3)), s3, Post.split p3 fun k S4 u ms4 H4 _ f4 s4 r4 p4 => ?_⟩
      exact hr' ms4 S4 H4 y u e k _ _ s4 (Rp.fut r2 (f3.trans f4)) r4 p4
    | false => exact iteF (p3 _ ms3 H3 (Fut.refl _ _) s3 (.bl false))
  | _ => exact p3.elim
theorem d_chnT {c : Expr} {fc : EF} {op op' : CmpOp} {r r' : R2} {g g' : D → D → Sto → R D} (ho : OpR X (compareOp op) r) (ho' : OpR X (compareOp op') r') (hr : OpD (wd X Y) r g) (hr' : OpD (wd X Y) r' g')
    (ha : DE X Y a fa) (hb : DE X Y b fb) (hc : DE X Y c fc) (hm : lastMarks [op, op'] [b, c] = false := by rfl) : DT X Y (.Compare a [op, op'] [b, c] pos) (tstF (chnF g g' fa fb fc)) := by
  refine PT.weak (pt_chain ho ho' ha hb hc hm) fun σ H Q h => ?_
  obtain ⟨ms, S, ρ, ev, st, p⟩ := tst_of h
  refine ⟨ms, S, ρ, ev, st, Post.split p fun d S1 x ms1 H1 _ f1 s1 r1 p1 => ⟨ms1, S1, ρ, ev.fut f1, s1, Post.split p1 fun e S2 y ms2 H2 _ f2 s2 r2 p2 => ?_⟩⟩
  refine hr ms2 S2 H2 x y d e _ _ s2 (Rp.fut r1 f2) r2 (Post.split p2 fun z S3 v ms3 H3 _ f3 s3 r3 p3 => ?_)
  cases r3 with
  | bl k =>
    refine ⟨k, rfl, ?_⟩
    cases k with
    | true =>
      refine iteT ⟨ms3, S3, ρ, ev.fut (f1.trans (f2.trans f3)), s3, Post.split p3 fun k S4 u ms4 H4 _ f4 s4 r4 p4 => ?_⟩
      exact hr' ms4 S4 H4 y u e k _ _ s4 (Rp.fut r2 (f3.trans f4)) r4 p4
    | false =>
      exact iteF (p3 _ ms3 H3 (Fut.refl _ _) s3 (.bl false))
  | _ => exact p3.elim

/-! ### arguments, displays -/
def nilF : F (List D) := fun _ S => .ok [] S
def consF (fe : EF) (fs : F (List D)) : F (List D) := fun ρ S => (fe ρ S).bind fun d S1 => (fs ρ S1).bind fun ds S2 => .ok (d :: ds) S2
theorem da_nil : DA X Y [] nilF := PA.weak pa_nil fun σ H Q ⟨ms, S, ρ, ev, st, p⟩ => p [] ms H (Fut.refl _ _) st .nil
theorem da_cons {e : Expr} {es : List Expr} {fe : EF} {fs : F (List D)} (he : DE X Y e fe) (hs : DA X Y es fs) (h1 : starEach (e :: es) X.env = (false, eval e X.env) :: starEach es X.env := by rfl) : DA X Y (e :: es) (consF fe fs) := by
  refine PA.weak (pa_cons he hs h1) fun σ H Q h => ?_
  obtain ⟨ms, S, ρ, ev, st, p⟩ := h
  refine ⟨ms, S, ρ, ev, st, Post.split p fun d S1 x ms1 H1 _ f1 s1 r1 p1 => ⟨ms1, S1, ρ, ev.fut f1, s1, Post.split p1 fun ds S2 xs ms2 H2 _ f2 s2 r2 p2 => ?_⟩⟩
  exact p2 (x :: xs) ms2 H2 (Fut.refl _ _) s2 (.cons (Rp.fut r1 f2) r2)
noncomputable def tupF (fs : F (List D)) : EF := fun ρ S => (fs ρ S).bind fun ds S1 => if NLe ds.length sizeLine then .ok (.tup ds) S1 else .bad
noncomputable def lstF (fs : F (List D)) : EF := fun ρ S => (fs ρ S).bind fun ds S1 => if NLe ds.length sizeLine then .ok (.lst ds) S1 else .bad
/-- an owned list -/
noncomputable def ownF (fs : F (List D)) : EF := fun ρ S => (fs ρ S).bind fun ds S1 => if NLe ds.length sizeLine then .ok (.cell S1.length) (S1 ++ [.lst ds]) else .bad
theorem d_tup {es : List Expr} {fs : F (List D)} {x1 : Nat} (h : DA X Y es fs) : DE X Y (.Tuple es x1 pos) (tupF fs) := by
  refine PE.weak (pe_tup h) fun σ H Q h => ?_
  obtain ⟨ms, S, ρ, ev, st, p⟩ := h
  refine ⟨ms, S, ρ, ev, st, Post.split p fun ds S1 xs ms1 H1 _ f1 s1 r1 p1 => ?_⟩
  by_cases hl : NLe ds.length sizeLine
  · rw [if_pos hl] at p1
    refine ⟨by rw [r1.length]; exact hl, fun a ha => p1 _ ms1 _ (Fut.new s1 ha) (s1.new ha) (.tup (.inl (.inl (era_new s1 ha))) (RpL.fut r1 (Fut.new s1 ha)))⟩
  · rw [if_neg hl] at p1; exact p1.elim
theorem d_lst {es : List Expr} {fs : F (List D)} (h : DA X Y es fs) : DE X Y (.List es pos) (lstF fs) := by
  refine PE.weak (pe_lst h) fun σ H Q h => ?_
  obtain ⟨ms, S, ρ, ev, st, p⟩ := h
  refine ⟨ms, S, ρ, ev, st, Post.split p fun ds S1 xs ms1 H1 _ f1 s1 r1 p1 => ?_⟩
  by_cases hl : NLe ds.length sizeLine
  · rw [if_pos hl] at p1
    refine ⟨by rw [r1.length]; exact hl, fun a ha => p1 _ ms1 _ (Fut.new s1 ha) (s1.new ha) (.lst (era_new s1 ha) (RpL.fut r1 (Fut.new s1 ha)))⟩
  · rw [if_neg hl] at p1; exact p1.elim
theorem d_own {es : List Expr} {fs : F (List D)} (h : DA X Y es fs) : DE X Y (.List es pos) (ownF fs) := by
  refine PE.weak (pe_lst h) fun σ H Q h => ?_
  obtain ⟨ms, S, ρ, ev, st, p⟩ := h
  refine ⟨ms, S, ρ, ev, st, Post.split p fun ds S1 xs ms1 H1 _ f1 s1 r1 p1 => ?_⟩
  by_cases hl : NLe ds.length sizeLine
  · rw [if_pos hl] at p1
    refine ⟨by rw [r1.length]; exact hl, fun a ha => p1 _ (ms1 ++ [a]) _ (Fut.own ha) (s1.ownL ha r1) (.cell ?_)⟩
    rw [← s1.len, List.getElem?_append_right (Nat.le_refl _), Nat.sub_self]
    rfl
  · rw [if_neg hl] at p1; exact p1.elim
end

/-! ### statements -/
section
variable {X : Cx} {Y : Yx} {st : Stmt} {rest : List Stmt} {g u : SF} {e : Expr} {fe : EF} {pos : Pos}
def nxS : SF := fun ρ S => .nx ρ S
def seqS (g u : SF) : SF := fun ρ S => (g ρ S).seq u
theorem dss_nil : DSs X Y [] nxS := PSs.weak pss_nil fun D σ H ⟨ms, S, ρ, ev, st, p⟩ => p σ ms H (Fut.refl _ _) st ev
theorem seq_of {W : Wd} {Wx : WX} {g u : SF} {D : Ends} {σ : St} {H : Hp} (h : tDS W Wx (seqS g u) D σ H) : tDS W Wx g { D with nx := tDS W Wx u D } σ H := by
  obtain ⟨ms, S, ρ, ev, st, p⟩ := h
  refine ⟨ms, S, ρ, ev, st, ?_⟩
  unfold seqS at p
  cases hg : g ρ S with
  | nx ρ' S' =>
    rw [hg] at p
    exact fun σ' ms' H' f s e => ⟨ms', S', ρ', e, s, PostS.fut (r := u ρ' S') p f⟩
  | rt d S' => rw [hg] at p; exact p
  | bk ρ' S' => rw [hg] at p; exact p
  | ct ρ' S' => rw [hg] at p; exact p
  | exc c ks ds ρ' S' => rw [hg] at p; exact p
  | bad => rw [hg] at p; exact p
theorem dss_cons (h1 : DS X Y st g) (h2 : DSs X Y rest u) : DSs X Y (st :: rest) (seqS g u) := PSs.weak (pss_cons h1 h2) fun _ _ _ h => seq_of h
theorem dss_one (h1 : DS X Y st g) : DSs X Y [st] g := pss_one h1
theorem ds_pass : DS X Y (.Pass pos) nxS := PS.weak ps_pass fun D σ H ⟨ms, S, ρ, ev, st, p⟩ => p σ ms H (Fut.refl _ _) st ev
def bkS : SF := fun ρ S => .bk ρ S
def ctS : SF := fun ρ S => .ct ρ S
theorem ds_break : DS X Y (.Break pos) bkS := PS.weak ps_break fun D σ H ⟨ms, S, ρ, ev, st, p⟩ => p σ ms H (Fut.refl _ _) st ev
theorem ds_continue : DS X Y (.Continue pos) ctS := PS.weak ps_continue fun D σ H ⟨ms, S, ρ, ev, st, p⟩ => p σ ms H (Fut.refl _ _) st ev
theorem ds_doc {x : Str} {j : Nat} {pos pos' : Pos} : DS X Y (.Expr (.Constant (.str x) j pos) pos') nxS := PS.weak ps_doc fun D σ H ⟨ms, S, ρ, ev, st, p⟩ => p σ ms H (Fut.refl _ _) st ev
def dropS (fe : EF) : SF := fun ρ S => (fe ρ S).st ρ fun _ S1 => .nx ρ S1
def retS (fe : EF) : SF := fun ρ S => (fe ρ S).st ρ fun d S1 => .rt d S1
def retN : SF := fun _ S => .rt .non S
def setS (i : Nat) (fe : EF) : SF := fun ρ S => (fe ρ S).st ρ fun d S1 => .nx (ρ.set i (some d)) S1
def ifS (t : F Bool) (g u : SF) : SF := fun ρ S => (t ρ S).st ρ fun k S1 => if k then g ρ S1 else u ρ S1
theorem ds_expr (he : DE X Y e fe) (hs : swapsWith e none pos.line X.env = pure false := by rfl) : DS X Y (.Expr e pos) (dropS fe) := by
  refine PS.weak (ps_expr he hs) fun D σ H h => ?_
  obtain ⟨ms, S, ρ, ev, st, p⟩ := h
  exact ⟨ms, S, ρ, ev, st, PostS.split ev p fun d S1 x ms1 H1 _ f1 s1 r1 p1 => p1 σ ms1 H1 (Fut.refl _ _) s1 (ev.fut f1)⟩
theorem ds_ret (he : DE X Y e fe) : DS X Y (.Return (some e) pos) (retS fe) := by
  refine PS.weak (ps_ret he) fun D σ H h => ?_
  obtain ⟨ms, S, ρ, ev, st, p⟩ := h
  exact ⟨ms, S, ρ, ev, st, PostS.split ev p fun d S1 x ms1 H1 _ f1 s1 r1 p1 => p1 x ms1 H1 (Fut.refl _ _) s1 r1⟩
theorem ds_retN : DS X Y (.Return none pos) retN := PS.weak ps_retN fun D σ H ⟨ms, S, ρ, ev, st, p⟩ => p .non ms H (Fut.refl _ _) st .non
theorem ds_set {i : Nat} {x : Str} {pos' : Pos} (hN : X.N.Nodup) (hi : X.N[i]? = some x) (hx : Loc X.env.scope x) (he : DE X Y e fe) (hs : swapsWith e (some (.Name x pos')) pos.line X.env = pure false := by rfl)
    (hf : X.fn x = true ∨ X.env.scope.names.lookup x = some .local := by first | exact .inl rfl | exact .inr rfl | assumption) : DS X Y (.Assign [.Name x pos'] e pos) (setS i fe) := by
  refine PS.weak (ps_set hN hi hx he hs hf) fun D σ H h => ?_
  obtain ⟨ms, S, ρ, ev, st, p⟩ := h
  exact ⟨ms, S, ρ, ev, st, PostS.split ev p fun d S1 x ms1 H1 _ f1 s1 r1 p1 => p1 _ ms1 H1 (Fut.refl _ _) s1 ((ev.fut f1).set r1 i)⟩
theorem ds_if {c : Expr} {a b : List Stmt} {t : F Bool} (hc : DT X Y c t) (ha : DSs X Y a g) (hb : DSs X Y b u) : DS X Y (.If c a b pos) (ifS t g u) := by
  refine PS.weak (ps_if hc ha hb) fun D σ H h => ?_
  obtain ⟨ms, S, ρ, ev, st, p⟩ := h
  refine ⟨ms, S, ρ, ev, st, PostS.split ev p fun k S1 x ms1 H1 _ f1 s1 r1 p1 => ?_⟩
  cases r1
  cases k with
  | true => exact iteT ⟨ms1, S1, ρ, ev.fut f1, s1, p1⟩
  | false => exact iteF ⟨ms1, S1, ρ, ev.fut f1, s1, p1⟩
/-- code that is never come to -/
def badS : SF := fun _ _ => .bad
theorem ds_never : DS X Y st badS := PS.weak ps_never fun D σ H ⟨ms, S, ρ, ev, st, p⟩ => p.elim
theorem dss_never {sts : List Stmt} : DSs X Y sts badS := PSs.weak pss_never fun D σ H ⟨ms, S, ρ, ev, st, p⟩ => p.elim
end

/-! ### targets -/
abbrev GF := D → Nv → Sto → Option Nv
abbrev GsF := List D → Nv → Sto → Option Nv
/-- σ' is σ but at the slots is -/
def Sets (is : List Nat) (σ σ' : St) : Prop := ∀ vs : List Nat, (∀ i ∈ is, i ∈ vs) → wipe σ' vs = wipe σ vs
theorem wipe_at (σ : St) (j : Nat) : ∀ vs : List Nat, (wipe σ vs)[j]? = if j ∈ vs then (if j < σ.length then some none else none) else σ[j]?
  | [] => by simp [wipe]
  | v :: vs => by
    have ih := wipe_at σ j vs
    unfold wipe
    by_cases h : v = j
    · subst h
      rw [if_pos (by simp)]
      by_cases hl : v < σ.length
      · rw [if_pos hl, List.getElem?_set_self (by rw [wipe_length]; exact hl)]
      · rw [if_neg hl, List.getElem?_eq_none (by simpa [wipe_length] using hl)]
    · rw [List.getElem?_set_ne h, ih]
      by_cases hv : j ∈ vs
      · rw [if_pos hv, if_pos (List.mem_cons_of_mem _ hv)]
      · rw [if_neg hv, if_neg (by simp [hv, Ne.symm h])]
theorem Sets.one (σ : St) (i : Nat) (v : Option V) : Sets [i] σ (σ.set i v) := fun vs h => by
  have hi : i ∈ vs := h i (by simp)
  apply List.ext_getElem?
  intro j
  rw [wipe_at, wipe_at, List.length_set]
  by_cases hj : j ∈ vs
  · rw [if_pos hj, if_pos hj]
  · rw [if_neg hj, if_neg hj, List.getElem?_set_ne (fun e => hj (by rw [← e]; exact hi))]
theorem Sets.refl (is : List Nat) (σ : St) : Sets is σ σ := fun _ _ => rfl
theorem Sets.trans {is js : List Nat} {σ σ1 σ2 : St} (a : Sets is σ σ1) (b : Sets js σ1 σ2) : Sets (is ++ js) σ σ2 := fun vs h =>
  (b vs fun i hi => h i (List.mem_append_right _ hi)).trans (a vs fun i hi => h i (List.mem_append_left _ hi))
def tG (W : Wd) (is : List Nat) (g : GF) : TG := fun v σ H Q => ∃ ms S ρ d, Rp W ms (era ms H) v d ∧ Ev W ρ σ ms H ∧ StOk W ms S H ∧ ∃ ρ', g d ρ S = some ρ' ∧ ∀ σ', Ev W ρ' σ' ms H → Sets is σ σ' → Q σ' H
def tGs (W : Wd) (is : List Nat) (g : GsF) : TGs := fun vs σ H Q => ∃ ms S ρ ds, RpL W ms (era ms H) vs ds ∧ Ev W ρ σ ms H ∧ StOk W ms S H ∧ ∃ ρ', g ds ρ S = some ρ' ∧ ∀ σ', Ev W ρ' σ' ms H → Sets is σ σ' → Q σ' H
abbrev DG (X : Cx) (Y : Yx) (t : Expr) (is : List Nat) (g : GF) : Prop := PG X t (tG (wd X Y) is g)
abbrev DGs (X : Cx) (Y : Yx) (ts : List Expr) (is : List Nat) (g : GsF) : Prop := PGs X ts (tGs (wd X Y) is g)
theorem PG.weak {X : Cx} {e : Expr} {t t' : TG} (h : PG X e t) (w : ∀ v σ H Q, t' v σ H Q → t v σ H Q) : PG X e t' := ⟨fun pins s σ H v u Q I r q => h.run pins s σ H v u Q I r (w v σ H Q q)⟩
theorem PGs.weak {X : Cx} {e : List Expr} {t t' : TGs} (h : PGs X e t) (w : ∀ v σ H Q, t' v σ H Q → t v σ H Q) : PGs X e t' := ⟨fun pins s σ H v u Q I r q => h.run pins s σ H v u Q I r (w v σ H Q q)⟩
section
variable {X : Cx} {Y : Yx} {pos : Pos}
def nmG (i : Nat) : GF := fun d ρ _ => some (ρ.set i (some d))
theorem dg_name {i : Nat} {x : Str} (hN : X.N.Nodup) (hi : X.N[i]? = some x) (hx : Loc X.env.scope x) (hf : X.fn x = true ∨ X.env.scope.names.lookup x = some .local := by first | exact .inl rfl | exact .inr rfl | assumption) : DG X Y (.Name x pos) [i] (nmG i) := by
  refine PG.weak (pg_name hN hi hx hf) fun v σ H Q h => ?_
  obtain ⟨ms, S, ρ, d, r, ev, st, ρ', e, p⟩ := h
  cases e
  exact p _ (ev.set r i) (Sets.one σ i _)
def nilG : GsF := fun ds ρ _ => match ds with
  | [] => some ρ
  | _ => none
def consG (g : GF) (gs : GsF) : GsF := fun ds ρ S => match ds with
  | d :: ds => (g d ρ S).bind fun ρ' => gs ds ρ' S
  | [] => none
def tupG (n : Nat) (gs : GsF) : GF := fun d ρ S => match d with
  | .tup ds => if ds.length = n then gs ds ρ S else none
  | _ => none
theorem dgs_nil : DGs X Y [] [] nilG := by
  refine PGs.weak pgs_nil fun v σ H Q h => ?_
  obtain ⟨ms, S, ρ, ds, r, ev, st, ρ', e, p⟩ := h
  cases ds with
  | nil => cases r; cases e; exact ⟨rfl, p _ ev (Sets.refl _ _)⟩
  | cons a b => cases e
theorem dgs_cons {e : Expr} {es : List Expr} {is js : List Nat} {g : GF} {gs : GsF} (h1 : DG X Y e is g) (h2 : DGs X Y es js gs) (hs : (assignEach (e :: es) X.env).map (·.2) = assign e X.env :: (assignEach es X.env).map (·.2) := by rfl) : DGs X Y (e :: es) (is ++ js) (consG g gs) := by
  refine PGs.weak (pgs_cons h1 h2 hs) fun v σ H Q h => ?_
  obtain ⟨ms, S, ρ, ds, r, ev, st, ρ', e, p⟩ := h
  cases ds with
  | nil => cases e
  | cons d ds =>
    cases r with
    | cons r1 r2 =>
      obtain ⟨ρ1, e1, e2⟩ := Option.bind_eq_some_iff.mp e
      exact ⟨_, _, rfl, ms, S, ρ, d, r1, ev, st, ρ1, e1, fun σ' ev' t1 => ⟨ms, S, ρ1, ds, r2, ev', st, ρ', e2, fun σ2 ev2 t2 => p σ2 ev2 (t1.trans t2)⟩⟩
theorem dg_tup {es : List Expr} {k : Nat} {is : List Nat} {gs : GsF} {n : Nat} (hc : X.calm = true) (h : DGs X Y es is gs)
    (hn : (assignEach es X.env).length = n := by rfl) (hst : (assignEach es X.env).findIdx? (·.1) = none := by rfl) : DG X Y (.Tuple es k pos) is (tupG n gs) := by
  refine PG.weak (pg_tup hc h hn hst) fun v σ H Q h => ?_
  obtain ⟨ms, S, ρ, d, r, ev, st, ρ', e, p⟩ := h
  cases r with
  | tup a b =>
    unfold tupG at e
    dsimp only at e
    split at e
    · rename_i hl
      exact ⟨_, _, rfl, Same.sqT (era_same _ _) a, by rw [b.length, hl], ms, S, ρ, _, b, ev, st, ρ', e, p⟩
    · cases e
  | _ => cases e
end

/-! ### what is walked -/
/-- the walk J yields the items ds from the state (ms, H) on -/
structure IsIt (W : Wd) (J : It) (ds : List D) (ms : List Addr) (H : Hp) : Prop where
  step : ∀ ms1 H1 S1 i, Fut ms H ms1 H1 → StOk W ms1 S1 H1 → i < ds.length → J.go i H1 ∧ ∀ x H2, J.yld i H1 x H2 → Fut ms1 H1 ms1 H2 ∧ StOk W ms1 S1 H2 ∧ ∀ d, ds[i]? = some d → Rp W ms1 (era ms1 H2) x d
  stop : ∀ ms1 H1 S1, Fut ms H ms1 H1 → StOk W ms1 S1 H1 → J.stop ds.length H1
theorem IsIt.fut {W : Wd} {J : It} {ds : List D} {ms ms' : List Addr} {H H' : Hp} (h : IsIt W J ds ms H) (f : Fut ms H ms' H') : IsIt W J ds ms' H' :=
  ⟨fun ms1 H1 S1 i g => h.step ms1 H1 S1 i (f.trans g), fun ms1 H1 S1 g => h.stop ms1 H1 S1 (f.trans g)⟩
/-- reads a walk: relation of It and items -/
abbrev relI (W : Wd) : List Addr → Hp → It → List D → Prop := fun _ _ _ _ => True
def tI (W : Wd) (Wx : WX) (f : F (List D)) : TI := fun σ H R => ∃ ms S ρ, Ev W ρ σ ms H ∧ StOk W ms S H ∧ (match f ρ S with
  | .ok ds S' => ∀ J ms' H', Fut ms H ms' H' → StOk W ms' S' H' → IsIt W J ds ms' H' → R J H'
  | .exc c ks ds S' => ∀ C dd ms' H', Fut ms H ms' H' → StOk W ms' S' H' → Xr W ms' H' c ks ds C dd → Wx (.ref C) (some dd) σ H'
  | .bad => False)
abbrev DI (X : Cx) (Y : Yx) (tg iter : Expr) (f : F (List D)) : Prop := PI X tg iter (tI (wd X Y) Y.wx f)
theorem PI.weak {X : Cx} {tg e : Expr} {t t' : TI} (h : PI X tg e t) (w : ∀ σ H R, t' σ H R → t σ H R) : PI X tg e t' := ⟨fun pins s σ H R I q => h.run pins s σ H R I (w σ H R q)⟩

/-- from an expression (or arguments) to its walk -/
theorem tI_of {α β : Type} {W : Wd} {Wx : WX} {Rel : List Addr → Hp → β → α → Prop} {f : F α} {k : α → Sto → R (List D)} {σ : St} {H : Hp} {R' : It → Hp → Prop} {Q1 : β → Hp → Prop}
    (h : tI W Wx (fun ρ S => (f ρ S).bind k) σ H R')
    (hk : ∀ a S1 b ms1 H1 ds S', k a S1 = .ok ds S' → StOk W ms1 S1 H1 → Rel ms1 (era ms1 H1) b a →
      (∀ J ms' H', Fut ms1 H1 ms' H' → StOk W ms' S' H' → IsIt W J ds ms' H' → R' J H') → Q1 b H1) (hne : ∀ a S1 c ks ds S', k a S1 ≠ .exc c ks ds S') : tX W Wx Rel f σ H Q1 := by
  obtain ⟨ms, S, ρ, ev, st, p⟩ := h
  refine ⟨ms, S, ρ, ev, st, ?_⟩
  dsimp only at p
  cases hf : f ρ S with
  | ok a S1 =>
    rw [hf, R.bind_ok] at p
    intro b ms1 H1 g s r
    cases hka : k a S1 with
    | ok ds S' => rw [hka] at p; exact hk a S1 b ms1 H1 ds S' hka s r fun J ms' H' g' s' i => p J ms' H' (g.trans g') s' i
    | exc c ks ds S' => exact absurd hka (hne a S1 c ks ds S')
    | bad => rw [hka] at p; exact p.elim
  | exc c ks ds S' => rw [hf] at p; exact p
  | bad => rw [hf] at p; exact p
section
variable {X : Cx} {Y : Yx} {tg : Expr}
theorem Itl.is {W : Wd} {ms : List Addr} {H : Hp} {a : Addr} {vs : List V} {ds : List D} (h : SqL W.K (era ms H) a vs) (r : RpL W ms (era ms H) vs ds) : IsIt W (Itl W.K a) ds ms H := by
  refine ⟨fun ms1 H1 S1 i f s hi => ?_, fun ms1 H1 S1 f s => ?_⟩
  · have q : SqL W.K H1 a vs := Same.seq (f.same.trans (era_same _ _)) h
    have hv : i < vs.length := by rw [r.length]; exact hi
    refine ⟨⟨vs, vs[i], q, List.getElem?_eq_getElem hv⟩, fun x H2 y => ?_⟩
    obtain ⟨rfl, hy⟩ := y
    refine ⟨Fut.refl _ _, s, fun d hd => ?_⟩
    obtain ⟨v, e, rr⟩ := r.get hd
    have := hy vs q
    rw [e] at this; cases this
    exact Rp.fut rr f
  · exact ⟨vs, Same.seq (f.same.trans (era_same _ _)) h, by rw [r.length]; exact Nat.le_refl _⟩
theorem Itt.is {W : Wd} {ms : List Addr} {H : Hp} {a : Addr} {vs : List V} {ds : List D} (h : SqT W.K (era ms H) a vs) (r : RpL W ms (era ms H) vs ds) : IsIt W (Itt W.K a) ds ms H := by
  refine ⟨fun ms1 H1 S1 i f s hi => ?_, fun ms1 H1 S1 f s => ?_⟩
  · have q : SqT W.K H1 a vs := Same.sqT (f.same.trans (era_same _ _)) h
    have hv : i < vs.length := by rw [r.length]; exact hi
    refine ⟨⟨vs, vs[i], q, List.getElem?_eq_getElem hv⟩, fun x H2 y => ?_⟩
    obtain ⟨rfl, hy⟩ := y
    refine ⟨Fut.refl _ _, s, fun d hd => ?_⟩
    obtain ⟨v, e, rr⟩ := r.get hd
    have := hy vs q
    rw [e] at this; cases this
    exact Rp.fut rr f
  · exact ⟨vs, Same.sqT (f.same.trans (era_same _ _)) h, by rw [r.length]; exact Nat.le_refl _⟩
theorem Itr.is {W : Wd} {ms : List Addr} {H : Hp} (lo : Int) (n : Nat) : IsIt W (Itr lo n) ((List.range n).map fun k => D.int (lo + (k : Nat))) ms H := by
  refine ⟨fun ms1 H1 S1 i f s hi => ?_, fun ms1 H1 S1 f s => ?_⟩
  · have hi' : i < n := by simpa using hi
    refine ⟨hi', fun x H2 y => ?_⟩
    obtain ⟨rfl, rfl⟩ := y
    refine ⟨Fut.refl _ _, s, fun d hd => ?_⟩
    rw [List.getElem?_map, List.getElem?_range hi'] at hd
    cases hd
    exact .int _
  · show n ≤ _
    simp
theorem Its.is {W : Wd} {ms : List Addr} {H : Hp} (z : Str) : IsIt W (Its z) (z.cps.toList.map fun c => D.str ⟨#[c]⟩) ms H := by
  refine ⟨fun ms1 H1 S1 i f s hi => ?_, fun ms1 H1 S1 f s => ?_⟩
  · have hi' : i < z.cps.size := by simpa using hi
    refine ⟨hi', fun x H2 y => ?_⟩
    obtain ⟨rfl, c, hc, rfl⟩ := y
    refine ⟨Fut.refl _ _, s, fun d hd => ?_⟩
    rw [List.getElem?_map, Array.getElem?_toList, hc] at hd
    cases hd
    exact .str _
  · show z.cps.size ≤ _
    simp
/-- a list, a tuple, a text -/
def seqI (d : D) (S : Sto) : R (List D) := match d with
  | .lst ds => .ok ds S
  | .rol ds => .ok ds S
  | _ => .bad
def tupI (d : D) (S : Sto) : R (List D) := match d with
  | .tup ds => .ok ds S
  | _ => .bad
def strI (d : D) (S : Sto) : R (List D) := match d with
  | .str z => .ok (z.cps.toList.map fun c => D.str ⟨#[c]⟩) S
  | _ => .bad
def itF (k : D → Sto → R (List D)) (fe : EF) : F (List D) := fun ρ S => (fe ρ S).bind k
theorem di_list {e : Expr} {fe : EF} (he : DE X Y e fe) : DI X Y tg e (itF seqI fe) := by
  refine PI.weak (pi_list he) fun σ H R' h => tI_of (k := seqI) h (fun d S1 v ms1 H1 ds' S' e s r p => ?_) fun d S1 c ks ds S' => by unfold seqI; split <;> simp
  cases r with
  | lst a b =>
    cases e
    have q : SqL X.K (era ms1 H1) _ _ := .inl (.inl a)
    exact ⟨_, rfl, ⟨_, Same.seq (era_same _ _) q⟩, p _ ms1 H1 (Fut.refl _ _) s (Itl.is (W := wd X Y) q b)⟩
  | rol a b => cases e; exact ⟨_, rfl, ⟨_, Same.seq (era_same _ _) a⟩, p _ ms1 H1 (Fut.refl _ _) s (Itl.is (W := wd X Y) a b)⟩
  | _ => cases e
theorem di_tup {e : Expr} {fe : EF} (he : DE X Y e fe) : DI X Y tg e (itF tupI fe) := by
  refine PI.weak (pi_tup he) fun σ H R' h => tI_of (k := tupI) h (fun d S1 v ms1 H1 ds' S' e s r p => ?_) fun d S1 c ks ds S' => by unfold tupI; split <;> simp
  cases r with
  | tup a b => cases e; exact ⟨_, rfl, ⟨_, Same.sqT (era_same _ _) a⟩, p _ ms1 H1 (Fut.refl _ _) s (Itt.is (W := wd X Y) a b)⟩
  | _ => cases e
theorem di_str {e : Expr} {fe : EF} (he : DE X Y e fe) : DI X Y tg e (itF strI fe) := by
  refine PI.weak (pi_str he) fun σ H R' h => tI_of (k := strI) h (fun d S1 v ms1 H1 ds' S' e s r p => ?_) fun d S1 c ks ds S' => by unfold strI; split <;> simp
  cases r with
  | str z => cases e; exact ⟨z, rfl, p _ ms1 H1 (Fut.refl _ _) s (Its.is (W := wd X Y) z)⟩
  | _ => cases e
noncomputable def rng1I (ds : List D) (S : Sto) : R (List D) := match ds with
  | [.int j] => if Bd (-(2 ^ 62) ≤ j ∧ j < 2 ^ 62) then .ok ((List.range j.toNat).map fun k => D.int (0 + (k : Nat))) S else .bad
  | _ => .bad
noncomputable def rng2I (ds : List D) (S : Sto) : R (List D) := match ds with
  | [.int i, .int j] => if Bd (-(2 ^ 62) ≤ i ∧ i < 2 ^ 62 ∧ -(2 ^ 62) ≤ j ∧ j < 2 ^ 62) then .ok ((List.range (j - i).toNat).map fun k => D.int (i + (k : Nat))) S else .bad
  | _ => .bad
def itA (k : List D → Sto → R (List D)) (fe : F (List D)) : F (List D) := fun ρ S => (fe ρ S).bind k
theorem di_range1 {a : Expr} {fa : F (List D)} {p pos : Pos} (hg : Gl X "range") (hm : X.mg "range" = none) (ha : DA X Y [a] fa) (hs : starEach [a] X.env = [(false, eval a X.env)] := by rfl) : DI X Y tg (.Call (.Name "range" p) [a] [] pos) (itA rng1I fa) := by
  refine PI.weak (pi_range1 hg hm ha hs) fun σ H R' h => tI_of (k := rng1I) h (fun ds S1 vs ms1 H1 ds' S' e s r p => ?_) fun ds S1 c ks es S' => by unfold rng1I; split <;> (try split) <;> simp
  unfold rng1I at e
  split at e
  · rename_i j
    split at e
    · rename_i hb
      cases e
      cases r with
      | cons r1 r2 =>
        cases r1; cases r2
        exact ⟨j, rfl, hb.1, hb.2, p _ ms1 H1 (Fut.refl _ _) s (Itr.is 0 j.toNat)⟩
    · cases e
  · cases e
theorem di_range2 {a b : Expr} {fa : F (List D)} {p pos : Pos} (hg : Gl X "range") (hm : X.mg "range" = none) (ha : DA X Y [a, b] fa) (hs : starEach [a, b] X.env = [(false, eval a X.env), (false, eval b X.env)] := by rfl) (hs2 : starEach [b] X.env = [(false, eval b X.env)] := by rfl) :
    DI X Y tg (.Call (.Name "range" p) [a, b] [] pos) (itA rng2I fa) := by
  refine PI.weak (pi_range2 hg hm ha hs hs2) fun σ H R' h => tI_of (k := rng2I) h (fun ds S1 vs ms1 H1 ds' S' e s r p => ?_) fun ds S1 c ks es S' => by unfold rng2I; split <;> (try split) <;> simp
  unfold rng2I at e
  split at e
  · rename_i i j
    split at e
    · rename_i hb
      cases e
      cases r with
      | cons r1 r2 =>
        cases r2 with
        | cons r2 r3 =>
          cases r1; cases r2; cases r3
          exact ⟨i, j, rfl, hb, p _ ms1 H1 (Fut.refl _ _) s (Itr.is i (j - i).toNat)⟩
    · cases e
  · cases e
end

/-! ### for -/
def forL (g : GF) (body : SF) : List D → SF
  | [] => fun ρ S => .nx ρ S
  | d :: ds => fun ρ S => match g d ρ S with
    | none => .bad
    | some ρ1 => (body ρ1 S).turn (forL g body ds)
def forS (fi : F (List D)) (g : GF) (body : SF) : SF := fun ρ S => (fi ρ S).st ρ fun ds S1 => forL g body ds ρ S1
section
variable {X : Cx} {Y : Yx} {tg : Expr}
theorem ds_for {iter : Expr} {body : List Stmt} {fi : F (List D)} {is : List Nat} {g : GF} {u : SF} {pos : Pos} (hp : PassesOwn (model X.prog X.w) X.A X.env X.xe) (hc : X.calm = true) (hi : DI X Y tg iter fi) (hg : DG X Y tg is g) (hb : DSs X Y body u)
    (hs : ∀ x, foldedSetIterable iter X.env x = pure x := by intro _; rfl) : DS X Y (.For tg iter body [] pos) (forS fi g u) := by
  refine PS.weak (ps_for hp hc hi hg hb hs) fun D σ H h => ?_
  obtain ⟨ms, S, ρ, ev, st, p⟩ := h
  refine ⟨ms, S, ρ, ev, st, ?_⟩
  unfold forS at p
  cases hf : fi ρ S with
  | bad => rw [hf] at p; exact p
  | exc c ks ds S' => rw [hf] at p; exact fun C dd ms1 H1 f s x => p σ C dd ms1 H1 f s (ev.fut f) x
  | ok ds S1 =>
    rw [hf, R.st_ok] at p
    intro J ms1 H1 f1 s1 isI
    -- the invariant: from turn i on what is left of the items gives the wanted end
    refine ⟨fun i m σ' H' => m = ds.length - i ∧ i ≤ ds.length ∧ ∃ ms' S' ρ', Fut ms1 H1 ms' H' ∧ StOk (wd X Y) ms' S' H' ∧ Ev (wd X Y) ρ' σ' ms' H' ∧ PostS (wd X Y) ms' H' (forL g u (ds.drop i) ρ' S') D Y.wx,
      ⟨ds.length, by simp, Nat.zero_le _, ms1, S1, ρ, Fut.refl _ _, s1, ev.fut f1, PostS.fut (r := forL g u ds ρ S1) p f1⟩, ?_⟩
    rintro i m σ' H' ⟨rfl, hi, ms', S', ρ', f', s', ev', p'⟩
    by_cases hlt : i < ds.length
    · refine .inr ⟨(isI.step ms' H' S' i f' s' hlt).1, fun σ' H' => ∃ ms' S' ρ', Fut ms1 H1 ms' H' ∧ StOk (wd X Y) ms' S' H' ∧ Ev (wd X Y) ρ' σ' ms' H' ∧ PostS (wd X Y) ms' H' (forL g u (ds.drop (i + 1)) ρ' S') D Y.wx,
        fun σ2 H2 ⟨ms2, S2, ρ2, q⟩ => ⟨ds.length - (i + 1), by omega, rfl, hlt, ms2, S2, ρ2, q⟩, fun x H2 y => ?_⟩
      obtain ⟨f2, s2, r2⟩ := (isI.step ms' H' S' i f' s' hlt).2 x H2 y
      rw [List.drop_eq_getElem_cons hlt] at p'
      have r3 := r2 ds[i] (List.getElem?_eq_getElem hlt)
      unfold forL at p'
      cases hgd : g ds[i] ρ' S' with
      | none => rw [hgd] at p'; exact p'.elim
      | some ρ1 =>
        rw [hgd] at p'
        have p' : PostS (wd X Y) ms' H' ((u ρ1 S').turn (forL g u (List.drop (i + 1) ds))) D Y.wx := p'
        refine ⟨ms', S', ρ', ds[i], r3, ev'.fut f2, s2, ρ1, hgd, fun σ3 ev3 _ => ⟨ms', S', ρ1, ev3, s2, ?_⟩⟩
        cases hu : u ρ1 S' with
        | nx ρ2 S2 => rw [hu] at p'; exact fun σ4 ms4 H4 f4 s4 ev4 => ⟨ms4, S2, ρ2, f'.trans (f2.trans f4), s4, ev4, PostS.fut p' (f2.trans f4)⟩
        | ct ρ2 S2 => rw [hu] at p'; exact fun σ4 ms4 H4 f4 s4 ev4 => ⟨ms4, S2, ρ2, f'.trans (f2.trans f4), s4, ev4, PostS.fut p' (f2.trans f4)⟩
        | bk ρ2 S2 => rw [hu] at p'; exact fun σ4 ms4 H4 f4 s4 ev4 => p' σ4 ms4 H4 (f2.trans f4) s4 ev4
        | rt d S2 => rw [hu] at p'; exact fun v ms4 H4 f4 s4 r4 => p' v ms4 H4 (f2.trans f4) s4 r4
        | exc c ks es ρ2 S2 => rw [hu] at p'; exact fun σ4 C dd ms4 H4 f4 s4 ev4 x4 => p' σ4 C dd ms4 H4 (f2.trans f4) s4 ev4 x4
        | bad => rw [hu] at p'; exact p'
    · have e : i = ds.length := by omega
      subst e
      refine .inl ⟨isI.stop ms' H' S' f' s', ?_⟩
      rw [List.drop_length] at p'
      exact p' σ' ms' H' (Fut.refl _ _) s' ev'
/-- while, with so many turns at most -/
def whileL (t : F Bool) (body : SF) : Nat → SF
  | 0 => fun _ _ => .bad
  | n + 1 => fun ρ S => (t ρ S).st ρ fun k S1 => if k then (body ρ S1).turn (whileL t body n) else .nx ρ S1
theorem ds_while {c : Expr} {body : List Stmt} {t : F Bool} {u : SF} {pos : Pos} (n : Nat) (hp : PassesOwn (model X.prog X.w) X.A X.env X.xe) (hc : DT X Y c t) (hb : DSs X Y body u) : DS X Y (.While c body [] pos) (whileL t u n) := by
  refine PS.weak (ps_while hp hc hb) fun D σ H h => ?_
  refine ⟨fun m σ H => tDS (wd X Y) Y.wx (whileL t u m) D σ H, ⟨n, h⟩, fun m σ H h => ?_⟩
  obtain ⟨ms, S, ρ, ev, st, p⟩ := h
  cases m with
  | zero => exact p.elim
  | succ m =>
    refine ⟨ms, S, ρ, ev, st, PostS.split ev p fun k S1 x ms1 H1 _ f1 s1 r1 p1 => ?_⟩
    cases r1
    cases k with
    | false => exact iteF (p1 σ ms1 H1 (Fut.refl _ _) s1 (ev.fut f1))
    | true =>
      rw [if_pos rfl] at p1
      refine iteT ⟨tDS (wd X Y) Y.wx (whileL t u m) D, fun σ' H' h' => ⟨m, Nat.lt_succ_self m, h'⟩, ms1, S1, ρ, ev.fut f1, s1, ?_⟩
      cases hu : u ρ S1 with
      | nx ρ2 S2 => rw [hu] at p1; exact fun σ4 ms4 H4 f4 s4 ev4 => ⟨ms4, S2, ρ2, ev4, s4, PostS.fut p1 f4⟩
      | ct ρ2 S2 => rw [hu] at p1; exact fun σ4 ms4 H4 f4 s4 ev4 => ⟨ms4, S2, ρ2, ev4, s4, PostS.fut p1 f4⟩
      | bk ρ2 S2 => rw [hu] at p1; exact p1
      | rt d S2 => rw [hu] at p1; exact p1
      | exc c ks es ρ2 S2 => rw [hu] at p1; exact p1
      | bad => rw [hu] at p1; exact p1
end
end Zd

set_option Elab.async false
set_option linter.all false
set_option maxRecDepth 100000
set_option maxHeartbeats 4000000
set_option autoImplicit false
/-! Zd, the operators, the calls. -/
namespace Zd
open PySem PySem.Spec L2
open PyProof.Rows hiding St

theorem op_weak {X : Cx} {f : Value → Value → Sem Value} {r r' : R2} (h : OpR X f r) (w : ∀ x y H Q, r' x y H Q → r x y H Q) : OpR X f r' := fun pins s σ H x y v u Q I rx ry q => h pins s σ H x y v u Q I rx ry (w x y H Q q)
/-- a result of one value that leaves all -/
def valD (d : D) (S : Sto) : R D := .ok d S

section
variable {W : Wd} {ms : List Addr} {S : Sto} {H : Hp} {Q : VK} {E : XK}
theorem Post.val {d : D} {v : V} (h : Post W (relD W) ms H (.ok d S) Q E) (s : StOk W ms S H) (r : Rp W ms (era ms H) v d) : Q v H := h v ms H (Fut.refl _ _) s r
theorem Post.newL {ds : List D} {vs : List V} (h : Post W (relD W) ms H (.ok (.lst ds) S) Q E) (s : StOk W ms S H) (r : RpL W ms (era ms H) vs ds) : ∀ p, H p = none → Q (.ref p) (upd H p (.lst vs)) := fun p hp =>
  h _ ms _ (Fut.new s hp) (s.new hp) (.lst (era_new s hp) (RpL.fut r (Fut.new s hp)))
theorem Post.newT {ds : List D} {vs : List V} (h : Post W (relD W) ms H (.ok (.tup ds) S) Q E) (s : StOk W ms S H) (r : RpL W ms (era ms H) vs ds) : ∀ p, H p = none → Q (.ref p) (upd H p (.tup vs)) := fun p hp =>
  h _ ms _ (Fut.new s hp) (s.new hp) (.tup (.inl (.inl (era_new s hp))) (RpL.fut r (Fut.new s hp)))
end

/-! ### a list, a tuple as they stand -/
/-- the items of a list: of data, or of a cell -/
def asL (d : D) (S : Sto) : Option (List D) := match d with
  | .lst ds => some ds
  | .rol ds => some ds
  | .cell n => match S[n]? with
    | some (.lst ds) => some ds
    | _ => none
  | _ => none
/-- .. that is tracked -/
def asT (d : D) (S : Sto) : Option (List D) := match d with
  | .lst ds => some ds
  | .cell n => match S[n]? with
    | some (.lst ds) => some ds
    | _ => none
  | _ => none
section
variable {W : Wd} {ms : List Addr} {S : Sto} {H : Hp} {d : D} {v : V} {ds : List D}
theorem asT_of (st : StOk W ms S H) (r : Rp W ms (era ms H) v d) (h : asT d S = some ds) : ∃ a vs, v = .ref a ∧ H a = some (.lst vs) ∧ RpL W ms (era ms H) vs ds := by
  unfold asT at h
  split at h
  · cases h; cases r with | lst a b => exact ⟨_, _, rfl, era_same _ _ _ _ a, b⟩
  · rename_i n
    split at h
    · rename_i es e
      cases h
      cases r with
      | cell a =>
        obtain ⟨vs, e1, r1⟩ := st.readL a e
        exact ⟨_, vs, rfl, e1, r1⟩
    · cases h
  · cases h
theorem asL_of (st : StOk W ms S H) (r : Rp W ms (era ms H) v d) (h : asL d S = some ds) : ∃ a vs, v = .ref a ∧ SqL W.K H a vs ∧ RpL W ms (era ms H) vs ds := by
  by_cases q : ∃ es, d = .rol es
  · obtain ⟨es, rfl⟩ := q
    cases h
    cases r with | rol a b => exact ⟨_, _, rfl, Same.seq (era_same _ _) a, b⟩
  · have h' : asT d S = some ds := by
      unfold asL at h; unfold asT
      cases d <;> first | exact h | exact absurd ⟨_, rfl⟩ q
    obtain ⟨a, vs, e, e1, r1⟩ := asT_of st r h'
    exact ⟨a, vs, e, SqL.of e1, r1⟩
theorem tup_of (r : Rp W ms (era ms H) v (.tup ds)) : ∃ a vs, v = .ref a ∧ SqT W.K H a vs ∧ RpL W ms (era ms H) vs ds := by
  cases r with | tup a b => exact ⟨_, _, rfl, Same.sqT (era_same _ _) a, b⟩
end

/-! ### arithmetic -/
section
variable {X : Cx} {Y : Yx}
def mulOk (i j : Int) : Bool := decide (i.natAbs < 2 ^ 200000) && decide (j.natAbs < 2 ^ 200000)
noncomputable def addD (d e : D) (S : Sto) : R D := match d, e with
  | .int i, .int j => .ok (.int (i + j)) S
  | .str a, .str b => if NLe (a.length + b.length) sizeLine then .ok (.str (a ++ b)) S else .bad
  | .tup xs, .tup ys => if NLe (xs.length + ys.length) sizeLine ∧ xs ≠ [] ∧ ys ≠ [] then .ok (.tup (xs ++ ys)) S else .bad
  | d, e => match asT d S, asT e S with
    | some xs, some ys => if NLe (xs.length + ys.length) sizeLine then .ok (.lst (xs ++ ys)) S else .bad
    | _, _ => .bad
def rAddD (K : PySem.W.Frag) : R2 := fun x y H Q => rI0 (fun i j => .int (i + j)) x y H Q ∨ (fun x y H Q => ∃ i j, x = .str i ∧ y = .str j ∧ i.length + j.length ≤ sizeLine ∧ Q (.str (i ++ j)) H) x y H Q ∨ rCat x y H Q ∨ rCatT K x y H Q
theorem op_addD : OpR X (binaryOp .Add) (rAddD X.K) := op_add.or (op_add_str.or (op_cat.or op_catT))
theorem s_addL {W : Wd} {ms : List Addr} {S : Sto} {H : Hp} {x y : V} {d e : D} {Q : VK} {E : XK} (st : StOk W ms S H) (rx : Rp W ms (era ms H) x d) (ry : Rp W ms (era ms H) y e)
    (p : Post W (relD W) ms H (match asT d S, asT e S with
    | some xs, some ys => if NLe (xs.length + ys.length) sizeLine then .ok (.lst (xs ++ ys)) S else .bad
    | _, _ => .bad) Q E) : rCat x y H Q := by
  split at p
  · rename_i xs ys e1 e2
    obtain ⟨a, vs, rfl, h1, r1⟩ := asT_of st rx e1
    obtain ⟨b, us, rfl, h2, r2⟩ := asT_of st ry e2
    split at p
    · rename_i hl
      exact ⟨a, b, vs, us, rfl, rfl, h1, h2, by rw [r1.length, r2.length]; exact hl, p.newL st (r1.append r2)⟩
    · exact p.elim
  · exact p.elim
theorem s_add : OpD (wd X Y) (rAddD X.K) addD := by
  intro ms S H x y d e Q E st rx ry p
  unfold addD at p
  split at p
  · cases rx; cases ry; exact .inl ⟨_, _, rfl, rfl, p.val st (.int _)⟩
  · cases rx; cases ry
    split at p
    · rename_i hl; exact .inr (.inl ⟨_, _, rfl, rfl, hl, p.val st (.str _)⟩)
    · exact p.elim
  · rename_i xs ys
    obtain ⟨a, vs, rfl, h1, r1⟩ := tup_of rx
    obtain ⟨b, us, rfl, h2, r2⟩ := tup_of ry
    split at p
    · rename_i hl
      obtain ⟨hl, hx, hy⟩ := hl
      refine .inr (.inr (.inr ⟨a, b, vs, us, rfl, rfl, h1, h2, fun z => ?_, by rw [r1.length, r2.length]; exact hl, ?_⟩))
      · subst z; have := r1.length; exact hx (List.length_eq_zero_iff.mp this.symm)
      · refine ⟨fun z => ?_, fun _ => p.newT st (r1.append r2)⟩
        subst z; have := r2.length; exact absurd (List.length_eq_zero_iff.mp this.symm) hy
    · exact p.elim
  · exact .inr (.inr (.inl (s_addL st rx ry p)))
def subD (d e : D) (S : Sto) : R D := match d, e with
  | .int i, .int j => .ok (.int (i - j)) S
  | _, _ => .bad
theorem s_sub : OpD (wd X Y) (rI0 fun i j => .int (i - j)) subD := by
  intro ms S H x y d e Q E st rx ry p
  unfold subD at p
  split at p
  · cases rx; cases ry; exact ⟨_, _, rfl, rfl, p.val st (.int _)⟩
  · exact p.elim
/-- a text so many times -/
def repS (z : Str) (k : Nat) : Str := ⟨(List.replicate k z.cps.toList).flatten.toArray⟩
theorem repS_fold (z : Str) : ∀ (k : Nat) (acc : Array Nat), ((List.replicate k z.cps).foldl (· ++ ·) acc).toList = acc.toList ++ (List.replicate k z.cps.toList).flatten
  | 0, acc => by simp
  | k + 1, acc => by
    rw [List.replicate_succ, List.foldl_cons, repS_fold z k, Array.toList_append, List.replicate_succ, List.flatten_cons, List.append_assoc]
theorem repS_eq (z : Str) (k : Nat) : (⟨(List.replicate k z.cps).foldl (· ++ ·) #[]⟩ : Str) = repS z k := by
  apply Str.ext'
  apply Array.toList_inj.mp
  rw [repS_fold]
  simp [repS]
def rMulS : R2 := fun x y H Q => ∃ (z : Str) (n : Int), x = .str z ∧ y = .int n ∧ 0 ≤ n ∧ n ≤ 1000000 ∧ z.length * n.toNat ≤ 1000000 ∧ Q (.str (repS z n.toNat)) H
theorem op_mulS : OpR X (binaryOp .Mult) rMulS := by
  intro pins s σ H x y v u Q I rx ry h
  obtain ⟨z, n, rfl, rfl, h0, h1, h2, q⟩ := h
  obtain ⟨t, rfl⟩ := rx
  obtain ⟨t', rfl⟩ := ry
  have line : z.length * n.toNat ≤ sizeLine := by rw [sizeLine_eq]; omega
  refine PySem.P.mul_str (by rw [decide_eq_false (by omega), decide_eq_false (by omega)]; rfl) (fun a b => ?_) (fun a b => ?_) ?_
  · have hz : z.length ≤ 1000000 := Nat.le_trans (Nat.le_mul_of_pos_right _ (by omega)) h2
    have : (1000000 : Int) ≤ (2 ^ 63 - 1) / n := (Int.le_ediv_iff_mul_le (by omega)).mpr (by omega)
    omega
  · show decide (z.length * n.toNat > sizeLine) = false
    exact decide_eq_false (by omega)
  · by_cases c1 : n < 1
    · rw [if_pos c1]
      have : n.toNat = 0 := by omega
      rw [this] at q
      exact ⟨by decide, .str _, H, I.tok _, ⟨_, rfl⟩, q⟩
    · rw [if_neg c1]
      by_cases c2 : (n == 1 || z.length == 0) = true
      · rw [if_pos c2]
        have e : repS z n.toNat = z := by
          apply Str.ext'
          apply Array.toList_inj.mp
          rcases Bool.or_eq_true_iff.mp c2 with c | c
          · have : n.toNat = 1 := by have := beq_iff_eq.mp c; omega
            rw [this]; simp [repS]
          · have hz : z.cps.toList = [] := by
              have := beq_iff_eq.mp c
              apply List.eq_nil_of_length_eq_zero
              simpa [Str.length] using this
            simp [repS, hz]
        rw [e] at q
        exact ⟨.str _, H, I, ⟨_, rfl⟩, q⟩
      · rw [if_neg c2, repS_eq]
        refine ⟨?_, .str _, H, I.tok _, ⟨_, rfl⟩, q⟩
        have : (repS z n.toNat).length = n.toNat * z.length := by simp [repS, Str.length]
        rw [this, Nat.mul_comm]; exact line
/-- products: a factor below 2 ^ 64, or both below 2 ^ 1000; a list, a text so many times -/
noncomputable def mulD (d e : D) (S : Sto) : R D := match d, e with
  | .int i, .int j => if Bd ((-(2 ^ 64) < i ∧ i < 2 ^ 64) ∨ (-(2 ^ 64) < j ∧ j < 2 ^ 64)) then .ok (.int (i * j)) S else .bad
  | .str z, .int j => if Bd (0 ≤ j ∧ j ≤ 1000000 ∧ z.length * j.toNat ≤ 1000000) then .ok (.str (repS z j.toNat)) S else .bad
  | d, .int k => match asT d S with
    | some xs => if Bd (-(2 ^ 63) ≤ k ∧ k < 2 ^ 63 ∧ xs.length * k.toNat ≤ sizeLine) then .ok (.lst (List.replicate k.toNat xs).flatten) S else .bad
    | none => .bad
  | _, _ => .bad
def rMulD : R2 := fun x y H Q => (rI CMul (fun i j => .int (i * j)) x y H Q ∨ rRep x y H Q) ∨ rMulS x y H Q
theorem op_mulD : OpR X (binaryOp .Mult) rMulD := (op_mul.or op_rep).or op_mulS
theorem RpL.flat {W : Wd} {ms : List Addr} {G : Hp} {vs : List V} {ds : List D} (r : RpL W ms G vs ds) : ∀ n, RpL W ms G (List.replicate n vs).flatten (List.replicate n ds).flatten
  | 0 => .nil
  | n + 1 => by
    rw [List.replicate_succ, List.replicate_succ, List.flatten_cons, List.flatten_cons]
    exact r.append (RpL.flat r n)
theorem s_mul : OpD (wd X Y) rMulD mulD := by
  intro ms S H x y d e Q E st rx ry p
  unfold mulD at p
  split at p
  · cases rx; cases ry
    split at p
    · rename_i hc; exact .inl (.inl ⟨_, _, rfl, rfl, hc, p.val st (.int _)⟩)
    · exact p.elim
  · rename_i z k
    cases rx; cases ry
    split at p
    · rename_i hc; exact .inr ⟨z, k, rfl, rfl, hc.1, hc.2.1, hc.2.2, p.val st (.str _)⟩
    · exact p.elim
  · rename_i k _ _
    cases ry
    split at p
    · rename_i xs e1
      obtain ⟨a, vs, rfl, h1, r1⟩ := asT_of st rx e1
      split at p
      · rename_i hc
        exact .inl (.inr ⟨a, k, vs, rfl, rfl, h1, hc.1, hc.2.1, by rw [r1.length]; exact hc.2.2, p.newL st (r1.flat _)⟩)
      · exact p.elim
    · exact p.elim
  · exact p.elim
/-- floor and rest by a divisor above 0 -/
noncomputable def fdivD (d e : D) (S : Sto) : R D := match d, e with
  | .int i, .int j => if Bd (0 < j ∧ j < 2 ^ 1000) then .ok (.int (i / j)) S else .bad
  | _, _ => .bad
theorem s_fdiv : OpD (wd X Y) (rI CDivW fun i j => .int (i / j)) fdivD := by
  intro ms S H x y d e Q E st rx ry p
  unfold fdivD at p
  split at p
  · cases rx; cases ry
    split at p
    · rename_i hc; exact ⟨_, _, rfl, rfl, wide_div hc.1 (b := 1000) (by have := hc.1; have := hc.2; omega) (by decide) (by decide), p.val st (.int _)⟩
    · exact p.elim
  · exact p.elim
noncomputable def modD (d e : D) (S : Sto) : R D := match d, e with
  | .int i, .int j => if Bd (0 < j) then .ok (.int (i % j)) S else .bad
  | _, _ => .bad
theorem s_mod : OpD (wd X Y) (rI (fun _ j => 0 < j) fun i j => .int (i % j)) modD := by
  intro ms S H x y d e Q E st rx ry p
  unfold modD at p
  split at p
  · cases rx; cases ry
    split at p
    · rename_i hc; exact ⟨_, _, rfl, rfl, hc, p.val st (.int _)⟩
    · exact p.elim
  · exact p.elim
noncomputable def powD (d e : D) (S : Sto) : R D := match d, e with
  | .int i, .int j => if Bd (0 ≤ j ∧ j ≤ 1000000 ∧ i.natAbs < 2 ^ 64) then .ok (.int (i ^ j.toNat)) S else .bad
  | _, _ => .bad
theorem s_pow : OpD (wd X Y) (rI CPow fun i j => .int (i ^ j.toNat)) powD := by
  intro ms S H x y d e Q E st rx ry p
  unfold powD at p
  split at p
  · cases rx; cases ry
    split at p
    · rename_i hc; exact ⟨_, _, rfl, rfl, hc, p.val st (.int _)⟩
    · exact p.elim
  · exact p.elim
def negF (fa : EF) : EF := fun ρ S => (fa ρ S).bind fun d S1 => match d with
  | .int i => .ok (.int (-i)) S1
  | _ => .bad
theorem d_neg {a : Expr} {fa : EF} {pos : Pos} (ha : DE X Y a fa) : DE X Y (.UnaryOp .USub a pos) (negF fa) := by
  refine PE.weak (pe_un un_neg ha) fun σ H Q h => ?_
  obtain ⟨ms, S, ρ, ev, st, p⟩ := h
  refine ⟨ms, S, ρ, ev, st, Post.split p fun d S1 x ms1 H1 _ f1 s1 r1 p1 => ?_⟩
  cases r1 with
  | int i => exact ⟨i, rfl, p1.val s1 (.int _)⟩
  | _ => exact p1.elim

/-! ### comparisons -/
def ltD (d e : D) (S : Sto) : R D := match d, e with
  | .int i, .int j => .ok (.bl (decide (i < j))) S
  | .str a, .str b => .ok (.bl (decide (a.cps.toList < b.cps.toList))) S
  | _, _ => .bad
def leD (d e : D) (S : Sto) : R D := match d, e with
  | .int i, .int j => .ok (.bl (decide (i ≤ j))) S
  | .str a, .str b => .ok (.bl (!decide (b.cps.toList < a.cps.toList))) S
  | _, _ => .bad
def gtD (d e : D) (S : Sto) : R D := match d, e with
  | .int i, .int j => .ok (.bl (decide (j < i))) S
  | .str a, .str b => .ok (.bl (decide (b.cps.toList < a.cps.toList))) S
  | _, _ => .bad
def geD (d e : D) (S : Sto) : R D := match d, e with
  | .int i, .int j => .ok (.bl (decide (j ≤ i))) S
  | .str a, .str b => .ok (.bl (!decide (a.cps.toList < b.cps.toList))) S
  | _, _ => .bad
theorem s_lt : OpD (wd X Y) (fun x y H Q => rI0 (fun i j => .bl (decide (i < j))) x y H Q ∨ (∃ i j, x = V.str i ∧ y = V.str j ∧ Q (.bl (decide (i.cps.toList < j.cps.toList))) H)) ltD := by
  intro ms S H x y d e Q E st rx ry p
  unfold ltD at p
  split at p
  · cases rx; cases ry; exact .inl ⟨_, _, rfl, rfl, p.val st (.bl _)⟩
  · cases rx; cases ry; exact .inr ⟨_, _, rfl, rfl, p.val st (.bl _)⟩
  · exact p.elim
theorem op_ltD : OpR X (compareOp .Lt) (fun x y H Q => rI0 (fun i j => .bl (decide (i < j))) x y H Q ∨ (∃ i j, x = V.str i ∧ y = V.str j ∧ Q (.bl (decide (i.cps.toList < j.cps.toList))) H)) := op_lt.or op_lt_str
theorem s_le : OpD (wd X Y) (fun x y H Q => rI0 (fun i j => .bl (decide (i ≤ j))) x y H Q ∨ (∃ i j, x = V.str i ∧ y = V.str j ∧ Q (.bl (!decide (j.cps.toList < i.cps.toList))) H)) leD := by
  intro ms S H x y d e Q E st rx ry p
  unfold leD at p
  split at p
  · cases rx; cases ry; exact .inl ⟨_, _, rfl, rfl, p.val st (.bl _)⟩
  · cases rx; cases ry; exact .inr ⟨_, _, rfl, rfl, p.val st (.bl _)⟩
  · exact p.elim
theorem op_leD : OpR X (compareOp .LtE) (fun x y H Q => rI0 (fun i j => .bl (decide (i ≤ j))) x y H Q ∨ (∃ i j, x = V.str i ∧ y = V.str j ∧ Q (.bl (!decide (j.cps.toList < i.cps.toList))) H)) := op_le.or op_le_str
theorem s_gt : OpD (wd X Y) (fun x y H Q => rI0 (fun i j => .bl (decide (j < i))) x y H Q ∨ (∃ i j, x = V.str i ∧ y = V.str j ∧ Q (.bl (decide (j.cps.toList < i.cps.toList))) H)) gtD := by
  intro ms S H x y d e Q E st rx ry p
  unfold gtD at p
  split at p
  · cases rx; cases ry; exact .inl ⟨_, _, rfl, rfl, p.val st (.bl _)⟩
  · cases rx; cases ry; exact .inr ⟨_, _, rfl, rfl, p.val st (.bl _)⟩
  · exact p.elim
theorem op_gtD : OpR X (compareOp .Gt) (fun x y H Q => rI0 (fun i j => .bl (decide (j < i))) x y H Q ∨ (∃ i j, x = V.str i ∧ y = V.str j ∧ Q (.bl (decide (j.cps.toList < i.cps.toList))) H)) := op_gt.or op_gt_str
theorem s_ge : OpD (wd X Y) (fun x y H Q => rI0 (fun i j => .bl (decide (j ≤ i))) x y H Q ∨ (∃ i j, x = V.str i ∧ y = V.str j ∧ Q (.bl (!decide (i.cps.toList < j.cps.toList))) H)) geD := by
  intro ms S H x y d e Q E st rx ry p
  unfold geD at p
  split at p
  · cases rx; cases ry; exact .inl ⟨_, _, rfl, rfl, p.val st (.bl _)⟩
  · cases rx; cases ry; exact .inr ⟨_, _, rfl, rfl, p.val st (.bl _)⟩
  · exact p.elim
theorem op_geD : OpR X (compareOp .GtE) (fun x y H Q => rI0 (fun i j => .bl (decide (j ≤ i))) x y H Q ∨ (∃ i j, x = V.str i ∧ y = V.str j ∧ Q (.bl (!decide (i.cps.toList < j.cps.toList))) H)) := op_ge.or op_ge_str

/-! equality of data -/
mutual
def toPD (S : Sto) : D → Option PyData
  | .non => some .none
  | .bl b => some (.bool b)
  | .int i => some (.int i)
  | .str s => some (.str s)
  | .tup ds => (toPDs S ds).map .tuple
  | .lst ds => (toPDs S ds).map .list
  | .rol ds => (toPDs S ds).map .list
  | _ => none
def toPDs (S : Sto) : List D → Option (List PyData)
  | [] => some []
  | d :: ds => (toPD S d).bind fun p => (toPDs S ds).map fun ps => p :: ps
end
/-- a cell at the top is looked into -/
def toP (S : Sto) (d : D) : Option PyData := match d with
  | .cell n => match S[n]? with
    | some (.lst ds) => (toPDs S ds).map .list
    | _ => none
  | d => toPD S d
section
variable {W : Wd} {ms : List Addr} {S : Sto} {H : Hp}
mutual
theorem toPD_of : ∀ (d : D) (v : V) (p : PyData), Rp W ms (era ms H) v d → toPD S d = some p → Dp W.K H v p
  | .non, _, _, r, h => by cases r; cases h; exact .non
  | .bl _, _, _, r, h => by cases r; cases h; exact .bl _
  | .int _, _, _, r, h => by cases r; cases h; exact .int _
  | .str _, _, _, r, h => by cases r; cases h; exact .str _
  | .tup ds, _, _, r, h => by
    obtain ⟨ps, e, rfl⟩ := Option.map_eq_some_iff.mp h
    cases r with | tup a b => exact .tup (Same.sqT (era_same _ _) a) (toPDs_of ds _ ps b e)
  | .lst ds, _, _, r, h => by
    obtain ⟨ps, e, rfl⟩ := Option.map_eq_some_iff.mp h
    cases r with | lst a b => exact .lst (SqL.of (era_same _ _ _ _ a)) (toPDs_of ds _ ps b e)
  | .rol ds, _, _, r, h => by
    obtain ⟨ps, e, rfl⟩ := Option.map_eq_some_iff.mp h
    cases r with | rol a b => exact .lst (Same.seq (era_same _ _) a) (toPDs_of ds _ ps b e)
  | .cell _, _, _, _, h => by cases h
  | .obj _ _ _, _, _, _, h => by cases h
  | .dic _ _, _, _, _, h => by cases h
  | .exn _ _ _, _, _, _, h => by cases h
  | .junk, _, _, _, h => by cases h
theorem toPDs_of : ∀ (ds : List D) (vs : List V) (ps : List PyData), RpL W ms (era ms H) vs ds → toPDs S ds = some ps → DpAll W.K H vs ps
  | [], _, _, r, h => by cases r; cases h; exact .nil
  | d :: ds, _, _, r, h => by
    obtain ⟨p, e1, h⟩ := Option.bind_eq_some_iff.mp h
    obtain ⟨ps, e2, rfl⟩ := Option.map_eq_some_iff.mp h
    cases r with | cons a b => exact .cons (toPD_of d _ p a e1) (toPDs_of ds _ ps b e2)
end
theorem toP_of (st : StOk W ms S H) {d : D} {v : V} {p : PyData} (r : Rp W ms (era ms H) v d) (h : toP S d = some p) : Dp W.K H v p := by
  unfold toP at h
  split at h
  · rename_i n
    split at h
    · rename_i ds e
      obtain ⟨ps, e1, rfl⟩ := Option.map_eq_some_iff.mp h
      cases r with
      | cell a =>
        obtain ⟨vs, e2, r2⟩ := st.readL a e
        exact .lst (SqL.of e2) (toPDs_of ds vs ps r2 e1)
    · cases h
  · exact toPD_of _ _ _ r h
end
def eqvG (S : Sto) (d e : D) : Option Bool := match toP S d, toP S e with
  | some p, some q => if SeqAt.shaped p && SeqAt.shaped q then some (PyData.eqv p q) else none
  | _, _ => none
/-- two flat things of one kind (None with any): by themselves -/
def eqvF (d e : D) : Option Bool := match d, e with
  | .non, .non => some true
  | .bl a, .bl b => some (decide (a = b))
  | .int a, .int b => some (decide (a = b))
  | .str a, .str b => some (decide (a = b))
  | .non, .bl _ => some false
  | .bl _, .non => some false
  | .non, .int _ => some false
  | .int _, .non => some false
  | .non, .str _ => some false
  | .str _, .non => some false
  | .int _, .str _ => some false
  | .str _, .int _ => some false
  | .bl _, .str _ => some false
  | .str _, .bl _ => some false
  | _, _ => none
def eqvD (S : Sto) (d e : D) : Option Bool := match eqvF d e with
  | some b => some b
  | none => eqvG S d e
theorem eqvF_of {W : Wd} {ms : List Addr} {G : Hp} {x y : V} {d e : D} {b : Bool} (rx : Rp W ms G x d) (ry : Rp W ms G y e) (h : eqvF d e = some b) : scal x y = true ∧ b = decide (x = y) := by
  unfold eqvF at h
  split at h
  · cases rx; cases ry; cases h; exact ⟨rfl, rfl⟩
  · cases rx; cases ry; cases h; exact ⟨rfl, by rw [Bool.eq_iff_iff]; simp⟩
  · cases rx; cases ry; cases h; exact ⟨rfl, by rw [Bool.eq_iff_iff]; simp⟩
  · cases rx; cases ry; cases h; exact ⟨rfl, by rw [Bool.eq_iff_iff]; simp⟩
  all_goals first
    | (cases h; done)
    | (cases rx; cases ry; cases h; exact ⟨rfl, by rw [Bool.eq_iff_iff]; simp⟩)
theorem op_eqA (hu : X.A.units + 64 < cLine) : OpR X (compareOp .Eq) (fun x y H Q => rEq x y H Q ∨ rEqD X.K x y H Q) := op_eq.or (op_eqD hu)
theorem op_neA (hu : X.A.units + 64 < cLine) : OpR X (compareOp .NotEq) (fun x y H Q => rNe x y H Q ∨ rNeD X.K x y H Q) := op_ne.or (op_neD hu)
def eqD (d e : D) (S : Sto) : R D := match eqvD S d e with
  | some b => .ok (.bl b) S
  | none => .bad
def neD (d e : D) (S : Sto) : R D := match eqvD S d e with
  | some b => .ok (.bl (!b)) S
  | none => .bad
theorem s_eqv {W : Wd} {ms : List Addr} {S : Sto} {H : Hp} {x y : V} {d e : D} {b : Bool} (st : StOk W ms S H) (rx : Rp W ms (era ms H) x d) (ry : Rp W ms (era ms H) y e) (h : eqvD S d e = some b) :
    (scal x y = true ∧ b = decide (x = y)) ∨ ∃ p q, Dp W.K H x p ∧ Dp W.K H y q ∧ SeqAt.shaped p = true ∧ SeqAt.shaped q = true ∧ b = PyData.eqv p q := by
  unfold eqvD at h
  split at h
  · rename_i c hc
    cases h
    exact .inl (eqvF_of rx ry hc)
  · unfold eqvG at h
    split at h
    · rename_i p q e1 e2
      split at h
      · rename_i hs
        cases h
        obtain ⟨s1, s2⟩ := Bool.and_eq_true_iff.mp hs
        exact .inr ⟨p, q, toP_of st rx e1, toP_of st ry e2, s1, s2, rfl⟩
      · cases h
    · cases h
theorem s_eq : OpD (wd X Y) (fun x y H Q => rEq x y H Q ∨ rEqD X.K x y H Q) eqD := by
  intro ms S H x y d e Q E st rx ry p
  unfold eqD at p
  split at p
  · rename_i b hb
    rcases s_eqv st rx ry hb with ⟨h1, rfl⟩ | ⟨p1, q1, h1, h2, h3, h4, rfl⟩
    · exact .inl ⟨h1, p.val st (.bl _)⟩
    · exact .inr ⟨p1, q1, h1, h2, h3, h4, p.val st (.bl _)⟩
  · exact p.elim
theorem s_ne : OpD (wd X Y) (fun x y H Q => rNe x y H Q ∨ rNeD X.K x y H Q) neD := by
  intro ms S H x y d e Q E st rx ry p
  unfold neD at p
  split at p
  · rename_i b hb
    rcases s_eqv st rx ry hb with ⟨h1, rfl⟩ | ⟨p1, q1, h1, h2, h3, h4, rfl⟩
    · exact .inl ⟨h1, p.val st (.bl _)⟩
    · exact .inr ⟨p1, q1, h1, h2, h3, h4, p.val st (.bl _)⟩
  · exact p.elim
/-! is None, is True, is False -/
def isNoneD : D → Option Bool
  | .non => some true
  | .junk => none
  | _ => some false
def isND (d e : D) (S : Sto) : R D := match e with
  | .non => match isNoneD d with
    | some b => .ok (.bl b) S
    | none => .bad
  | _ => .bad
def notND (d e : D) (S : Sto) : R D := match e with
  | .non => match isNoneD d with
    | some b => .ok (.bl (!b)) S
    | none => .bad
  | _ => .bad
theorem isNone_of {W : Wd} {ms : List Addr} {G : Hp} {x : V} {d : D} {b : Bool} (r : Rp W ms G x d) (h : isNoneD d = some b) : decide (x = .non) = b := by
  cases r <;> first | (cases h; rfl) | (cases h; exact decide_eq_false (fun z => nomatch z)) | cases h
theorem s_isN : OpD (wd X Y) (fun x y H Q => y = .non ∧ Q (.bl (decide (x = .non))) H) isND := by
  intro ms S H x y d e Q E st rx ry p
  unfold isND at p
  split at p
  · cases ry
    split at p
    · rename_i b hb
      exact ⟨rfl, by rw [isNone_of rx hb]; exact p.val st (.bl _)⟩
    · exact p.elim
  · exact p.elim
theorem s_notN : OpD (wd X Y) (fun x y H Q => y = .non ∧ Q (.bl (!decide (x = .non))) H) notND := by
  intro ms S H x y d e Q E st rx ry p
  unfold notND at p
  split at p
  · cases ry
    split at p
    · rename_i b hb
      exact ⟨rfl, by rw [isNone_of rx hb]; exact p.val st (.bl _)⟩
    · exact p.elim
  · exact p.elim
def isBD (d e : D) (S : Sto) : R D := match d, e with
  | .bl a, .bl b => .ok (.bl (decide (a = b))) S
  | _, _ => .bad
def notBD (d e : D) (S : Sto) : R D := match d, e with
  | .bl a, .bl b => .ok (.bl (!decide (a = b))) S
  | _, _ => .bad
theorem s_isB : OpD (wd X Y) rIsB isBD := by
  intro ms S H x y d e Q E st rx ry p
  unfold isBD at p
  split at p
  · cases rx; cases ry; exact ⟨_, _, rfl, rfl, p.val st (.bl _)⟩
  · exact p.elim
theorem s_notB : OpD (wd X Y) rNotB notBD := by
  intro ms S H x y d e Q E st rx ry p
  unfold notBD at p
  split at p
  · cases rx; cases ry; exact ⟨_, _, rfl, rfl, p.val st (.bl _)⟩
  · exact p.elim
/-! in, not in: a sign in a text; a flat thing in a list or a tuple of flat things -/
def flatD : D → Option V
  | .non => some .non
  | .bl b => some (.bl b)
  | .int i => some (.int i)
  | .str s => some (.str s)
  | _ => none
def flatDs : List D → Option (List V)
  | [] => some []
  | d :: ds => (flatD d).bind fun v => (flatDs ds).map fun vs => v :: vs
theorem flatD_of {W : Wd} {ms : List Addr} {G : Hp} {x v : V} {d : D} (r : Rp W ms G x d) (h : flatD d = some v) : x = v ∧ flatV x = true := by
  cases r <;> first | (cases h; exact ⟨rfl, rfl⟩) | cases h
theorem flatDs_of {W : Wd} {ms : List Addr} {G : Hp} : ∀ {ds : List D} {xs vs : List V}, RpL W ms G xs ds → flatDs ds = some vs → xs = vs ∧ xs.all flatV = true
  | [], _, _, r, h => by cases r; cases h; exact ⟨rfl, rfl⟩
  | d :: ds, _, _, r, h => by
    obtain ⟨v, e1, h⟩ := Option.bind_eq_some_iff.mp h
    obtain ⟨vs, e2, rfl⟩ := Option.map_eq_some_iff.mp h
    cases r with
    | cons a b =>
      obtain ⟨rfl, f1⟩ := flatD_of a e1
      obtain ⟨rfl, f2⟩ := flatDs_of b e2
      exact ⟨rfl, by rw [List.all_cons, f1, f2]; rfl⟩
def asQ (d : D) (S : Sto) : Option (List D) := match d with
  | .tup ds => some ds
  | d => asL d S
def inB (d e : D) (S : Sto) : Option Bool := match d, e with
  | .str ⟨⟨[c]⟩⟩, .str z => some (decide (c ∈ z.cps.toList))
  | .str _, .str _ => none
  | d, e => (flatD d).bind fun x => (asQ e S).bind fun es => (flatDs es).map fun xs => inV x xs
def inD (d e : D) (S : Sto) : R D := match inB d e S with
  | some b => .ok (.bl b) S
  | none => .bad
def notInD (d e : D) (S : Sto) : R D := match inB d e S with
  | some b => .ok (.bl (!b)) S
  | none => .bad
theorem asQ_of {W : Wd} {ms : List Addr} {S : Sto} {H : Hp} {d : D} {v : V} {ds : List D} (st : StOk W ms S H) (r : Rp W ms (era ms H) v d) (h : asQ d S = some ds) : ∃ a vs, v = .ref a ∧ (SqL W.K H a vs ∨ SqT W.K H a vs) ∧ RpL W ms (era ms H) vs ds := by
  unfold asQ at h
  split at h
  · cases h
    obtain ⟨a, vs, e, h1, r1⟩ := tup_of r
    exact ⟨a, vs, e, .inr h1, r1⟩
  · obtain ⟨a, vs, e, h1, r1⟩ := asL_of st r h
    exact ⟨a, vs, e, .inl h1, r1⟩
theorem s_inB {W : Wd} {ms : List Addr} {S : Sto} {H : Hp} {x y : V} {d e : D} {b : Bool} (st : StOk W ms S H) (rx : Rp W ms (era ms H) x d) (ry : Rp W ms (era ms H) y e) (h : inB d e S = some b) :
    (∃ c z, x = .str ⟨#[c]⟩ ∧ y = .str z ∧ b = decide (c ∈ z.cps.toList)) ∨ (∃ p xs, y = .ref p ∧ (SqL W.K H p xs ∨ SqT W.K H p xs) ∧ flatV x = true ∧ xs.all flatV = true ∧ b = inV x xs) := by
  unfold inB at h
  split at h
  · cases rx; cases ry; cases h; exact .inl ⟨_, _, rfl, rfl, rfl⟩
  · cases h
  · obtain ⟨v, e1, h⟩ := Option.bind_eq_some_iff.mp h
    obtain ⟨es, e2, h⟩ := Option.bind_eq_some_iff.mp h
    obtain ⟨xs, e3, rfl⟩ := Option.map_eq_some_iff.mp h
    obtain ⟨a, vs, rfl, h1, r1⟩ := asQ_of st ry e2
    obtain ⟨rfl, f1⟩ := flatD_of rx e1
    obtain ⟨rfl, f2⟩ := flatDs_of r1 e3
    exact .inr ⟨a, vs, rfl, h1, f1, f2, rfl⟩
def rInD (K : PySem.W.Frag) : R2 := fun x y H Q => (∃ (c : Nat) (z : Str), x = .str ⟨#[c]⟩ ∧ y = .str z ∧ Q (.bl (decide (c ∈ z.cps.toList))) H) ∨ rIn K false x y H Q
def rNotInD (K : PySem.W.Frag) : R2 := fun x y H Q => (∃ (c : Nat) (z : Str), x = .str ⟨#[c]⟩ ∧ y = .str z ∧ Q (.bl (!decide (c ∈ z.cps.toList))) H) ∨ rIn K true x y H Q
theorem op_inD : OpR X (compareOp .In) (rInD X.K) := op_in_sign.or op_in_seq
theorem op_notInD : OpR X (compareOp .NotIn) (rNotInD X.K) := op_notIn_sign.or op_notIn_seq
theorem s_in : OpD (wd X Y) (rInD X.K) inD := by
  intro ms S H x y d e Q E st rx ry p
  unfold inD at p
  split at p
  · rename_i b hb
    rcases s_inB st rx ry hb with ⟨c, z, rfl, rfl, rfl⟩ | ⟨a, xs, rfl, h1, h2, h3, rfl⟩
    · exact .inl ⟨c, z, rfl, rfl, p.val st (.bl _)⟩
    · exact .inr ⟨a, xs, rfl, h1, h2, h3, p.val st (.bl _)⟩
  · exact p.elim
theorem s_notIn : OpD (wd X Y) (rNotInD X.K) notInD := by
  intro ms S H x y d e Q E st rx ry p
  unfold notInD at p
  split at p
  · rename_i b hb
    rcases s_inB st rx ry hb with ⟨c, z, rfl, rfl, rfl⟩ | ⟨a, xs, rfl, h1, h2, h3, rfl⟩
    · exact .inl ⟨c, z, rfl, rfl, p.val st (.bl _)⟩
    · exact .inr ⟨a, xs, rfl, h1, h2, h3, p.val st (.bl _)⟩
  · exact p.elim
end

/-! ### subscripts, slices -/
section
variable {X : Cx} {Y : Yx} {a b : Expr} {fa fb : EF} {pos : Pos}
noncomputable def ixD (d e : D) (S : Sto) : R D := match e with
  | .int i => match d with
    | .str z => if NLe z.length sizeLine then match atI z.cps.toList i with
      | some c => .ok (.str ⟨#[c]⟩) S
      | none => .bad else .bad
    | d => match asQ d S with
      | some ds => match atI ds i with
        | some x => .ok x S
        | none => .bad
      | none => .bad
  | _ => .bad
theorem atI_rel {W : Wd} {ms : List Addr} {G : Hp} {vs : List V} {ds : List D} {i : Int} {d : D} (r : RpL W ms G vs ds) (h : atI ds i = some d) : ∃ v, atI vs i = some v ∧ Rp W ms G v d := by
  unfold atI at h ⊢
  rw [r.length]
  obtain ⟨j, e1, e2⟩ := Option.bind_eq_some_iff.mp h
  obtain ⟨v, e3, r3⟩ := r.get e2
  exact ⟨v, by rw [e1]; exact e3, r3⟩
theorem s_ix {W : Wd} {ms : List Addr} {S : Sto} {H : Hp} {x y : V} {d e : D} {Q : VK} {E : XK} (st : StOk W ms S H) (rx : Rp W ms (era ms H) x d) (ry : Rp W ms (era ms H) y e) (p : Post W (relD W) ms H (ixD d e S) Q E) : rIx W.K x y H Q := by
  unfold ixD at p
  split at p
  · rename_i i
    cases ry
    split at p
    · rename_i z
      cases rx
      split at p
      · rename_i hz
        split at p
        · rename_i c hc
          exact .inr (.inr ⟨z, i, c, rfl, rfl, hz, hc, p.val st (.str _)⟩)
        · exact p.elim
      · exact p.elim
    · split at p
      · rename_i ds hds
        split at p
        · rename_i v hv
          obtain ⟨a, vs, rfl, h1, r1⟩ := asQ_of st rx hds
          obtain ⟨u, h2, r2⟩ := atI_rel r1 hv
          rcases h1 with h1 | h1
          · exact .inl ⟨a, vs, i, u, rfl, rfl, h1, h2, p.val st r2⟩
          · exact .inr (.inl ⟨a, vs, i, u, rfl, rfl, h1, h2, p.val st r2⟩)
        · exact p.elim
      · exact p.elim
  · exact p.elim
theorem d_ix (ha : DE X Y a fa) (hb : DE X Y b fb) (hs : PlainIx b) : DE X Y (.Subscript a b pos) (binF ixD fa fb) :=
  PE.weak (pe_ix ix_seq ha hb hs) fun _ _ _ h => two_of (fun ms S H x y d e Q E st rx ry p => s_ix (W := wd X Y) st rx ry p) h
def noO : F (Option Int) := fun _ S => .ok none S
def someO (fe : EF) : F (Option Int) := fun ρ S => (fe ρ S).bind fun d S1 => match d with
  | .int i => .ok (some i) S1
  | _ => .bad
theorem do_none : DO X Y none noO := PO.weak po_none fun σ H Q ⟨ms, S, ρ, ev, st, p⟩ => p none ms H (Fut.refl _ _) st rfl
theorem do_some (ha : DE X Y a fa) : DO X Y (some a) (someO fa) := by
  refine PO.weak (po_some ha) fun σ H Q h => ?_
  obtain ⟨ms, S, ρ, ev, st, p⟩ := h
  refine ⟨ms, S, ρ, ev, st, Post.split p fun d S1 x ms1 H1 _ f1 s1 r1 p1 => ?_⟩
  cases r1 with
  | int i => exact ⟨i, rfl, p1 _ ms1 H1 (Fut.refl _ _) s1 rfl⟩
  | _ => exact p1.elim
def cutD (ds : List D) (lo hi : Option Int) : List D := (ds.drop (HT.sIx ds.length 0 lo)).take (HT.sIx ds.length ds.length hi - HT.sIx ds.length 0 lo)
noncomputable def slD (d : D) (lo hi : Option Int) (S : Sto) : R D := match d with
  | .str z => if NLe z.length sizeLine then .ok (.str (cutS z lo hi)) S else .bad
  | .tup ds => if HT.sIx ds.length 0 lo = 0 ∧ HT.sIx ds.length ds.length hi = ds.length then .bad else .ok (.tup (cutD ds lo hi)) S
  | d => match asL d S with
    | some ds => .ok (.lst (cutD ds lo hi)) S
    | none => .bad
noncomputable def slF (fe : EF) (fl fh : F (Option Int)) : EF := fun ρ S => (fe ρ S).bind fun d S1 => (fl ρ S1).bind fun l S2 => (fh ρ S2).bind fun h S3 => slD d l h S3
theorem RpL.cut {W : Wd} {ms : List Addr} {G : Hp} {vs : List V} {ds : List D} (r : RpL W ms G vs ds) (lo hi : Option Int) : RpL W ms G (cutV vs lo hi) (cutD ds lo hi) := by
  unfold cutV cutD
  rw [r.length]
  exact (r.drop _).takeN _
def rSlD (K : PySem.W.Frag) : V → Option Int → Option Int → Hp → VK → Prop := fun x lo hi H Q => rSlL K x lo hi H Q ∨ rSlT K x lo hi H Q ∨ rSlS x lo hi H Q
theorem s_sl {W : Wd} {ms : List Addr} {S : Sto} {H : Hp} {x : V} {d : D} {lo hi : Option Int} {Q : VK} {E : XK} (st : StOk W ms S H) (rx : Rp W ms (era ms H) x d) (p : Post W (relD W) ms H (slD d lo hi S) Q E) : rSlD W.K x lo hi H Q := by
  unfold slD at p
  split at p
  · cases rx
    split at p
    · rename_i hz; exact .inr (.inr ⟨_, rfl, hz, p.val st (.str _)⟩)
    · exact p.elim
  · rename_i ds
    obtain ⟨a, vs, rfl, h1, r1⟩ := tup_of rx
    split at p
    · exact p.elim
    · rename_i hw
      exact .inr (.inl ⟨a, vs, rfl, h1, by rw [r1.length]; exact hw, p.newT st (r1.cut lo hi)⟩)
  · split at p
    · rename_i ds hds
      obtain ⟨a, vs, rfl, h1, r1⟩ := asL_of st rx hds
      exact .inl ⟨a, vs, rfl, h1, p.newL st (r1.cut lo hi)⟩
    · exact p.elim
theorem d_slice {lo hi : Option Expr} {fl fh : F (Option Int)} {p2 : Pos} (ha : DE X Y a fa) (hl : DO X Y lo fl) (hh : DO X Y hi fh) : DE X Y (.Subscript a (.Slice lo hi none p2) pos) (slF fa fl fh) := by
  refine PE.weak (pe_slice (sl_list.or (sl_tup.or sl_str)) ha hl hh) fun σ H Q h => ?_
  obtain ⟨ms, S, ρ, ev, st, p⟩ := h
  refine ⟨ms, S, ρ, ev, st, Post.split p fun d S1 x ms1 H1 _ f1 s1 r1 p1 => ⟨ms1, S1, ρ, ev.fut f1, s1, Post.split p1 fun l S2 y ms2 H2 _ f2 s2 r2 p2 => ⟨ms2, S2, ρ, ev.fut (f1.trans f2), s2, Post.split p2 fun u S3 z ms3 H3 _ f3 s3 r3 p3 => ?_⟩⟩⟩
  cases r2
  cases r3
  exact s_sl (W := wd X Y) s3 (Rp.fut r1 (f2.trans f3)) p3
end
end Zd

set_option Elab.async false
set_option linter.all false
set_option maxRecDepth 100000
set_option maxHeartbeats 4000000
set_option autoImplicit false
/-! Zd, functions and calls, built-ins, methods, comprehensions. -/
namespace Zd
open PySem PySem.Spec L2
open PyProof.Rows hiding St

/-! ### functions -/
abbrev DFun := List D → Sto → R D
/-- what a function's body gives, its own cells let go -/
def leave (n0 : Nat) (r : SR) : R D := match r with
  | .nx _ S => .ok .non (S.take n0)
  | .rt d S => .ok (fz n0 S S.length d) (S.take n0)
  | .exc c ks ds _ S => .exc c ks (ds.map (fz n0 S S.length)) (S.take n0)
  | _ => .bad
def startD (m : Nat) (ds : List D) : Nv := ds.map some ++ List.replicate (m - ds.length) none
def fnF (m : Nat) (g : SF) : DFun := fun ds S => leave S.length (g (startD m ds) S)
/-- .. its own cells kept (a maker of owned things) -/
def fnK (m : Nat) (g : SF) : DFun := fun ds S => match g (startD m ds) S with
  | .nx _ S => .ok .non S
  | .rt d S => .ok d S
  | .exc c ks ds _ S => .exc c ks ds S
  | _ => .bad
def spD (W : Wd) (Ff : DFun) (n : Nat) : Sp := fun vs H Q E => vs.length = n ∧ ∃ ms S ds, RpL W ms (era ms H) vs ds ∧ StOk W ms S H ∧ Post W (relD W) ms H (Ff ds S) Q E

section
variable {W : Wd} {ms : List Addr} {H : Hp} {S : Sto} {ds : List D} {vs : List V}
theorem Ev.start (N : List Str) (r : RpL W ms (era ms H) vs ds) : Ev W (startD N.length ds) (start N vs) ms H := by
  refine ⟨by simp [startD, L2.start, r.length], fun i d h => ?_⟩
  unfold startD at h
  by_cases hi : i < ds.length
  · rw [List.getElem?_append_left (by simpa using hi), List.getElem?_map] at h
    obtain ⟨x, hx, e⟩ := Option.map_eq_some_iff.mp h
    cases e
    obtain ⟨v, e1, r1⟩ := r.get hx
    refine ⟨v, ?_, r1⟩
    unfold L2.start
    rw [List.getElem?_append_left (by simp [r.length]; exact hi), List.getElem?_map, e1]
    rfl
  · rw [List.getElem?_append_right (by simpa using hi)] at h
    have := List.mem_of_getElem? h
    rw [List.mem_replicate] at this
    cases this.2
theorem leave_of {Q : VK} {E : XK} {r : SR} (st : StOk W ms S H) (p : Post W (relD W) ms H (leave S.length r) Q E) :
    PostS W ms H r { nx := fun _ H' => Q .non H', rt := Q } (fun c d _ H => E c d H) := by
  cases r with
  | nx ρ S' =>
    intro σ ms' H' f s e
    obtain ⟨e1, f1⟩ := Fut.drop s st.len.symm f
    have s1 := s.take S.length
    rw [e1] at s1
    exact p .non ms H' f1 s1 .non
  | rt d S' =>
    intro v ms' H' f s r
    obtain ⟨e1, f1⟩ := Fut.drop s st.len.symm f
    have s1 := s.take S.length
    have r1 := Rp.fz s S.length S'.length d v r
    rw [e1] at s1 r1
    exact p v ms H' f1 s1 r1
  | exc c ks ds ρ S' =>
    intro σ C dd ms' H' f s e x
    obtain ⟨e1, f1⟩ := Fut.drop s st.len.symm f
    have s1 := s.take S.length
    obtain ⟨g, us, hz, hl, rr⟩ := x
    have hz1 := era_take s S.length _ _ hz
    have rr1 : RpL W (ms'.take S.length) (era (ms'.take S.length) H') us (ds.map (fz S.length S' S'.length)) := RpL.mapD (fun d v r => Rp.fz s S.length S'.length d v r) rr
    rw [e1] at s1 hz1 rr1
    exact p C dd ms H' f1 s1 ⟨g, us, hz1, hl, rr1⟩
  | bk _ _ => exact p.elim
  | ct _ _ => exact p.elim
  | bad => exact p.elim
theorem keep_of {Q : VK} {E : XK} {r : SR} (p : Post W (relD W) ms H (match r with
  | .nx _ S => .ok .non S
  | .rt d S => .ok d S
  | .exc c ks ds _ S => .exc c ks ds S
  | _ => .bad) Q E) :
    PostS W ms H r { nx := fun _ H' => Q .non H', rt := Q } (fun c d _ H => E c d H) := by
  cases r with
  | nx ρ S' => exact fun σ ms' H' f s e => p .non ms' H' f s .non
  | rt d S' => exact fun v ms' H' f s r => p v ms' H' f s r
  | exc c ks ds ρ S' => exact fun σ C dd ms' H' f s e x => p C dd ms' H' f s x
  | bk _ _ => exact p.elim
  | ct _ _ => exact p.elim
  | bad => exact p.elim
end

/-- what one knows of a def named x of n parameters: it does Ff -/
structure KD (P : Program) (w : World) (K : PySem.W.Frag) (mg : Str → Option Value) (base : Heap) (x : Str) (n : Nat) (Ff : DFun) (k : Nat) : Prop where
  ex : ∃ (f : Addr) (fd : FuncData) (ps : List Str), FnOk P w K mg base (L2.CX P w) k f fd ps (spD ⟨K, mg, none⟩ Ff n) ∧ mg x = some (.ref f) ∧ PySem.W.keepIn K (.ref f) = true ∧ Binds K fd ps []
section
variable {P : Program} {w : World} {K : PySem.W.Frag} {mg : Str → Option Value} {base : Heap}
/-- the context of a def's body -/
abbrev yE (E : XK) : Yx := ⟨none, fun c d _ H => E c d H⟩
theorem fn_okD {x qual : Str} {st : Stmt} {f : Addr} {fd : FuncData} {N ps : List Str} {k : Nat} {g : SF} {Ff : DFun} (F : Fun K x qual st f fd) (S : FnScope N ps (defScope st)) (hF : Ff = fnF N.length g ∨ Ff = fnK N.length g)
    (body : ∀ (cdv : Value) (A : Around) (outer : List Env) (s : Shared) (H : Hp) (E : XK), Room k (A.deeper (envOfC qual (defScope st) s.heap.objs.size f cdv)) →
      Takes (cxOf (L2.CX P w) P w K mg base N qual (defScope st) f cdv A outer s H E) (fun c d _ H => E c d H) →
      PassesOwn (model P w) (A.deeper (envOfC qual (defScope st) s.heap.objs.size f cdv)) (envOfC qual (defScope st) s.heap.objs.size f cdv) (cxOf (L2.CX P w) P w K mg base N qual (defScope st) f cdv A outer s H E).xe →
      DSs (cxOf (L2.CX P w) P w K mg base N qual (defScope st) f cdv A outer s H E) (yE E) (defBody st) g) : FnOk P w K mg base (L2.CX P w) (k + 1) f fd ps (spD ⟨K, mg, none⟩ Ff ps.length) := by
  refine F.okX S (fun vs H Q E h => h.1) (fun cdv A outer s H vs Q E hr h => ⟨_, body cdv A outer s H E hr (takes_of rfl rfl rfl rfl) (passes_of rfl), ?_⟩)
  obtain ⟨_, ms, Sto, ds, r, st, p⟩ := h
  refine ⟨ms, Sto, startD N.length ds, Ev.start N r, st, ?_⟩
  rcases hF with e | e
  · subst e; exact leave_of st p
  · subst e; exact keep_of p
theorem kd_mk {x qual : Str} {st : Stmt} {f : Addr} {fd : FuncData} {N ps : List Str} {k : Nat} {g : SF} {Ff : DFun} (F : Fun K x qual st f fd) (S : FnScope N ps (defScope st)) (hF : Ff = fnF N.length g ∨ Ff = fnK N.length g)
    (hm : mg x = some (.ref f)) (hb : Binds K fd ps [])
    (body : ∀ (cdv : Value) (A : Around) (outer : List Env) (s : Shared) (H : Hp) (E : XK), Room k (A.deeper (envOfC qual (defScope st) s.heap.objs.size f cdv)) →
      Takes (cxOf (L2.CX P w) P w K mg base N qual (defScope st) f cdv A outer s H E) (fun c d _ H => E c d H) →
      PassesOwn (model P w) (A.deeper (envOfC qual (defScope st) s.heap.objs.size f cdv)) (envOfC qual (defScope st) s.heap.objs.size f cdv) (cxOf (L2.CX P w) P w K mg base N qual (defScope st) f cdv A outer s H E).xe →
      DSs (cxOf (L2.CX P w) P w K mg base N qual (defScope st) f cdv A outer s H E) (yE E) (defBody st) g) : KD P w K mg base x ps.length Ff (k + 1) :=
  ⟨f, fd, ps, fn_okD F S hF body, hm, F.kp, hb⟩
theorem KD.mono {x : Str} {n : Nat} {Ff : DFun} {j k : Nat} (h : KD P w K mg base x n Ff j) (l : j ≤ k) : KD P w K mg base x n Ff k := by
  obtain ⟨f, fd, ps, F, a, b, c⟩ := h.ex
  exact ⟨f, fd, ps, F.mono l, a, b, c⟩
end

section
variable {X : Cx} {wx : WX}
def callF (n : Nat) (Ff : DFun) (fs : F (List D)) : EF := fun ρ S => (fs ρ S).bind fun ds S1 => if ds.length = n then Ff ds S1 else .bad
/-- f(e, ..) -/
theorem d_call {x : Str} {n k : Nat} {Ff : DFun} {e : Expr} {es : List Expr} {fs : F (List D)} {p pos : Pos} (h : KD X.prog X.w X.K X.mg X.base x n Ff k) (hr : Room k X.A) (tk : Takes X wx) (hg : Gl X x) (ha : DA X ⟨none, wx⟩ (e :: es) fs)
    (hdb : (x == ("__debug__" : Str)) = false := by decide) (he : starEach (e :: es) X.env = (false, eval e X.env) :: starEach es X.env := by rfl) (hpl : (backTo pos (starEach es X.env)).any (·.1) = false := by rfl) :
    DE X ⟨none, wx⟩ (.Call (.Name x p) (e :: es) [] pos) (callF n Ff fs) := by
  obtain ⟨f, fd, ps, F, hm, hk, hb⟩ := h.ex
  refine PE.weak (pe_callS (E := WE wx) F hr hg hm hk hb (fun σ => passAt tk σ) ha hdb he hpl) fun σ H Q h => ?_
  obtain ⟨ms, S, ρ, ev, st, p⟩ := h
  refine ⟨ms, S, ρ, ev, st, Post.split p fun ds S1 vs ms1 H1 _ f1 s1 r1 p1 => ?_⟩
  split at p1
  · rename_i hn
    exact ⟨by rw [r1.length]; exact hn, ms1, S1, ds, r1, s1, p1⟩
  · exact p1.elim
/-- f() -/
theorem d_call0 {x : Str} {k : Nat} {Ff : DFun} {p pos : Pos} (h : KD X.prog X.w X.K X.mg X.base x 0 Ff k) (hr : Room k X.A) (hw : ∀ c d H, (∃ σ, wx c d σ H) → ∀ σ, wx c d σ H) (tk : Takes X wx) (hg : Gl X x)
    (hdb : (x == ("__debug__" : Str)) = false := by decide) : DE X ⟨none, wx⟩ (.Call (.Name x p) [] [] pos) (fun _ S => Ff [] S) := by
  obtain ⟨f, fd, ps, F, hm, hk, hb⟩ := h.ex
  refine PE.weak (pe_call0 (E := fun c d H => ∃ σ, wx c d σ H) F hr hg hm hk hb .nil (passes_call tk fun c d σ H h => hw c d H h σ) hdb) fun σ H Q h => ?_
  obtain ⟨ms, S, ρ, ev, st, p⟩ := h
  exact ⟨rfl, ms, S, [], .nil, st, Post.mono p (fun _ _ q => q) fun c d H q => ⟨σ, q⟩⟩
end

/-- a constant of the module, its token open -/
theorem d_globE {X : Cx} {Y : Yx} {x : Str} {v : V} {d : D} {pos : Pos} (hm : ∃ u, X.mg x = some u ∧ RelV v u) (hg : Gl X x) (rd : ∀ W ms G, Rp W ms G v d) (hd : (x == ("__debug__" : Str)) = false := by decide) : DE X Y (.Name x pos) (cE d) := by
  obtain ⟨u, e, r⟩ := hm
  exact d_glob hg e r rd hd
/-! ### built-ins, by values -/
section
variable {X : Cx} {Y : Yx}
def CallD (W : Wd) (r : List V → Hp → VK → Prop) (g : List D → Sto → R D) : Prop := ∀ (ms : List Addr) (S : Sto) (H : Hp) (vs : List V) (ds : List D) (Q : VK) (E : XK), StOk W ms S H → RpL W ms (era ms H) vs ds → Post W (relD W) ms H (g ds S) Q E → r vs H Q
def appF (g : List D → Sto → R D) (fs : F (List D)) : EF := fun ρ S => (fs ρ S).bind fun ds S1 => g ds S1
theorem app_of {W : Wd} {Wx : WX} {fs : F (List D)} {g : List D → Sto → R D} {r : List V → Hp → VK → Prop} (hr : CallD W r g) {σ : St} {H : Hp} {Q : VK} (h : tX W Wx (relD W) (appF g fs) σ H Q) : tX W Wx (relL W) fs σ H fun vs H1 => r vs H1 Q := by
  obtain ⟨ms, S, ρ, ev, st, p⟩ := h
  exact ⟨ms, S, ρ, ev, st, Post.split p fun ds S1 vs ms1 H1 _ f1 s1 r1 p1 => hr ms1 S1 H1 vs ds Q _ s1 r1 p1⟩
variable {x : Str} {p pos : Pos} {e : Expr} {es : List Expr} {fs : F (List D)} {id T : String} {r : List V → Hp → VK → Prop} {g : List D → Sto → R D}
theorem d_callB (hc : CallR X (.builtin id) r) (hr : CallD (wd X Y) r g) (hg : Gl X x) (hm : X.mg x = none) (hv : bootBuiltins x = some (.builtin id)) (ha : DA X Y (e :: es) fs) (hn : x ≠ "__name__" := by decide) (hdb : (x == ("__debug__" : Str)) = false := by decide)
    (he : starEach (e :: es) X.env = (false, eval e X.env) :: starEach es X.env := by rfl) (hpl : (backTo pos (starEach es X.env)).any (·.1) = false := by rfl) : DE X Y (.Call (.Name x p) (e :: es) [] pos) (appF g fs) :=
  PE.weak (pe_callB hc hg hm hv ha hn hdb he hpl) fun _ _ _ h => app_of hr h
theorem d_callTy (hc : CallR X (.type T) r) (hr : CallD (wd X Y) r g) (hg : Gl X x) (hm : X.mg x = none) (hv : bootBuiltins x = some (.type T)) (ha : DA X Y (e :: es) fs) (hn : x ≠ "__name__" := by decide) (hdb : (x == ("__debug__" : Str)) = false := by decide)
    (he : starEach (e :: es) X.env = (false, eval e X.env) :: starEach es X.env := by rfl) (hpl : (backTo pos (starEach es X.env)).any (·.1) = false := by rfl) : DE X Y (.Call (.Name x p) (e :: es) [] pos) (appF g fs) :=
  PE.weak (pe_callTy hc hg hm hv ha hn hdb he hpl) fun _ _ _ h => app_of hr h
theorem RpL.one {W : Wd} {ms : List Addr} {G : Hp} {vs : List V} {d : D} (r : RpL W ms G vs [d]) : ∃ v, vs = [v] ∧ Rp W ms G v d := by
  cases r with | cons a b => cases b; exact ⟨_, rfl, a⟩
theorem RpL.two {W : Wd} {ms : List Addr} {G : Hp} {vs : List V} {d e : D} (r : RpL W ms G vs [d, e]) : ∃ v u, vs = [v, u] ∧ Rp W ms G v d ∧ Rp W ms G u e := by
  cases r with | cons a b => obtain ⟨u, rfl, c⟩ := RpL.one b; exact ⟨_, _, rfl, a, c⟩

noncomputable def lenD (ds : List D) (S : Sto) : R D := match ds with
  | [.str z] => if NLe z.length sizeLine then .ok (.int z.length) S else .bad
  | [d] => match asQ d S with
    | some xs => .ok (.int xs.length) S
    | none => .bad
  | _ => .bad
theorem s_len : CallD (wd X Y) (fun xs H Q => ∃ x n, xs = [x] ∧ LenV X.K x H n ∧ Q (.int n) H) lenD := by
  intro ms S H vs ds Q E st r p
  unfold lenD at p
  split at p
  · obtain ⟨v, rfl, a⟩ := r.one
    cases a
    split at p
    · rename_i hz; exact ⟨_, _, rfl, ⟨hz, rfl⟩, p.val st (.int _)⟩
    · exact p.elim
  · obtain ⟨v, rfl, a⟩ := r.one
    split at p
    · rename_i xs hx
      obtain ⟨q, us, rfl, h1, r1⟩ := asQ_of st a hx
      refine ⟨_, us.length, rfl, ?_, by rw [r1.length]; exact p.val st (.int _)⟩
      rcases h1 with h1 | h1
      · exact .inl ⟨us, h1, rfl⟩
      · exact .inr ⟨us, h1, rfl⟩
    · exact p.elim
  · exact p.elim
def max2D (ds : List D) (S : Sto) : R D := match ds with
  | [.int i, .int j] => .ok (.int (if j > i then j else i)) S
  | _ => .bad
theorem s_max2 : CallD (wd X Y) (fun xs H Q => ∃ i j, xs = [.int i, .int j] ∧ Q (.int (if j > i then j else i)) H) max2D := by
  intro ms S H vs ds Q E st r p
  unfold max2D at p
  split at p
  · obtain ⟨v, u, rfl, a, b⟩ := r.two
    cases a; cases b; exact ⟨_, _, rfl, p.val st (.int _)⟩
  · exact p.elim
def min2D (ds : List D) (S : Sto) : R D := match ds with
  | [.int i, .int j] => .ok (.int (if j < i then j else i)) S
  | _ => .bad
theorem s_min2 : CallD (wd X Y) (fun xs H Q => ∃ i j, xs = [.int i, .int j] ∧ Q (.int (if j < i then j else i)) H) min2D := by
  intro ms S H vs ds Q E st r p
  unfold min2D at p
  split at p
  · obtain ⟨v, u, rfl, a, b⟩ := r.two
    cases a; cases b; exact ⟨_, _, rfl, p.val st (.int _)⟩
  · exact p.elim
def absD (ds : List D) (S : Sto) : R D := match ds with
  | [.int i] => .ok (.int (if i < 0 then -i else i)) S
  | _ => .bad
theorem s_abs : CallD (wd X Y) (fun xs H Q => ∃ i, xs = [.int i] ∧ Q (.int (if i < 0 then -i else i)) H) absD := by
  intro ms S H vs ds Q E st r p
  unfold absD at p
  split at p
  · obtain ⟨v, rfl, a⟩ := r.one
    cases a; exact ⟨_, rfl, p.val st (.int _)⟩
  · exact p.elim
noncomputable def intD (ds : List D) (S : Sto) : R D := match ds with
  | [.int i] => .ok (.int i) S
  | [.bl b] => .ok (.int (if b then 1 else 0)) S
  | [.str z] => match PySem.intText? z with
    | some n => if NLe z.length 640 then .ok (.int n) S else .bad
    | none => .bad
  | _ => .bad
theorem call_intD : CallR X (.type "int") (fun xs H Q => ((∃ i, xs = [.int i] ∧ Q (.int i) H) ∨ ∃ k, xs = [.bl k] ∧ Q (.int (if k then 1 else 0)) H) ∨ ∃ a n, xs = [.str a] ∧ PySem.intText? a = some n ∧ a.length ≤ 640 ∧ Q (.int n) H) := call_int1.or call_int_str
theorem s_int : CallD (wd X Y) (fun xs H Q => ((∃ i, xs = [.int i] ∧ Q (.int i) H) ∨ ∃ k, xs = [.bl k] ∧ Q (.int (if k then 1 else 0)) H) ∨ ∃ a n, xs = [.str a] ∧ PySem.intText? a = some n ∧ a.length ≤ 640 ∧ Q (.int n) H) intD := by
  intro ms S H vs ds Q E st r p
  unfold intD at p
  split at p
  · obtain ⟨v, rfl, a⟩ := r.one; cases a; exact .inl (.inl ⟨_, rfl, p.val st (.int _)⟩)
  · obtain ⟨v, rfl, a⟩ := r.one; cases a; exact .inl (.inr ⟨_, rfl, p.val st (.int _)⟩)
  · obtain ⟨v, rfl, a⟩ := r.one; cases a
    split at p
    · rename_i n hn
      split at p
      · rename_i hz; exact .inr ⟨_, n, rfl, hn, hz, p.val st (.int _)⟩
      · exact p.elim
    · exact p.elim
  · exact p.elim
noncomputable def strD (ds : List D) (S : Sto) : R D := match ds with
  | [.int i] => if NLe (i.natAbs.log2 + 1) 1920 then .ok (.str (toString i)) S else .bad
  | _ => .bad
theorem s_str : CallD (wd X Y) (fun xs H Q => ∃ i, xs = [.int i] ∧ i.natAbs.log2 < 1920 ∧ Q (.str (toString i)) H) strD := by
  intro ms S H vs ds Q E st r p
  unfold strD at p
  split at p
  · obtain ⟨v, rfl, a⟩ := r.one; cases a
    split at p
    · rename_i h; exact ⟨_, rfl, h, p.val st (.str _)⟩
    · exact p.elim
  · exact p.elim
def intsOf : List D → Option (List Int)
  | [] => some []
  | .int i :: ds => (intsOf ds).map fun ns => i :: ns
  | _ :: _ => none
theorem intsOf_of {W : Wd} {ms : List Addr} {G : Hp} : ∀ {ds : List D} {vs : List V} {ns : List Int}, RpL W ms G vs ds → intsOf ds = some ns → vs = ns.map V.int
  | [], _, _, r, h => by cases r; cases h; rfl
  | d :: ds, _, _, r, h => by
    cases d <;> first
      | cases h
      | (obtain ⟨ns, e, rfl⟩ := Option.map_eq_some_iff.mp h
         cases r with | cons a b => cases a; rw [intsOf_of b e]; rfl)
def sumD (ds : List D) (S : Sto) : R D := match ds with
  | [d] => match (asQ d S).bind intsOf with
    | some ns => .ok (.int ns.sum) S
    | none => .bad
  | _ => .bad
/-- the sum of a list or a tuple of whole numbers -/
def rSumA (K : PySem.W.Frag) : List V → Hp → VK → Prop := fun vs H Q => ∃ (a : Addr) (ns : List Int), vs = [V.ref a] ∧ (SqL K H a (ns.map V.int) ∨ SqT K H a (ns.map V.int)) ∧ Q (.int ns.sum) H
theorem call_sumA {X : Cx} (hc : X.calm = true) : CallR X (.builtin "sum") (rSumA X.K) := by
  intro pins s σ H vs us Q I r h
  obtain ⟨a, ns, rfl, hs | hs, q⟩ := h
  · exact cr_sum hc pins s σ H _ us Q I r ⟨a, ns, rfl, hs, q⟩
  · obtain ⟨its, rv, ht, _⟩ := I.tuple hs
    rw [Vals.ref1 r]
    have whole := rv.ints
    obtain ⟨xs, ex⟩ := whole.allInts.items
    have en : numsOf (intItems xs).toList = ns := by rw [← ex]; exact whole.numsOf
    rw [nums_intItems] at en
    rw [ex] at ht
    refine PySem.W.ktm_sumG (I.ok.hd hc) ht fun h' tk t' hk => ?_
    rw [preSum_eq, List.take_of_length_le (by simp), en]
    exact ⟨.int _, H, I.kept hk, ⟨_, rfl⟩, q⟩
theorem s_sum : CallD (wd X Y) (rSumA X.K) sumD := by
  intro ms S H vs ds Q E st r p
  unfold sumD at p
  split at p
  · obtain ⟨v, rfl, a⟩ := r.one
    split at p
    · rename_i ns hn
      obtain ⟨xs, e1, e2⟩ := Option.bind_eq_some_iff.mp hn
      obtain ⟨q, us, rfl, h1, r1⟩ := asQ_of st a e1
      rw [intsOf_of r1 e2] at h1
      exact ⟨q, ns, rfl, h1, p.val st (.int _)⟩
    · exact p.elim
  · exact p.elim
/-- the greatest of a list that is not empty -/
def maxI : List Int → Int
  | [] => 0
  | [a] => a
  | a :: l => max a (maxI l)
theorem maxI_mem : ∀ l : List Int, l ≠ [] → maxI l ∈ l
  | [], h => absurd rfl h
  | [a], _ => by simp [maxI]
  | a :: b :: l, _ => by
    have ih := maxI_mem (b :: l) (by simp)
    show max a (maxI (b :: l)) ∈ _
    rw [Int.max_def]
    split
    · exact List.mem_cons_of_mem _ ih
    · exact List.mem_cons_self
theorem maxI_le : ∀ (l : List Int) (y : Int), y ∈ l → y ≤ maxI l
  | [], _, h => by cases h
  | [a], y, h => by simp at h; subst h; exact Int.le_refl _
  | a :: b :: l, y, h => by
    show y ≤ max a (maxI (b :: l))
    rcases List.mem_cons.mp h with rfl | h
    · omega
    · have := maxI_le (b :: l) y h; omega
def maxD (ds : List D) (S : Sto) : R D := match ds with
  | [d] => match (asL d S).bind intsOf with
    | some ns => if ns = [] then .bad else .ok (.int (maxI ns)) S
    | none => .bad
  | _ => .bad
theorem s_max : CallD (wd X Y) (rMax X.K) maxD := by
  intro ms S H vs ds Q E st r p
  unfold maxD at p
  split at p
  · obtain ⟨v, rfl, a⟩ := r.one
    split at p
    · rename_i ns hn
      obtain ⟨xs, e1, e2⟩ := Option.bind_eq_some_iff.mp hn
      obtain ⟨q, us, rfl, h1, r1⟩ := asL_of st a e1
      rw [intsOf_of r1 e2] at h1
      split at p
      · exact p.elim
      · rename_i hne
        refine ⟨q, ns, rfl, h1, List.length_pos_iff.mpr hne, fun m hm hle => ?_⟩
        have e : m = maxI ns := Int.le_antisymm (maxI_le ns m hm) (hle _ (maxI_mem ns hne))
        rw [e]
        exact p.val st (.int _)
    · exact p.elim
  · exact p.elim
def tupleD (ds : List D) (S : Sto) : R D := match ds with
  | [.tup xs] => .ok (.tup xs) S
  | [d] => match asL d S with
    | some xs => .ok (.tup xs) S
    | none => .bad
  | _ => .bad
theorem s_tuple : CallD (wd X Y) (fun xs H Q => ∃ p ys, xs = [.ref p] ∧ ((SqL X.K H p ys ∧ ∀ l, H l = none → Q (.ref l) (upd H l (.tup ys))) ∨ (SqT X.K H p ys ∧ Q (.ref p) H))) tupleD := by
  intro ms S H vs ds Q E st r p
  unfold tupleD at p
  split at p
  · obtain ⟨v, rfl, a⟩ := r.one
    obtain ⟨q, us, rfl, h1, r1⟩ := tup_of a
    exact ⟨q, us, rfl, .inr ⟨h1, p.val st a⟩⟩
  · obtain ⟨v, rfl, a⟩ := r.one
    split at p
    · rename_i xs hx
      obtain ⟨q, us, rfl, h1, r1⟩ := asL_of st a hx
      exact ⟨q, us, rfl, .inl ⟨h1, p.newT st r1⟩⟩
    · exact p.elim
  · exact p.elim
def listD (ds : List D) (S : Sto) : R D := match ds with
  | [d] => match asQ d S with
    | some xs => .ok (.lst xs) S
    | none => .bad
  | _ => .bad
theorem s_list : CallD (wd X Y) (fun xs H Q => ∃ p ys, xs = [.ref p] ∧ (SqL X.K H p ys ∨ SqT X.K H p ys) ∧ ∀ l, H l = none → Q (.ref l) (upd H l (.lst ys))) listD := by
  intro ms S H vs ds Q E st r p
  unfold listD at p
  split at p
  · obtain ⟨v, rfl, a⟩ := r.one
    split at p
    · rename_i xs hx
      obtain ⟨q, us, rfl, h1, r1⟩ := asQ_of st a hx
      exact ⟨q, us, rfl, h1, p.newL st r1⟩
    · exact p.elim
  · exact p.elim

/-! isinstance of one built-in class -/
def tyN (d : D) (S : Sto) : Option String := match d with
  | .non => some "NoneType"
  | .bl _ => some "bool"
  | .int _ => some "int"
  | .str _ => some "str"
  | .tup _ => some "tuple"
  | .lst _ => some "list"
  | .dic _ _ => some "dict"
  | .cell n => match S[n]? with
    | some (.lst _) => some "list"
    | some (.dic _ _) => some "dict"
    | _ => none
  | _ => none
/-- the answer for the classes that occur -/
def tyIs (t n : String) : Option Bool := match n with
  | "str" => some (t == "str")
  | "bool" => some (t == "bool")
  | "int" => some (t == "int" || t == "bool")
  | "tuple" => some (t == "tuple")
  | "list" => some (t == "list")
  | "dict" => some (t == "dict")
  | _ => none
theorem tyIs_ok : ∀ t ∈ ["NoneType", "bool", "int", "str", "tuple", "list", "dict"], ∀ n ∈ ["str", "bool", "int", "tuple", "list", "dict"], kitB t n = tyIs t n := by decide +kernel
theorem tyN_mem {d : D} {S : Sto} {t : String} (h : tyN d S = some t) : t ∈ ["NoneType", "bool", "int", "str", "tuple", "list", "dict"] := by
  unfold tyN at h
  split at h <;> first | (cases h; decide) | (split at h <;> first | (cases h; decide) | cases h) | cases h
theorem tyIs_mem {t n : String} {b : Bool} (h : tyIs t n = some b) : n ∈ ["str", "bool", "int", "tuple", "list", "dict"] := by
  unfold tyIs at h
  split at h <;> first | decide | cases h
theorem sqT_ty {W : Wd} {ms : List Addr} {H : Hp} {a : Addr} {vs : List V} (h : SqT W.K (era ms H) a vs) : TyX W.K H (.ref a) (.type "tuple") := by
  rcases h with (h | ⟨o, h⟩) | ⟨o, its, n, hk, hc, _⟩
  · exact .base (.tup (era_same _ _ _ _ h))
  · exact .fTuple (era_same _ _ _ _ h)
  · exact .kTuple hk hc
theorem tyN_of {W : Wd} {ms : List Addr} {S : Sto} {H : Hp} {d : D} {v : V} {t : String} (st : StOk W ms S H) (r : Rp W ms (era ms H) v d) (h : tyN d S = some t) : TyX W.K H v (.type t) := by
  unfold tyN at h
  split at h
  · cases h; cases r; exact .base .non
  · cases h; cases r; exact .base (.bl _)
  · cases h; cases r; exact .base (.int _)
  · cases h; cases r; exact .base (.str _)
  · cases h; cases r with | tup a b => exact sqT_ty a
  · cases h; cases r with | lst a b => exact .base (.lst (era_same _ _ _ _ a))
  · cases h; cases r with | dic a e b => exact .base (.dK (era_same _ _ _ _ a))
  · cases r with
    | cell a =>
      split at h
      · rename_i xs e
        cases h
        obtain ⟨vs, e1, _⟩ := st.readL a e
        exact .base (.lst e1)
      · rename_i ks xs e
        cases h
        obtain ⟨vs, e1, _⟩ := st.cell _ _ _ a e
        exact .base (.dK e1)
      · cases h
  · cases h
def isiF (n : String) (fe : EF) : EF := fun ρ S => (fe ρ S).bind fun d S1 => match (tyN d S1).bind fun t => tyIs t n with
  | some b => .ok (.bl b) S1
  | none => .bad
theorem d_isi {n : String} {fe : EF} {nm : Str} {q : Pos} (hg : Gl X "isinstance") (hm : X.mg "isinstance" = none) (he : DE X Y e fe) (hgn : Gl X nm) (hmn : X.mg nm = none) (hv : bootBuiltins nm = some (.type n)) (hnn : nm ≠ "__name__" := by decide) (hdn : (nm == ("__debug__" : Str)) = false := by decide)
    (h1 : starEach [e, .Name nm q] X.env = (false, eval e X.env) :: starEach [.Name nm q] X.env := by rfl) (h2 : starEach [.Name nm q] X.env = (false, eval (.Name nm q) X.env) :: starEach [] X.env := by rfl) (hpl : (backTo pos (starEach [.Name nm q] X.env)).any (·.1) = false := by rfl) :
    DE X Y (.Call (.Name "isinstance" p) [e, .Name nm q] [] pos) (isiF n fe) := by
  refine PE.weak (pe_callB call_isi hg hm boot_isinstance (pa_cons he (pa_cons (pe_bltn (v := .ty n) hgn hmn hv rfl hnn hdn) pa_nil h2) h1) (by decide) (by decide) h1 hpl) fun σ H Q h => ?_
  obtain ⟨ms, S, ρ, ev, st, p⟩ := h
  refine ⟨ms, S, ρ, ev, st, Post.split p fun d S1 v ms1 H1 _ f1 s1 r1 p1 => ?_⟩
  split at p1
  · rename_i b hb
    obtain ⟨t, e1, e2⟩ := Option.bind_eq_some_iff.mp hb
    refine ⟨v, .ty n, .type t, .type n, b, rfl, .ty n, tyN_of (W := wd X Y) s1 r1 e1, kit_ty ?_, p1.val s1 (.bl _)⟩
    rw [tyIs_ok t (tyN_mem e1) n (tyIs_mem e2)]
    exact e2
  · exact p1.elim
end

/-! ### methods of built-in types -/
section
variable {X : Cx} {Y : Yx} {o e : Expr} {es : List Expr} {fo : EF} {fs : F (List D)} {name : Str} {apos cpos : Pos} {T id : String}
/-- o.m(e, ..), o a list (a cell) or a text: g of its datum and the arguments -/
def methF (g : D → List D → Sto → R D) (fo : EF) (fs : F (List D)) : EF := fun ρ S => (fo ρ S).bind fun d S1 => (fs ρ S1).bind fun ds S2 => g d ds S2
def MethD (W : Wd) (T : String) (r : V → List V → Hp → VK → Prop) (g : D → List D → Sto → R D) : Prop := ∀ (ms : List Addr) (S : Sto) (H : Hp) (x : V) (d : D) (vs : List V) (ds : List D) (Q : VK) (E : XK), StOk W ms S H → Rp W ms (era ms H) x d → RpL W ms (era ms H) vs ds → Post W (relD W) ms H (g d ds S) Q E → r x vs H Q
/-- what is asked of the receiver ahead of the arguments -/
def isTy (T : String) (d : D) (S : Sto) : Bool := match d with
  | .str _ => T == "str"
  | .tup _ => false
  | d => T == "list" && (asL d S).isSome
theorem isTy_of {W : Wd} {ms : List Addr} {S : Sto} {H : Hp} {d : D} {v : V} {T : String} (st : StOk W ms S H) (r : Rp W ms (era ms H) v d) (h : isTy T d S = true) : tyV W.K T v H := by
  unfold isTy at h
  split at h
  · cases r; exact beq_iff_eq.mp h
  · cases h
  · obtain ⟨h1, h2⟩ := Bool.and_eq_true_iff.mp h
    obtain ⟨xs, hx⟩ := Option.isSome_iff_exists.mp h2
    obtain ⟨a, vs, rfl, h3, _⟩ := asL_of st r hx
    exact .inl ⟨beq_iff_eq.mp h1, vs, h3⟩
def mthF (T : String) (g : D → List D → Sto → R D) (fo : EF) (fs : F (List D)) : EF := fun ρ S => (fo ρ S).bind fun d S1 => if isTy T d S1 then (fs ρ S1).bind fun ds S2 => g d ds S2 else .bad
theorem d_bm {r : V → List V → Hp → VK → Prop} {g : D → List D → Sto → R D} (pa : PlainAttrs T) (slot : Slot T name id) (hty : typeOf (.builtin id) = pure (.type "method_descriptor")) (hm : MtR X id r) (hr : MethD (wd X Y) T r g) (ho : DE X Y o fo) (ha : DA X Y (e :: es) fs)
    (hbase : attributeBase o name X.env (eval o X.env) = eval o X.env := by rfl)
    (hfew : ((backTo cpos (starEach (e :: es) X.env)).all (fun x => !x.1) && (backToKw cpos (keywordEach [] X.env)).all (fun x => x.1.isSome)
      && decide ((e :: es).length + ([] : List Keyword).length + (if ([] : List Keyword).isEmpty then 0 else 1) < 30)) = true := by rfl)
    (hline : (apos.endLine == cpos.line) = true := by rfl) (hs : starEach (e :: es) X.env = (false, eval e X.env) :: starEach es X.env := by rfl) (hplain : (backTo cpos (starEach es X.env)).any (·.1) = false := by rfl) :
    DE X Y (.Call (.Attribute o name apos) (e :: es) [] cpos) (mthF T g fo fs) := by
  refine PE.weak (pe_bm pa slot hty hm ho ha hbase hfew hline hs hplain) fun σ H Q h => ?_
  obtain ⟨ms, S, ρ, ev, st, p⟩ := h
  refine ⟨ms, S, ρ, ev, st, Post.split p fun d S1 x ms1 H1 _ f1 s1 r1 p1 => ?_⟩
  split at p1
  · rename_i hT
    refine ⟨isTy_of (W := wd X Y) s1 r1 hT, ms1, S1, ρ, ev.fut f1, s1, Post.split p1 fun ds S2 vs ms2 H2 _ f2 s2 r2 p2 => ?_⟩
    exact hr ms2 S2 H2 x d vs ds Q _ s2 (Rp.fut r1 f2) r2 p2
  · exact p1.elim
theorem d_bm0 {r : V → List V → Hp → VK → Prop} {g : D → List D → Sto → R D} (pa : PlainAttrs T) (slot : Slot T name id) (hty : typeOf (.builtin id) = pure (.type "method_descriptor")) (hm : MtR X id r) (hr : MethD (wd X Y) T r g) (ho : DE X Y o fo)
    (hbase : attributeBase o name X.env (eval o X.env) = eval o X.env := by rfl) (hline : (apos.endLine == cpos.line) = true := by rfl) : DE X Y (.Call (.Attribute o name apos) [] [] cpos) (mthF T g fo nilF) := by
  refine PE.weak (pe_bm0 pa slot hty hm ho hbase hline) fun σ H Q h => ?_
  obtain ⟨ms, S, ρ, ev, st, p⟩ := h
  refine ⟨ms, S, ρ, ev, st, Post.split p fun d S1 x ms1 H1 _ f1 s1 r1 p1 => ?_⟩
  split at p1
  · rename_i hT
    exact ⟨isTy_of (W := wd X Y) s1 r1 hT, hr ms1 S1 H1 x d [] [] Q _ s1 r1 .nil p1⟩
  · exact p1.elim
/-- xs.append(e), xs a cell -/
noncomputable def appendD (d : D) (ds : List D) (S : Sto) : R D := match d, ds with
  | .cell n, [x] => match S[n]? with
    | some (.lst xs) => if low n x && decide (NLe (xs.length + 1) sizeLine) then .ok .non (S.set n (.lst (xs ++ [x]))) else .bad
    | _ => .bad
  | _, _ => .bad
theorem s_append {W : Wd} : MethD W "list" rAppend appendD := by
  intro ms S H x d vs ds Q E st rx rv p
  unfold appendD at p
  split at p
  · rename_i n y
    obtain ⟨v, rfl, rv1⟩ := rv.one
    split at p
    · rename_i xs hx
      split at p
      · rename_i hl
        obtain ⟨l1, l2⟩ := Bool.and_eq_true_iff.mp hl
        have l2 := of_decide_eq_true l2
        cases rx with
        | cell a =>
          obtain ⟨us, e1, r1⟩ := st.cell _ _ _ a hx
          have hm := List.mem_of_getElem? a
          exact ⟨_, us, v, rfl, rfl, e1, by rw [r1.length]; exact l2, p .non ms _ (Fut.write hm) (st.writeL a (r1.append (.cons (Rp.take _ _ l1 rv1) .nil))) .non⟩
      · exact p.elim
    · exact p.elim
  · exact p.elim
/-- xs.extend(ys), xs a cell, ys a list that is tracked -/
noncomputable def extendD (d : D) (ds : List D) (S : Sto) : R D := match d, ds with
  | .cell n, [x] => match S[n]?, asT x S with
    | some (.lst xs), some ys => if lowL n ys && decide (NLe (xs.length + ys.length) sizeLine) then .ok .non (S.set n (.lst (xs ++ ys))) else .bad
    | _, _ => .bad
  | _, _ => .bad
theorem s_extend {W : Wd} : MethD W "list" rExtend extendD := by
  intro ms S H x d vs ds Q E st rx rv p
  unfold extendD at p
  split at p
  · rename_i n y
    obtain ⟨v, rfl, rv1⟩ := rv.one
    split at p
    · rename_i xs ys hx hy
      split at p
      · rename_i hl
        obtain ⟨l1, l2⟩ := Bool.and_eq_true_iff.mp hl
        have l2 := of_decide_eq_true l2
        obtain ⟨b, ws, rfl, e2, r2⟩ := asT_of st rv1 hy
        cases rx with
        | cell a =>
          obtain ⟨us, e1, r1⟩ := st.cell _ _ _ a hx
          have hm := List.mem_of_getElem? a
          exact ⟨_, b, us, ws, rfl, rfl, e1, e2, by rw [r1.length, r2.length]; exact l2, p .non ms _ (Fut.write hm) (st.writeL a (r1.append (RpL.take _ _ l1 r2))) .non⟩
      · exact p.elim
    · exact p.elim
  · exact p.elim
/-- sep.join(list or tuple of texts) -/
def strsOf : List D → Option (List Str)
  | [] => some []
  | .str z :: ds => (strsOf ds).map fun ns => z :: ns
  | _ :: _ => none
theorem strsOf_of {W : Wd} {ms : List Addr} {G : Hp} : ∀ {ds : List D} {vs : List V} {ns : List Str}, RpL W ms G vs ds → strsOf ds = some ns → vs = ns.map V.str
  | [], _, _, r, h => by cases r; cases h; rfl
  | d :: ds, _, _, r, h => by
    cases d <;> first
      | cases h
      | (obtain ⟨ns, e, rfl⟩ := Option.map_eq_some_iff.mp h
         cases r with | cons a b => cases a; rw [strsOf_of b e]; rfl)
noncomputable def joinD (d : D) (ds : List D) (S : Sto) : R D := match d, ds with
  | .str a, [x] => match (asQ x S).bind strsOf with
    | some ys => if NLe ((ys.map (·.length)).sum + ys.length * a.length) 16777216 then .ok (.str (Txt.join a ys)) S else .bad
    | none => .bad
  | _, _ => .bad
theorem s_join {W : Wd} : MethD W "str" (fun x xs H Q => ∃ a p, ∃ ys : List Str, x = .str a ∧ xs = [.ref p] ∧ (SqL W.K H p (ys.map V.str) ∨ SqT W.K H p (ys.map V.str)) ∧
    (ys.map (·.length)).sum + ys.length * a.length ≤ 16777216 ∧ Q (.str (Txt.join a ys)) H) joinD := by
  intro ms S H x d vs ds Q E st rx rv p
  unfold joinD at p
  split at p
  · cases rx
    obtain ⟨v, rfl, rv1⟩ := rv.one
    split at p
    · rename_i ys hys
      obtain ⟨es, e1, e2⟩ := Option.bind_eq_some_iff.mp hys
      obtain ⟨b, us, rfl, h1, r1⟩ := asQ_of st rv1 e1
      have e3 := strsOf_of r1 e2
      subst e3
      split at p
      · rename_i hl
        exact ⟨_, b, ys, rfl, rfl, h1, hl, p.val st (.str _)⟩
      · exact p.elim
    · exact p.elim
  · exact p.elim
/-- s.index(t), t in s -/
def sindexD (d : D) (ds : List D) (S : Sto) : R D := match d, ds with
  | .str a, [.str b] => match Txt.index0 a b with
    | some k => .ok (.int (k : Nat)) S
    | none => .bad
  | _, _ => .bad
theorem d_sindex {wx : WX} {fo : EF} {fs : F (List D)} (hc : X.calm = true) (tk : Takes X wx) (ho : DE X ⟨none, wx⟩ o fo) (ha : DA X ⟨none, wx⟩ (e :: es) fs)
    (hbase : attributeBase o "index" X.env (eval o X.env) = eval o X.env := by rfl)
    (hfew : ((backTo cpos (starEach (e :: es) X.env)).all (fun x => !x.1) && (backToKw cpos (keywordEach [] X.env)).all (fun x => x.1.isSome)
      && decide ((e :: es).length + ([] : List Keyword).length + (if ([] : List Keyword).isEmpty then 0 else 1) < 30)) = true := by rfl)
    (hline : (apos.endLine == cpos.line) = true := by rfl) (hs : starEach (e :: es) X.env = (false, eval e X.env) :: starEach es X.env := by rfl) (hplain : (backTo cpos (starEach es X.env)).any (·.1) = false := by rfl) :
    DE X ⟨none, wx⟩ (.Call (.Attribute o "index" apos) (e :: es) [] cpos) (mthF "str" sindexD fo fs) := by
  refine PE.weak (pe_bmS PySem.F.plainAttrs_str PySem.F.slot_str_index PySem.F.type_str_index (mt_indexX hc tk) ho ha hbase hfew hline hs hplain) fun σ H Q h => ?_
  obtain ⟨ms, S, ρ, ev, st, p⟩ := h
  refine ⟨ms, S, ρ, ev, st, Post.split p fun d S1 x ms1 H1 _ f1 s1 r1 p1 => ?_⟩
  split at p1
  · rename_i hT
    refine ⟨isTy_of (W := wd X ⟨none, wx⟩) s1 r1 hT, ms1, S1, ρ, ev.fut f1, s1, Post.split p1 fun ds S2 vs ms2 H2 _ f2 s2 r2 p2 => ?_⟩
    unfold sindexD at p2
    split at p2
    · cases r1
      obtain ⟨v, rfl, r3⟩ := r2.one
      cases r3
      split at p2
      · rename_i k hk
        exact ⟨_, _, rfl, rfl, fun k' hk' => by rw [hk] at hk'; cases hk'; exact p2.val s2 (.int _), fun hn => by rw [hk] at hn; cases hn⟩
      · exact p2.elim
    · exact p2.elim
  · exact p1.elim
/-- xs.pop() -/
def popD (d : D) (ds : List D) (S : Sto) : R D := match d, ds with
  | .cell n, [] => match S[n]? with
    | some (.lst xs) => match xs[xs.length - 1]? with
      | some y => .ok y (S.set n (.lst xs.dropLast))
      | none => .bad
    | _ => .bad
  | _, _ => .bad
theorem RpL.dropLast {W : Wd} {ms : List Addr} {G : Hp} {vs : List V} {ds : List D} (r : RpL W ms G vs ds) : RpL W ms G vs.dropLast ds.dropLast := by
  rw [List.dropLast_eq_take, List.dropLast_eq_take, r.length]
  exact r.takeN _
theorem s_pop {W : Wd} : MethD W "list" rPop popD := by
  intro ms S H x d vs ds Q E st rx rv p
  unfold popD at p
  split at p
  · cases rv
    split at p
    · rename_i xs hx
      split at p
      · rename_i y hy
        cases rx with
        | cell a =>
          obtain ⟨us, e1, r1⟩ := st.cell _ _ _ a hx
          have hm := List.mem_of_getElem? a
          rw [← r1.length] at hy
          obtain ⟨v, h2, r2⟩ := r1.get hy
          refine ⟨_, us, v, rfl, rfl, e1, h2, p v ms _ (Fut.write hm) (st.writeL a r1.dropLast) ?_⟩
          rw [era_write hm]
          exact Rp.mono (take_ext _) (Same.refl _) (.inr rfl) rfl rfl _ _ r2
      · exact p.elim
    · exact p.elim
  · exact p.elim
end

/-! ### stores -/
section
variable {X : Cx} {Y : Yx} {pos : Pos}
/-- o[i] = v: o a cell -/
def putIx (d i v : D) (S : Sto) : Option Sto := match d, i with
  | .cell n, .int k => match S[n]? with
    | some (.lst xs) => match ixN xs.length k with
      | some j => if low n v then some (S.set n (.lst (xs.set j v))) else none
      | none => none
    | _ => none
  | _, _ => none
theorem s_put {W : Wd} {ms : List Addr} {S S' : Sto} {H : Hp} {o i v : V} {d e x : D} {Q : Hp → Prop} (st : StOk W ms S H) (r1 : Rp W ms (era ms H) o d) (r2 : Rp W ms (era ms H) i e) (r3 : Rp W ms (era ms H) v x) (h : putIx d e x S = some S')
    (q : ∀ H', Fut ms H ms H' → StOk W ms S' H' → Q H') : rSetL o i v H Q := by
  unfold putIx at h
  split at h
  · rename_i n k
    split at h
    · rename_i xs hx
      split at h
      · rename_i j hj
        split at h
        · rename_i hl
          cases h
          cases r1 with
          | cell a =>
            cases r2
            obtain ⟨us, e1, rr⟩ := st.cell _ _ _ a hx
            exact ⟨_, us, k, j, rfl, rfl, e1, by rw [rr.length]; exact hj, q _ (Fut.write (List.mem_of_getElem? a)) (st.writeL a (RpL.set (Rp.take _ _ hl r3) j rr))⟩
        · cases h
      · cases h
    · cases h
  · cases h
def putS (fe fo fi : EF) : SF := fun ρ S => (fe ρ S).st ρ fun v S1 => (fo ρ S1).st ρ fun d S2 => (fi ρ S2).st ρ fun i S3 => match putIx d i v S3 with
  | some S4 => .nx ρ S4
  | none => .bad
theorem ds_put {o i e : Expr} {fe fo fi : EF} {tpos : Pos} (he : DE X Y e fe) (ho : DE X Y o fo) (hi : DE X Y i fi)
    (ha : ∀ v, assign (.Subscript o i tpos) X.env v = (do
      let ov ← holding [v] (eval o X.env)
      let iv ← holding [v, ov] (eval i X.env)
      standAt tpos
      holding [v, ov, iv] (setItem ov iv v)
      release [v, ov, iv] []) := by intro _; rfl)
    (hs : swapsWithSole [.Subscript o i tpos] e pos.line X.env = pure false := by rfl) (hw : swappedStores [.Subscript o i tpos] e X.env = pure none := by rfl)
    (h1 : (assignEach [.Subscript o i tpos] X.env).map (·.2) = [assign (.Subscript o i tpos) X.env] := by rfl) : DS X Y (.Assign [.Subscript o i tpos] e pos) (putS fe fo fi) := by
  refine PS.weak (ps_asg he (pg_sub ho hi set_list ha) hs hw h1) fun D σ H h => ?_
  obtain ⟨ms, S, ρ, ev, st, p⟩ := h
  refine ⟨ms, S, ρ, ev, st, PostS.split ev p fun v S1 x ms1 H1 _ f1 s1 r1 p1 => ⟨ms1, S1, ρ, ev.fut f1, s1, PostS.split (ev.fut f1) p1 fun d S2 y ms2 H2 _ f2 s2 r2 p2 => ⟨ms2, S2, ρ, ev.fut (f1.trans f2), s2, PostS.split (ev.fut (f1.trans f2)) p2 fun i S3 z ms3 H3 _ f3 s3 r3 p3 => ?_⟩⟩⟩
  split at p3
  · rename_i S4 h4
    exact s_put (W := wd X Y) s3 (Rp.fut r2 f3) r3 (Rp.fut r1 (f2.trans f3)) h4 fun H' f s => p3 σ ms3 H' f s (ev.fut (f1.trans (f2.trans (f3.trans f))))
  · exact p3.elim
/-- name op= e -/
def augS (i : Nat) (g : D → D → Sto → R D) (fe : EF) : SF := fun ρ S => match ρ[i]? with
  | some (some d) => (fe ρ S).st ρ fun e S1 => (g d e S1).st ρ fun x S2 => .nx (ρ.set i (some x)) S2
  | _ => .bad
theorem ds_aug {i : Nat} {x : Str} {e : Expr} {fe : EF} {op : Operator} {r : R2} {g : D → D → Sto → R D} {pos' : Pos} (hN : X.N.Nodup) (hi : X.N[i]? = some x) (hx : Loc X.env.scope x) (he : DE X Y e fe) (ho : OpR X (inplaceOp op) r) (hr : OpD (wd X Y) r g)
    (hf : X.fn x = true ∨ X.env.scope.names.lookup x = some .local := by first | exact .inl rfl | exact .inr rfl | assumption) : DS X Y (.AugAssign (.Name x pos') op e pos) (augS i g fe) := by
  refine PS.weak (ps_aug hN hi hx he (ti := r) ho hf) fun D σ H h => ?_
  obtain ⟨ms, S, ρ, ev, st, p⟩ := h
  unfold augS at p
  split at p
  · rename_i d hd
    obtain ⟨v, e1, r0⟩ := ev.get i d hd
    refine ⟨v, e1, ms, S, ρ, ev, st, PostS.split ev p fun e S1 y ms1 H1 _ f1 s1 r1 p1 => ?_⟩
    refine hr ms1 S1 H1 v y d e _ _ s1 (Rp.fut r0 f1) r1 (PostS.split (ev.fut f1) p1 fun x S2 z ms2 H2 _ f2 s2 r2 p2 => ?_)
    exact p2 _ ms2 H2 (Fut.refl _ _) s2 ((ev.fut (f1.trans f2)).set r2 i)
  · exact p.elim
theorem op_iaddD : OpR X (inplaceOp .Add) (fun x y H Q => rI0 (fun i j => .int (i + j)) x y H Q ∨ (∃ i j, x = V.str i ∧ y = V.str j ∧ i.length + j.length ≤ sizeLine ∧ Q (.str (i ++ j)) H)) := iop_add.or iop_add_str
noncomputable def iaddD (d e : D) (S : Sto) : R D := match d, e with
  | .int i, .int j => .ok (.int (i + j)) S
  | .str a, .str b => if NLe (a.length + b.length) sizeLine then .ok (.str (a ++ b)) S else .bad
  | _, _ => .bad
theorem s_iadd : OpD (wd X Y) (fun x y H Q => rI0 (fun i j => .int (i + j)) x y H Q ∨ (∃ i j, x = V.str i ∧ y = V.str j ∧ i.length + j.length ≤ sizeLine ∧ Q (.str (i ++ j)) H)) iaddD := by
  intro ms S H x y d e Q E st rx ry p
  unfold iaddD at p
  split at p
  · cases rx; cases ry; exact .inl ⟨_, _, rfl, rfl, p.val st (.int _)⟩
  · cases rx; cases ry
    split at p
    · rename_i hl; exact .inr ⟨_, _, rfl, rfl, hl, p.val st (.str _)⟩
    · exact p.elim
  · exact p.elim
theorem s_isub : OpD (wd X Y) (rI0 fun i j => .int (i - j)) subD := s_sub
end

/-! ### walks: anything of items; zip -/
section
variable {X : Cx} {Y : Yx} {tg : Expr}
/-- a list, a tuple or a text, whatever it is -/
def anyI (d : D) (S : Sto) : R (List D) := match d with
  | .lst ds => .ok ds S
  | .rol ds => .ok ds S
  | .tup ds => .ok ds S
  | .str z => .ok (z.cps.toList.map fun c => D.str ⟨#[c]⟩) S
  | _ => .bad
def iAny (K : PySem.W.Frag) (te : TE) : TI := fun σ H R => te σ H fun v H1 => (∃ a xs, v = .ref a ∧ SqL K H1 a xs ∧ R (Itl K a) H1) ∨ (∃ a xs, v = .ref a ∧ SqT K H1 a xs ∧ R (Itt K a) H1) ∨ ∃ x, v = .str x ∧ R (Its x) H1
theorem pi_any {e : Expr} {te : TE} (he : PE X e te) : PI X tg e (iAny X.K te) := by
  refine ⟨fun pins s σ H R I h => ?_⟩
  refine thn (he.run pins s σ H _ I h) fun v s1 ⟨y, H1, I1, r1, q1⟩ => ?_
  rcases q1 with ⟨a, xs, rfl, hq, q⟩ | ⟨a, xs, rfl, hq, q⟩ | ⟨x, rfl, q⟩
  · cases r1
    obtain ⟨its, rv, p, hz⟩ := I1.list hq
    refine wpAny_pyIter_list p.isList ?_
    refine ⟨s1.heap.objs.size, [s1.heap.objs.size], _, _, H1, rfl, I1.kept (t' := s1.toks) fun b o e => Heap.get?_push_of_some _ e, turn_list a _, ⟨_, Heap.get?_push_size _ rfl, rfl, rfl⟩, fun b hb => ?_, q⟩
    have e : b = s1.heap.objs.size := by simpa using hb
    subst e
    exact I1.fpOk (Nat.le_refl _) (I1.hok.fresh (Nat.le_refl _))
  · cases r1
    obtain ⟨its, rv, p, hz⟩ := I1.tuple hq
    refine wpAny_pyIter_tuple (show s1.heap.IsTuple a its.toArray from p) ?_
    refine ⟨s1.heap.objs.size, [s1.heap.objs.size], _, _, H1, rfl, I1.kept (t' := s1.toks) fun b o e => Heap.get?_push_of_some _ e, turn_tuple a _, ⟨_, Heap.get?_push_size _ rfl, rfl, rfl⟩, fun b hb => ?_, q⟩
    have e : b = s1.heap.objs.size := by simpa using hb
    subst e
    exact I1.fpOk (Nat.le_refl _) (I1.hok.fresh (Nat.le_refl _))
  · obtain ⟨t, rfl⟩ := r1
    cases ha : x.cps.all (· < 128)
    · exact wpAny_pyIter_wide ha (pi_one (tk := s1.toks) I1 _ (turn_str _ x t "str_iterator" (.inr rfl)) ⟨_, Heap.get?_push_size _ rfl, rfl, rfl⟩ q)
    · exact wpAny_pyIter_ascii ha (pi_one (tk := s1.toks) I1 _ (turn_str _ x t "str_ascii_iterator" (.inl rfl)) ⟨_, Heap.get?_push_size _ rfl, rfl, rfl⟩ q)
theorem di_any {e : Expr} {fe : EF} (he : DE X Y e fe) : DI X Y tg e (itF anyI fe) := by
  refine PI.weak (pi_any he) fun σ H R' h => tI_of (k := anyI) h (fun d S1 v ms1 H1 ds' S' e s r p => ?_) fun d S1 c ks ds S' => by unfold anyI; split <;> simp
  cases r with
  | lst a b =>
    cases e
    have q : SqL X.K (era ms1 H1) _ _ := .inl (.inl a)
    exact .inl ⟨_, _, rfl, Same.seq (era_same _ _) q, p _ ms1 H1 (Fut.refl _ _) s (Itl.is (W := wd X Y) q b)⟩
  | rol a b => cases e; exact .inl ⟨_, _, rfl, Same.seq (era_same _ _) a, p _ ms1 H1 (Fut.refl _ _) s (Itl.is (W := wd X Y) a b)⟩
  | tup a b => cases e; exact .inr (.inl ⟨_, _, rfl, Same.sqT (era_same _ _) a, p _ ms1 H1 (Fut.refl _ _) s (Itt.is (W := wd X Y) a b)⟩)
  | str z => cases e; exact .inr (.inr ⟨z, rfl, p _ ms1 H1 (Fut.refl _ _) s (Its.is (W := wd X Y) z)⟩)
  | _ => cases e
/-- zip of two lists, of two tuples -/
def zipI (ds : List D) (S : Sto) : R (List D) := match ds with
  | [.lst xs, .lst ys] => .ok (List.zipWith (fun x y => D.tup [x, y]) xs ys) S
  | [.tup xs, .tup ys] => .ok (List.zipWith (fun x y => D.tup [x, y]) xs ys) S
  | _ => .bad
theorem zipW_get {xs ys : List D} {i : Nat} {d : D} (h : (List.zipWith (fun x y => D.tup [x, y]) xs ys)[i]? = some d) : ∃ x y, xs[i]? = some x ∧ ys[i]? = some y ∧ d = .tup [x, y] := by
  rw [List.getElem?_zipWith] at h
  cases hx : xs[i]? with
  | none => rw [hx] at h; cases h
  | some x =>
    cases hy : ys[i]? with
    | none => rw [hx, hy] at h; cases h
    | some y => rw [hx, hy] at h; cases h; exact ⟨x, y, rfl, rfl, rfl⟩
theorem Itz.is {W : Wd} {ms : List Addr} {H : Hp} {a b : Addr} {vs us : List V} {xs ys : List D} (h1 : SqL W.K (era ms H) a vs) (r1 : RpL W ms (era ms H) vs xs) (h2 : SqL W.K (era ms H) b us) (r2 : RpL W ms (era ms H) us ys) :
    IsIt W (Itz W.K a b) (List.zipWith (fun x y => D.tup [x, y]) xs ys) ms H := by
  refine ⟨fun ms1 H1 S1 i f s hi => ?_, fun ms1 H1 S1 f s => ?_⟩
  · have q1 : SqL W.K H1 a vs := Same.seq (f.same.trans (era_same _ _)) h1
    have q2 : SqL W.K H1 b us := Same.seq (f.same.trans (era_same _ _)) h2
    obtain ⟨x, y, hx, hy, _⟩ := zipW_get (List.getElem?_eq_getElem hi)
    obtain ⟨v, e1, rv⟩ := r1.get hx
    obtain ⟨u, e2, ru⟩ := r2.get hy
    refine ⟨⟨vs, us, v, u, q1, q2, e1, e2⟩, fun z H2 yd => ?_⟩
    obtain ⟨T, v', u', rfl, hT, rfl, e3, e4⟩ := yd
    have e5 := e3 vs q1
    have e6 := e4 us q2
    rw [e1] at e5; cases e5
    rw [e2] at e6; cases e6
    refine ⟨Fut.new s hT, s.new hT, fun d hd => ?_⟩
    obtain ⟨x', y', hx', hy', rfl⟩ := zipW_get hd
    rw [hx] at hx'; cases hx'
    rw [hy] at hy'; cases hy'
    exact .tup (.inl (.inl (era_new s hT))) (.cons (Rp.fut (Rp.fut rv f) (Fut.new s hT)) (.cons (Rp.fut (Rp.fut ru f) (Fut.new s hT)) .nil))
  · refine ⟨vs, us, Same.seq (f.same.trans (era_same _ _)) h1, Same.seq (f.same.trans (era_same _ _)) h2, ?_⟩
    rw [r1.length, r2.length, List.length_zipWith]
    omega
theorem ItzT.is {W : Wd} {ms : List Addr} {H : Hp} {a b : Addr} {vs us : List V} {xs ys : List D} (h1 : SqT W.K (era ms H) a vs) (r1 : RpL W ms (era ms H) vs xs) (h2 : SqT W.K (era ms H) b us) (r2 : RpL W ms (era ms H) us ys) :
    IsIt W (RZ.ItzT W.K a b) (List.zipWith (fun x y => D.tup [x, y]) xs ys) ms H := by
  refine ⟨fun ms1 H1 S1 i f s hi => ?_, fun ms1 H1 S1 f s => ?_⟩
  · have q1 : SqT W.K H1 a vs := Same.sqT (f.same.trans (era_same _ _)) h1
    have q2 : SqT W.K H1 b us := Same.sqT (f.same.trans (era_same _ _)) h2
    obtain ⟨x, y, hx, hy, _⟩ := zipW_get (List.getElem?_eq_getElem hi)
    obtain ⟨v, e1, rv⟩ := r1.get hx
    obtain ⟨u, e2, ru⟩ := r2.get hy
    refine ⟨⟨vs, us, v, u, q1, q2, e1, e2⟩, fun z H2 yd => ?_⟩
    obtain ⟨T, v', u', rfl, hT, rfl, e3, e4⟩ := yd
    have e5 := e3 vs q1
    have e6 := e4 us q2
    rw [e1] at e5; cases e5
    rw [e2] at e6; cases e6
    refine ⟨Fut.new s hT, s.new hT, fun d hd => ?_⟩
    obtain ⟨x', y', hx', hy', rfl⟩ := zipW_get hd
    rw [hx] at hx'; cases hx'
    rw [hy] at hy'; cases hy'
    exact .tup (.inl (.inl (era_new s hT))) (.cons (Rp.fut (Rp.fut rv f) (Fut.new s hT)) (.cons (Rp.fut (Rp.fut ru f) (Fut.new s hT)) .nil))
  · refine ⟨vs, us, Same.sqT (f.same.trans (era_same _ _)) h1, Same.sqT (f.same.trans (era_same _ _)) h2, ?_⟩
    rw [r1.length, r2.length, List.length_zipWith]
    omega
theorem di_zip {a b : Expr} {fa : F (List D)} {p pos tpos : Pos} {elts : List Expr} {kk : Nat} (hg : Gl X "zip") (hm : X.mg "zip" = none) (ha : DA X Y [a, b] fa)
    (hs : starEach [a, b] X.env = (false, eval a X.env) :: starEach [b] X.env := by rfl) (hpl : (backTo pos (starEach [b] X.env)).any (·.1) = false := by rfl) :
    DI X Y (.Tuple elts kk tpos) (.Call (.Name "zip" p) [a, b] [] pos) (itA zipI fa) := by
  refine PI.weak (RZ.pi_zipA hg hm ha hs hpl) fun σ H R' h => tI_of (k := zipI) h (fun ds S1 vs ms1 H1 ds' S' e s r p => ?_) fun ds S1 c ks es S' => by unfold zipI; split <;> simp
  unfold zipI at e
  split at e
  · cases e
    obtain ⟨v, u, rfl, r1, r2⟩ := r.two
    cases r1 with
    | lst a1 b1 =>
      cases r2 with
      | lst a2 b2 =>
        have q1 : SqL X.K (era ms1 H1) _ _ := .inl (.inl a1)
        have q2 : SqL X.K (era ms1 H1) _ _ := .inl (.inl a2)
        exact ⟨_, _, _, _, rfl, .inl ⟨Same.seq (era_same _ _) q1, Same.seq (era_same _ _) q2, p _ ms1 H1 (Fut.refl _ _) s (Itz.is (W := wd X Y) q1 b1 q2 b2)⟩⟩
  · cases e
    obtain ⟨v, u, rfl, r1, r2⟩ := r.two
    cases r1 with
    | tup a1 b1 =>
      cases r2 with
      | tup a2 b2 => exact ⟨_, _, _, _, rfl, .inr ⟨Same.sqT (era_same _ _) a1, Same.sqT (era_same _ _) a2, p _ ms1 H1 (Fut.refl _ _) s (ItzT.is (W := wd X Y) a1 b1 a2 b2)⟩⟩
  · cases e
end

/-! ### comprehensions -/
def wipeD (ρ : Nv) : List Nat → Nv
  | [] => ρ
  | v :: vs => (wipeD ρ vs).set v none
/-- errors within are not followed -/
def R.bindN {α β : Type} (r : R α) (k : α → Sto → R β) : R β := match r with
  | .ok a S => k a S
  | _ => .bad
theorem R.bindN_ok {α β : Type} {a : α} {S : Sto} {k : α → Sto → R β} : (R.ok a S).bindN k = k a S := rfl
/-- one more item to the list in cell n -/
noncomputable def pushC (n : Nat) (x : D) (S : Sto) : R Unit := match S[n]? with
  | some (.lst xs) => if low n x && decide (NLe (xs.length + 1) sizeLine) then .ok () (S.set n (.lst (xs ++ [x]))) else .bad
  | _ => .bad
noncomputable def compL (n : Nat) (g : GF) (t : F Bool) (fe : EF) (ρ : Nv) : List D → Sto → R Unit
  | [], S => .ok () S
  | d :: ds, S => match g d ρ S with
    | none => .bad
    | some ρ1 => (t ρ1 S).bindN fun k S1 => if k then (fe ρ1 S1).bindN fun x S2 => (pushC n x S2).bindN fun _ S3 => compL n g t fe ρ ds S3 else compL n g t fe ρ ds S1
def yesB : F Bool := fun _ S => .ok true S
theorem Ev.wipe {W : Wd} {ρ : Nv} {σ : St} {ms : List Addr} {H : Hp} (e : Ev W ρ σ ms H) : ∀ vs : List Nat, Ev W (wipeD ρ vs) (L2.wipe σ vs) ms H
  | [] => e
  | v :: vs => (Ev.wipe e vs).unset v
/-- what stands at the end: the list's cell, or the list as data -/
def finO (n : Nat) (S : Sto) : R D := .ok (.cell n) S
def finF (n : Nat) (S : Sto) : R D := match S[n]? with
  | some (.lst xs) => .ok (.lst xs) (S.take n)
  | _ => .bad
noncomputable def compG (fin : Nat → Sto → R D) (vs : List Nat) (fi : F (List D)) (g : GF) (t : F Bool) (fe : EF) : EF := fun ρ S => (fi ρ S).bind fun ds S1 => (compL S1.length g t fe (wipeD ρ vs) ds (S1 ++ [.lst []])).bindN fun _ S2 => fin S1.length S2
def Fin (W : Wd) (fin : Nat → Sto → R D) : Prop := ∀ (ms1 ms' : List Addr) (H1 H' : Hp) (S' : Sto) (a : Addr) (Q : VK) (E : XK), H1 a = none → StOk W ms' S' H' → Fut ms1 H1 ms' H' → ms'[ms1.length]? = some a → Post W (relD W) ms1 H1 (fin ms1.length S') Q E → Q (.ref a) H'
theorem fin_O (W : Wd) : Fin W finO := fun ms1 ms' H1 H' S' a Q E _ s f h p => p (.ref a) ms' H' f s (.cell h)
theorem fin_F (W : Wd) : Fin W finF := by
  intro ms1 ms' H1 H' S' a Q E _ s f h p
  unfold finF at p
  split at p
  · rename_i xs hx
    obtain ⟨us, e1, rr⟩ := s.cell _ _ _ h hx
    obtain ⟨e2, f2⟩ := Fut.drop s (n := ms1.length) rfl f
    have s1 := s.take ms1.length
    have er := era_take s ms1.length
    have nin : a ∉ ms'.take ms1.length := fun q => by
      obtain ⟨m, hm⟩ := List.getElem?_of_mem q
      have hlt : m < ms1.length := by
        have := (List.getElem?_eq_some_iff.mp hm).1
        rw [List.length_take] at this
        omega
      rw [List.getElem?_take_of_lt hlt] at hm
      obtain ⟨h1, e1⟩ := List.getElem?_eq_some_iff.mp h
      obtain ⟨h2, e2⟩ := List.getElem?_eq_some_iff.mp hm
      have := (List.getElem_inj s.nd).mp (e1.trans e2.symm)
      omega
    have r1 := RpL.mono (ms := ms'.take ms1.length) (ms' := ms'.take ms1.length) ⟨[], by simp⟩ er (.inr rfl) rfl rfl _ _ rr
    have e3 : era (ms'.take ms1.length) H' a = some (.lst us) := by rw [era_out nin]; exact e1
    rw [e2] at s1 r1 e3
    exact p _ ms1 H' f2 s1 (.lst e3 r1)
  · exact p.elim
theorem lc_of {W : Wd} {Wx : WX} {fin : Nat → Sto → R D} {fi : F (List D)} {is vs : List Nat} {g : GF} {t : F Bool} {fe : EF} {σ : St} {H : Hp} {Q : VK} (hfin : Fin W fin) (hv : ∀ i ∈ is, i ∈ vs) (h : tX W Wx (relD W) (compG fin vs fi g t fe) σ H Q) :
    tLc (tI W Wx fi) (tG W is g) (tX W (fun _ _ _ _ => False) relB t) (tX W (fun _ _ _ _ => False) (relD W) fe) vs σ H Q := by
  obtain ⟨ms, S, ρ, ev, st, p⟩ := h
  refine ⟨ms, S, ρ, ev, st, ?_⟩
  unfold compG at p
  cases hf : fi ρ S with
  | bad => rw [hf] at p; exact p
  | exc c ks ds S' => rw [hf] at p; exact p
  | ok ds S1 =>
    rw [hf, R.bind_ok] at p
    intro J ms1 H1 f1 s1 isI D hD
    have p1 := Post.fut p f1
    have s2 : StOk W (ms1 ++ [D]) (S1 ++ [.lst []]) (upd H1 D (.lst [])) := s1.ownL hD .nil
    have hn : S1.length = ms1.length := s1.len.symm
    rw [hn] at p1
    refine ⟨fun i m H' => m = ds.length - i ∧ i ≤ ds.length ∧ ∃ ms' S', Fut (ms1 ++ [D]) (upd H1 D (.lst [])) ms' H' ∧ StOk W ms' S' H' ∧
        Post W (relD W) ms1 H1 ((compL ms1.length g t fe (wipeD ρ vs) (ds.drop i) S').bindN fun _ S2 => fin ms1.length S2) Q (fun c d H' => Wx c d σ H'),
      ⟨ds.length, by simp, Nat.zero_le _, ms1 ++ [D], S1 ++ [.lst []], Fut.refl _ _, s2, by simpa using p1⟩, ?_⟩
    rintro i m H' ⟨rfl, hi, ms', S', f', s', p'⟩
    have atD : ms'[ms1.length]? = some D := by
      obtain ⟨l, rfl⟩ := f'.ext
      refine pre_get ?_
      rw [List.getElem?_append_right (Nat.le_refl _), Nat.sub_self]
      rfl
    have fI : Fut ms1 H1 ms' H' := (Fut.own hD).trans f'
    by_cases hlt : i < ds.length
    · refine .inr ⟨(isI.step ms' H' S' i fI s' hlt).1, fun H' => ∃ ms' S', Fut (ms1 ++ [D]) (upd H1 D (.lst [])) ms' H' ∧ StOk W ms' S' H' ∧
          Post W (relD W) ms1 H1 ((compL ms1.length g t fe (wipeD ρ vs) (ds.drop (i + 1)) S').bindN fun _ S2 => fin ms1.length S2) Q (fun c d H' => Wx c d σ H'),
        fun H2 ⟨ms2, S2, q⟩ => ⟨ds.length - (i + 1), by omega, rfl, hlt, ms2, S2, q⟩, fun x H2 y => ?_⟩
      obtain ⟨f2, s2', r2⟩ := (isI.step ms' H' S' i fI s' hlt).2 x H2 y
      have r3 := r2 ds[i] (List.getElem?_eq_getElem hlt)
      rw [List.drop_eq_getElem_cons hlt] at p'
      unfold compL at p'
      have ev2 : Ev W (wipeD ρ vs) (L2.wipe σ vs) ms' H2 := (ev.fut (f1.trans (fI.trans f2))).wipe vs
      cases hgd : g ds[i] (wipeD ρ vs) S' with
      | none => rw [hgd] at p'; exact p'.elim
      | some ρ1 =>
        rw [hgd] at p'
        refine ⟨ms', S', wipeD ρ vs, ds[i], r3, ev2, s2', ρ1, hgd, fun σ3 ev3 sets => ⟨?_, ms', S', ρ1, ev3, s2', ?_⟩⟩
        · have w1 := sets vs hv
          have w2 : L2.wipe (L2.wipe σ vs) vs = L2.wipe σ vs := by
            apply List.ext_getElem?
            intro j
            rw [wipe_at, wipe_at, wipe_length]
            by_cases hj : j ∈ vs
            · rw [if_pos hj, if_pos hj]
            · rw [if_neg hj, if_neg hj]
          rw [w1, w2]
        · cases ht : t ρ1 S' with
          | bad => dsimp only at p'; rw [ht] at p'; exact p'.elim
          | exc c ks es S2 => dsimp only at p'; rw [ht] at p'; exact p'.elim
          | ok b S2 =>
            dsimp only at p'
            rw [ht, R.bindN_ok] at p'
            intro b' ms3 H3 f3 s3 e3
            cases e3
            cases b with
            | false => exact iteF ⟨ms3, S2, f'.trans (f2.trans f3), s3, p'⟩
            | true =>
              refine iteT ⟨ms3, S2, ρ1, ev3.fut f3, s3, ?_⟩
              rw [if_pos rfl] at p'
              cases he : fe ρ1 S2 with
              | bad => rw [he] at p'; exact p'.elim
              | exc c ks es S3 => rw [he] at p'; exact p'.elim
              | ok z S3 =>
                rw [he, R.bindN_ok] at p'
                intro v ms4 H4 f4 s4 r4
                have fD : Fut (ms1 ++ [D]) (upd H1 D (.lst [])) ms4 H4 := f'.trans (f2.trans (f3.trans f4))
                have atD4 : ms4[ms1.length]? = some D := by
                  obtain ⟨l, rfl⟩ := fD.ext
                  refine pre_get ?_
                  rw [List.getElem?_append_right (Nat.le_refl _), Nat.sub_self]
                  rfl
                unfold pushC at p'
                cases hc : S3[ms1.length]? with
                | none => rw [hc] at p'; exact p'.elim
                | some cl =>
                  rw [hc] at p'
                  cases cl with
                  | lst xs =>
                    dsimp only at p'
                    split at p'
                    · rename_i hl
                      obtain ⟨l1, l2⟩ := Bool.and_eq_true_iff.mp hl
                      have l2 := of_decide_eq_true l2
                      obtain ⟨us, e1, rr⟩ := s4.cell _ _ _ atD4 hc
                      refine ⟨us, e1, by rw [rr.length]; exact l2, ms4, S3.set ms1.length (.lst (xs ++ [z])), fD.trans (Fut.write (List.mem_of_getElem? atD4)), s4.writeL atD4 (rr.append (.cons (Rp.take _ _ l1 r4) .nil)), ?_⟩
                      rw [R.bindN_ok] at p'
                      exact p'
                    · exact p'.elim
                  | obj _ _ _ => exact p'.elim
                  | dic _ _ => exact p'.elim
                  | dead => exact p'.elim
    · have e : i = ds.length := by omega
      subst e
      refine .inl ⟨isI.stop ms' H' S' fI s', ?_⟩
      rw [List.drop_length] at p'
      exact hfin ms1 ms' H1 H' S' D Q _ hD s' fI atD p'
section
variable {X : Cx} {Y : Yx} {elt tg iter : Expr} {ifs : List Expr} {scope : Scope} {own : List (Str × Nat)} {pos : Pos} {fi : F (List D)} {is : List Nat} {g : GF} {t : F Bool} {fe : EF}
/-- within a comprehension nothing is let out -/
abbrev yN (Y : Yx) : Yx := ⟨Y.xi, fun _ _ _ _ => False⟩
abbrev DTs (X : Cx) (Y : Yx) (es : List Expr) (f : F Bool) : Prop := PTs X es (tX (wd X Y) Y.wx relB f)
theorem dts_nil : DTs X Y [] yesB := ⟨fun pins s σ H Q I h => pts_nil.run pins s σ H Q I (by
  obtain ⟨ms, S, ρ, ev, st, p⟩ := h
  exact p true ms H (Fut.refl _ _) st rfl)⟩
theorem dts_one {c : Expr} {f : F Bool} (h : DT X Y c f) : DTs X Y [c] f := pts_one h
theorem d_comp {fin : Nat → Sto → R D} (hfin : Fin (wd X Y) fin) (hc : X.calm = true) (hN : X.N.Nodup) (hi : DI X Y tg iter fi) (ok : BlkOk X.N X.env.scope scope own) (hv : ∀ i ∈ is, i ∈ own.map (·.2))
    (hg : ∀ (s : Shared) (H : Hp) (C : Addr) (cl : List (Str × Addr)) (fp : List Addr), DG (X.blk s H scope (compEnvC scope cl C X.env) fp) (yN Y) tg is g) (ht : ∀ (s : Shared) (H : Hp) (C : Addr) (cl : List (Str × Addr)) (fp : List Addr), DTs (X.blk s H scope (compEnvC scope cl C X.env) fp) (yN Y) ifs t)
    (he : ∀ (s : Shared) (H : Hp) (C : Addr) (cl : List (Str × Addr)) (fp : List Addr), DE (X.blk s H scope (compEnvC scope cl C X.env) fp) (yN Y) elt fe) (hs : ∀ x, foldedSetIterable iter X.env x = pure x := by intro _; rfl) :
    DE X Y (.ListComp elt [⟨tg, iter, ifs, 0⟩] scope pos) (compG fin (own.map (·.2)) fi g t fe) :=
  PE.weak (pe_lc (g := tG (wd X Y) is g) (tt := tX (wd X Y) (fun _ _ _ _ => False) relB t) (te := tX (wd X Y) (fun _ _ _ _ => False) (relD (wd X Y)) fe) hc hN hi ok hg ht he hs) fun σ H Q h => lc_of (W := wd X Y) hfin hv h
/-- name = [..] -/
theorem ds_setC {fin : Nat → Sto → R D} {i : Nat} {y : Str} {py spos : Pos} (hfin : Fin (wd X Y) fin) (hc : X.calm = true) (hN : X.N.Nodup) (hy : X.N[i]? = some y) (hyl : X.env.scope.names.lookup y = some .local)
    (hsw : swapsWith (.ListComp elt [⟨tg, iter, ifs, 0⟩] scope pos) (some (.Name y py)) spos.line X.env = pure true) (hi : DI X Y tg iter fi) (ok : BlkOk X.N X.env.scope scope own) (hv : ∀ i ∈ is, i ∈ own.map (·.2))
    (hg : ∀ (s : Shared) (H : Hp) (C : Addr) (cl : List (Str × Addr)) (fp : List Addr), DG (X.blk s H scope (compEnvC scope cl C X.env) fp) (yN Y) tg is g) (ht : ∀ (s : Shared) (H : Hp) (C : Addr) (cl : List (Str × Addr)) (fp : List Addr), DTs (X.blk s H scope (compEnvC scope cl C X.env) fp) (yN Y) ifs t)
    (he : ∀ (s : Shared) (H : Hp) (C : Addr) (cl : List (Str × Addr)) (fp : List Addr), DE (X.blk s H scope (compEnvC scope cl C X.env) fp) (yN Y) elt fe) (hs : ∀ x, foldedSetIterable iter X.env x = pure x := by intro _; rfl) :
    DS X Y (.Assign [.Name y py] (.ListComp elt [⟨tg, iter, ifs, 0⟩] scope pos) spos) (setS i (compG fin (own.map (·.2)) fi g t fe)) := by
  refine PS.weak (ps_setLc (g := tG (wd X Y) is g) (tt := tX (wd X Y) (fun _ _ _ _ => False) relB t) (te := tX (wd X Y) (fun _ _ _ _ => False) (relD (wd X Y)) fe) hc hN hy hyl hsw hi ok hg ht he hs) fun D σ H h => ?_
  obtain ⟨ms, S, ρ, ev, st, p⟩ := h
  refine lc_of (W := wd X Y) (Wx := Y.wx) hfin hv ⟨ms, S, ρ, ev, st, ?_⟩
  exact PostS.split ev p fun d S1 x ms1 H1 _ f1 s1 r1 p1 => p1 _ ms1 H1 (Fut.refl _ _) s1 ((ev.fut f1).set r1 i)
end
end Zd

set_option Elab.async false
set_option linter.all false
set_option maxRecDepth 100000
set_option maxHeartbeats 4000000
set_option autoImplicit false
/-! Zd, the plain side: how combinators reduce. -/
namespace Zd
open PySem PySem.Spec L2
open PyProof.Rows hiding St

theorem subL_map (h : Nat → D) : ∀ ds, subL h ds = ds.map (sub h)
  | [] => rfl
  | d :: ds => by unfold subL; rw [subL_map h ds]; rfl
section
variable {n0 : Nat} {S : Sto} {k : Nat}
theorem fz_non : fz n0 S k .non = .non := by cases k <;> rfl
theorem fz_bl {b : Bool} : fz n0 S k (.bl b) = .bl b := by cases k <;> rfl
theorem fz_int {i : Int} : fz n0 S k (.int i) = .int i := by cases k <;> rfl
theorem fz_str {z : Str} : fz n0 S k (.str z) = .str z := by cases k <;> rfl
theorem fz_tup {ds : List D} : fz n0 S k (.tup ds) = .tup (ds.map (fz n0 S k)) := by cases k <;> (show D.tup (subL _ ds) = _; rw [subL_map]; rfl)
theorem fz_lst {ds : List D} : fz n0 S k (.lst ds) = .lst (ds.map (fz n0 S k)) := by cases k <;> (show D.lst (subL _ ds) = _; rw [subL_map]; rfl)
theorem fz_rol {ds : List D} : fz n0 S k (.rol ds) = .rol (ds.map (fz n0 S k)) := by cases k <;> (show D.rol (subL _ ds) = _; rw [subL_map]; rfl)
theorem fz_obj {c : Str} {ks : List Str} {ds : List D} : fz n0 S k (.obj c ks ds) = .obj c ks (ds.map (fz n0 S k)) := by cases k <;> (show D.obj c ks (subL _ ds) = _; rw [subL_map]; rfl)
theorem fz_dic {ks : List Key} {ds : List D} : fz n0 S k (.dic ks ds) = .dic ks (ds.map (fz n0 S k)) := by cases k <;> (show D.dic ks (subL _ ds) = _; rw [subL_map]; rfl)
theorem fz_cell_old {n : Nat} (h : n < n0) : fz n0 S k (.cell n) = .cell n := by cases k <;> exact if_pos h
theorem fz_cell_new {n : Nat} {xs : List D} (h : n0 ≤ n) (e : S[n]? = some (.lst xs)) : fz n0 S (k + 1) (.cell n) = .lst (xs.map (fz n0 S k)) := by
  show (if n < n0 then D.cell n else _) = _
  rw [if_neg (by omega), e]
theorem fz_ints {α : Type} {f : α → Int} (l : List α) : (l.map fun a => D.int (f a)).map (fz n0 S k) = l.map fun a => D.int (f a) := by
  rw [List.map_map]; exact List.map_congr_left fun a _ => fz_int
theorem fz_strs {α : Type} {f : α → Str} (l : List α) : (l.map fun a => D.str (f a)).map (fz n0 S k) = l.map fun a => D.str (f a) := by
  rw [List.map_map]; exact List.map_congr_left fun a _ => fz_str
theorem fz_mapint (l : List Int) : (l.map D.int).map (fz n0 S k) = l.map D.int := fz_ints (f := id) l
theorem fz_mapstr (l : List Str) : (l.map D.str).map (fz n0 S k) = l.map D.str := fz_strs (f := id) l
end
theorem lowL_all (n : Nat) : ∀ ds : List D, lowL n ds = ds.all (low n)
  | [] => rfl
  | d :: ds => by unfold lowL; rw [lowL_all n ds]; rfl
theorem lowL_ints (n : Nat) (l : List Int) : lowL n (l.map D.int) = true := by
  rw [lowL_all, List.all_map]; exact List.all_eq_true.mpr fun _ _ => rfl
theorem intsOf_ints (l : List Int) : intsOf (l.map D.int) = some l := by
  induction l with
  | nil => rfl
  | cons a l ih => show (intsOf (l.map D.int)).map _ = _; rw [ih]; rfl
theorem strsOf_strs (l : List Str) : strsOf (l.map D.str) = some l := by
  induction l with
  | nil => rfl
  | cons a l ih => show (strsOf (l.map D.str)).map _ = _; rw [ih]; rfl
theorem toPDs_ints (S : Sto) (l : List Int) : toPDs S (l.map D.int) = some (l.map PyData.int) := by
  induction l with
  | nil => rfl
  | cons a l ih => show (toPD S (D.int a)).bind _ = _; rw [ih]; rfl

/-! ### walks that end well -/
/-- a for whose turns all go on: the state turns by a function -/
theorem forL_fold {α : Type} (P : α → Nv → Sto → Prop) {g : GF} {body : SF} {ds : List D} (next : α → D → α)
    (step : ∀ a d ρ S, d ∈ ds → P a ρ S → ∃ ρ1 ρ2 S2, g d ρ S = some ρ1 ∧ (body ρ1 S = .nx ρ2 S2 ∨ body ρ1 S = .ct ρ2 S2) ∧ P (next a d) ρ2 S2) :
    ∀ (a : α) (ρ : Nv) (S : Sto), P a ρ S → ∃ ρ2 S2, forL g body ds ρ S = .nx ρ2 S2 ∧ P (ds.foldl next a) ρ2 S2 := by
  induction ds with
  | nil => exact fun a ρ S h => ⟨ρ, S, rfl, h⟩
  | cons d ds ih =>
    intro a ρ S h
    obtain ⟨ρ1, ρ2, S2, e1, e2, h2⟩ := step a d ρ S List.mem_cons_self h
    obtain ⟨ρ3, S3, e3, h3⟩ := ih (fun a d ρ S hd => step a d ρ S (List.mem_cons_of_mem _ hd)) (next a d) ρ2 S2 h2
    refine ⟨ρ3, S3, ?_, h3⟩
    unfold forL
    rw [e1]
    rcases e2 with e2 | e2
    · show (body ρ1 S).turn _ = _; rw [e2]; exact e3
    · show (body ρ1 S).turn _ = _; rw [e2]; exact e3
/-- an invariant by the turn -/
theorem forL_inv {g : GF} {body : SF} {ds : List D} (P : Nat → Nv → Sto → Prop)
    (step : ∀ i d ρ S, ds[i]? = some d → P i ρ S → ∃ ρ1 ρ2 S2, g d ρ S = some ρ1 ∧ (body ρ1 S = .nx ρ2 S2 ∨ body ρ1 S = .ct ρ2 S2) ∧ P (i + 1) ρ2 S2) (ρ : Nv) (S : Sto) (h : P 0 ρ S) :
    ∃ ρ2 S2, forL g body ds ρ S = .nx ρ2 S2 ∧ P ds.length ρ2 S2 := by
  induction ds generalizing P ρ S with
  | nil => exact ⟨ρ, S, rfl, h⟩
  | cons d ds ih =>
    obtain ⟨ρ1, ρ2, S2, e1, e2, h2⟩ := step 0 d ρ S rfl h
    obtain ⟨ρ3, S3, e3, h3⟩ := ih (fun i => P (i + 1)) (fun i d ρ S hd h => step (i + 1) d ρ S (by simpa using hd) h) ρ2 S2 h2
    refine ⟨ρ3, S3, ?_, by simpa using h3⟩
    unfold forL
    rw [e1]
    rcases e2 with e2 | e2
    · show (body ρ1 S).turn _ = _; rw [e2]; exact e3
    · show (body ρ1 S).turn _ = _; rw [e2]; exact e3
/-- .. that may be left by a return: either all turns, or the first that returns -/
theorem forL_ret {g : GF} {body : SF} {ds : List D} (P : Nat → Nv → Sto → Prop) (Rt : D → Sto → Prop)
    (step : ∀ i d ρ S, ds[i]? = some d → P i ρ S → ∃ ρ1, g d ρ S = some ρ1 ∧ ((∃ ρ2 S2, (body ρ1 S = .nx ρ2 S2 ∨ body ρ1 S = .ct ρ2 S2) ∧ P (i + 1) ρ2 S2) ∨ ∃ x S2, body ρ1 S = .rt x S2 ∧ Rt x S2)) (ρ : Nv) (S : Sto) (h : P 0 ρ S) :
    (∃ ρ2 S2, forL g body ds ρ S = .nx ρ2 S2 ∧ P ds.length ρ2 S2) ∨ ∃ x S2, forL g body ds ρ S = .rt x S2 ∧ Rt x S2 := by
  induction ds generalizing P ρ S with
  | nil => exact .inl ⟨ρ, S, rfl, h⟩
  | cons d ds ih =>
    obtain ⟨ρ1, e1, h1⟩ := step 0 d ρ S rfl h
    rcases h1 with ⟨ρ2, S2, e2, h2⟩ | ⟨x, S2, e2, h2⟩
    · have e4 : forL g body (d :: ds) ρ S = forL g body ds ρ2 S2 := by
        rw [forL]
        dsimp only
        rw [e1]
        rcases e2 with e2 | e2
        · show (body ρ1 S).turn _ = _; rw [e2]; rfl
        · show (body ρ1 S).turn _ = _; rw [e2]; rfl
      rw [e4]
      rcases ih (fun i => P (i + 1)) (fun i d ρ S hd h => step (i + 1) d ρ S (by simpa using hd) h) ρ2 S2 h2 with ⟨ρ3, S3, e3, h3⟩ | q
      · exact .inl ⟨ρ3, S3, e3, by simpa using h3⟩
      · exact .inr q
    · refine .inr ⟨x, S2, ?_, h2⟩
      rw [forL]
      dsimp only
      rw [e1]
      show (body ρ1 S).turn _ = _
      rw [e2]; rfl

/-! ### comprehensions whose elements are told by a function, the store unmoved -/
/-- within, the list that is built stands last -/
theorem compL_map {n : Nat} {g : GF} {t : F Bool} {fe : EF} {ρ : Nv} {S : Sto} {p : D → Bool} {f : D → D} :
    ∀ {ds acc : List D}, n = S.length → NLe (acc.length + ds.length) sizeLine →
    (∀ d ∈ ds, ∀ acc : List D, ∃ ρ1, g d ρ (S ++ [.lst acc]) = some ρ1 ∧ t ρ1 (S ++ [.lst acc]) = .ok (p d) (S ++ [.lst acc]) ∧ (p d = true → fe ρ1 (S ++ [.lst acc]) = .ok (f d) (S ++ [.lst acc]) ∧ low n (f d) = true)) →
    compL n g t fe ρ ds (S ++ [.lst acc]) = .ok () (S ++ [.lst (acc ++ (ds.filter p).map f)]) := by
  intro ds
  induction ds with
  | nil => intro acc _ _ _; simp [compL]
  | cons d ds ih =>
    intro acc hn hl h
    obtain ⟨ρ1, e1, e2, e3⟩ := h d List.mem_cons_self acc
    have hs : ((S ++ [Cl.lst acc] : Sto)[n]? : Option Cl) = some (.lst acc) := by subst hn; simp
    unfold compL
    rw [e1]
    dsimp only
    rw [e2, R.bindN_ok]
    rw [List.length_cons] at hl
    have hl : acc.length + (ds.length + 1) ≤ sizeLine := hl
    cases hp : p d with
    | false =>
      rw [if_neg (by simp), ih hn (show acc.length + ds.length ≤ sizeLine by omega) (fun d hd => h d (List.mem_cons_of_mem _ hd)), List.filter_cons_of_neg (by simp [hp])]
    | true =>
      obtain ⟨e4, e5⟩ := e3 hp
      rw [if_pos rfl, e4, R.bindN_ok]
      unfold pushC
      rw [hs]
      dsimp only
      rw [e5, decide_eq_true (show NLe (acc.length + 1) sizeLine from (show acc.length + 1 ≤ sizeLine by omega)), if_pos (by rfl), R.bindN_ok]
      have hset : (S ++ [Cl.lst acc] : Sto).set n (.lst (acc ++ [f d])) = S ++ [.lst (acc ++ [f d])] := by
        subst hn
        rw [List.set_append_right _ _ (Nat.le_refl _), Nat.sub_self]
        rfl
      rw [hset, ih hn (show (acc ++ [f d]).length + ds.length ≤ sizeLine by rw [List.length_append, List.length_singleton]; omega) (fun d hd => h d (List.mem_cons_of_mem _ hd)), List.filter_cons_of_pos hp, List.map_cons, List.append_assoc]
      rfl
theorem compF_map {vs : List Nat} {fi : F (List D)} {g : GF} {t : F Bool} {fe : EF} {ρ : Nv} {S S1 : Sto} {ds : List D} (p : D → Bool) (f : D → D) (hi : fi ρ S = .ok ds S1) (hl : NLe ds.length sizeLine)
    (h : ∀ d ∈ ds, ∀ acc : List D, ∃ ρ1, g d (wipeD ρ vs) (S1 ++ [.lst acc]) = some ρ1 ∧ t ρ1 (S1 ++ [.lst acc]) = .ok (p d) (S1 ++ [.lst acc]) ∧ (p d = true → fe ρ1 (S1 ++ [.lst acc]) = .ok (f d) (S1 ++ [.lst acc]) ∧ low S1.length (f d) = true)) :
    compG finF vs fi g t fe ρ S = .ok (.lst ((ds.filter p).map f)) S1 := by
  unfold compG
  rw [hi, R.bind_ok, compL_map (acc := []) rfl (by simpa using hl) h, R.bindN_ok]
  unfold finF
  simp
theorem compF_all {vs : List Nat} {fi : F (List D)} {g : GF} {fe : EF} {ρ : Nv} {S S1 : Sto} {ds : List D} (f : D → D) (hi : fi ρ S = .ok ds S1) (hl : NLe ds.length sizeLine)
    (h : ∀ d ∈ ds, ∀ acc : List D, ∃ ρ1, g d (wipeD ρ vs) (S1 ++ [.lst acc]) = some ρ1 ∧ fe ρ1 (S1 ++ [.lst acc]) = .ok (f d) (S1 ++ [.lst acc]) ∧ low S1.length (f d) = true) :
    compG finF vs fi g yesB fe ρ S = .ok (.lst (ds.map f)) S1 := by
  have := compF_map (t := yesB) (fun _ => true) f hi hl (fun d hd acc => by
    obtain ⟨ρ1, e1, e2, e3⟩ := h d hd acc
    exact ⟨ρ1, e1, rfl, fun _ => ⟨e2, e3⟩⟩)
  rw [this]
  congr 2
  rw [List.filter_eq_self.mpr (fun _ _ => rfl)]

/-! ### the operators on data that is written out -/
section
variable {i j : Int} {a b : Str} {S : Sto} {x y : Bool} {n : Nat} {ds es : List D} {d e : D}
theorem addD_ii : addD (.int i) (.int j) S = .ok (.int (i + j)) S := rfl
theorem addD_ss : addD (.str a) (.str b) S = if NLe (a.length + b.length) sizeLine then .ok (.str (a ++ b)) S else .bad := rfl
theorem addD_ll : addD (.lst ds) (.lst es) S = if NLe (ds.length + es.length) sizeLine then .ok (.lst (ds ++ es)) S else .bad := rfl
theorem subD_ii : subD (.int i) (.int j) S = .ok (.int (i - j)) S := rfl
theorem mulD_ii : mulD (.int i) (.int j) S = if Bd ((-(2 ^ 64) < i ∧ i < 2 ^ 64) ∨ (-(2 ^ 64) < j ∧ j < 2 ^ 64)) then .ok (.int (i * j)) S else .bad := rfl
theorem mulD_li : mulD (.lst ds) (.int j) S = if Bd (-(2 ^ 63) ≤ j ∧ j < 2 ^ 63 ∧ ds.length * j.toNat ≤ sizeLine) then .ok (.lst (List.replicate j.toNat ds).flatten) S else .bad := rfl
theorem mulD_si : mulD (.str a) (.int j) S = if Bd (0 ≤ j ∧ j ≤ 1000000 ∧ a.length * j.toNat ≤ 1000000) then .ok (.str (repS a j.toNat)) S else .bad := rfl
theorem fdivD_ii : fdivD (.int i) (.int j) S = if Bd (0 < j ∧ j < 2 ^ 1000) then .ok (.int (i / j)) S else .bad := rfl
theorem modD_ii : modD (.int i) (.int j) S = if Bd (0 < j) then .ok (.int (i % j)) S else .bad := rfl
theorem powD_10_18 : powD (.int 10) (.int 18) S = .ok (.int 1000000000000000000) S := by
  unfold powD
  dsimp only
  rw [if_pos (show Bd (0 ≤ (18:Int) ∧ (18:Int) ≤ 1000000 ∧ Int.natAbs 10 < 2 ^ 64) from ⟨by decide, by decide, by decide⟩)]
  rfl
theorem ltD_ii : ltD (.int i) (.int j) S = .ok (.bl (decide (i < j))) S := rfl
theorem leD_ii : leD (.int i) (.int j) S = .ok (.bl (decide (i ≤ j))) S := rfl
theorem gtD_ii : gtD (.int i) (.int j) S = .ok (.bl (decide (j < i))) S := rfl
theorem geD_ii : geD (.int i) (.int j) S = .ok (.bl (decide (j ≤ i))) S := rfl
theorem gtD_ss : gtD (.str a) (.str b) S = .ok (.bl (decide (b.cps.toList < a.cps.toList))) S := rfl
theorem ltD_ss : ltD (.str a) (.str b) S = .ok (.bl (decide (a.cps.toList < b.cps.toList))) S := rfl
theorem eqD_ii : eqD (.int i) (.int j) S = .ok (.bl (decide (i = j))) S := rfl
theorem eqD_ss : eqD (.str a) (.str b) S = .ok (.bl (decide (a = b))) S := rfl
theorem eqD_bb : eqD (.bl x) (.bl y) S = .ok (.bl (decide (x = y))) S := rfl
theorem neD_ii : neD (.int i) (.int j) S = .ok (.bl (!decide (i = j))) S := rfl
theorem neD_ss : neD (.str a) (.str b) S = .ok (.bl (!decide (a = b))) S := rfl
theorem isBD_bb : isBD (.bl x) (.bl y) S = .ok (.bl (decide (x = y))) S := rfl
theorem isND_non : isND .non .non S = .ok (.bl true) S := rfl
theorem isND_int : isND (.int i) .non S = .ok (.bl false) S := rfl
theorem isND_str : isND (.str a) .non S = .ok (.bl false) S := rfl
theorem notND_non : notND .non .non S = .ok (.bl false) S := rfl
theorem notND_int : notND (.int i) .non S = .ok (.bl true) S := rfl
theorem notND_str : notND (.str a) .non S = .ok (.bl true) S := rfl
theorem lenD_s : lenD [.str a] S = if NLe a.length sizeLine then .ok (.int a.length) S else .bad := rfl
theorem lenD_l : lenD [.lst ds] S = .ok (.int ds.length) S := rfl
theorem lenD_r : lenD [.rol ds] S = .ok (.int ds.length) S := rfl
theorem lenD_t : lenD [.tup ds] S = .ok (.int ds.length) S := rfl
theorem min2D_ii : min2D [.int i, .int j] S = .ok (.int (if j < i then j else i)) S := rfl
theorem max2D_ii : max2D [.int i, .int j] S = .ok (.int (if j > i then j else i)) S := rfl
theorem intD_i : intD [.int i] S = .ok (.int i) S := rfl
theorem intD_b : intD [.bl x] S = .ok (.int (if x then 1 else 0)) S := rfl
theorem strD_i : strD [.int i] S = if NLe (i.natAbs.log2 + 1) 1920 then .ok (.str (toString i)) S else .bad := rfl
theorem sumD_l : sumD [.lst ds] S = match intsOf ds with | some ns => .ok (.int ns.sum) S | none => .bad := rfl
theorem sumD_t : sumD [.tup ds] S = match intsOf ds with | some ns => .ok (.int ns.sum) S | none => .bad := rfl
theorem sumD_c : sumD [.cell n] S = match S[n]? with | some (.lst ds) => (match intsOf ds with | some ns => .ok (.int ns.sum) S | none => .bad) | _ => .bad := by
  show (match ((match S[n]? with | some (.lst ds) => some ds | _ => none).bind intsOf) with | some ns => R.ok (D.int ns.sum) S | none => .bad) = _
  cases S[n]? with
  | none => rfl
  | some c => cases c <;> rfl
theorem maxD_c : maxD [.cell n] S = match S[n]? with | some (.lst ds) => (match intsOf ds with | some ns => if ns = [] then .bad else .ok (.int (maxI ns)) S | none => .bad) | _ => .bad := by
  show (match ((match S[n]? with | some (.lst ds) => some ds | _ => none).bind intsOf) with | some ns => (if ns = [] then R.bad else R.ok (D.int (maxI ns)) S) | none => .bad) = _
  cases S[n]? with
  | none => rfl
  | some c => cases c <;> rfl
theorem tupleD_l : tupleD [.lst ds] S = .ok (.tup ds) S := rfl
theorem tupleD_t : tupleD [.tup ds] S = .ok (.tup ds) S := rfl
theorem listD_l : listD [.lst ds] S = .ok (.lst ds) S := rfl
theorem listD_t : listD [.tup ds] S = .ok (.lst ds) S := rfl
theorem ixD_l : ixD (.lst ds) (.int i) S = match atI ds i with | some x => .ok x S | none => .bad := rfl
theorem ixD_r : ixD (.rol ds) (.int i) S = match atI ds i with | some x => .ok x S | none => .bad := rfl
theorem ixD_t : ixD (.tup ds) (.int i) S = match atI ds i with | some x => .ok x S | none => .bad := rfl
theorem ixD_s : ixD (.str a) (.int i) S = if NLe a.length sizeLine then match atI a.cps.toList i with | some c => .ok (.str ⟨#[c]⟩) S | none => .bad else .bad := rfl
theorem ixD_c : ixD (.cell n) (.int i) S = match S[n]? with | some (.lst ds) => (match atI ds i with | some x => .ok x S | none => .bad) | _ => .bad := by
  show (match (match S[n]? with | some (.lst ds) => some ds | _ => none) with | some ds => (match atI ds i with | some x => R.ok x S | none => .bad) | none => .bad) = _
  cases S[n]? with
  | none => rfl
  | some c => cases c <;> rfl
theorem tupleD_c : tupleD [.cell n] S = match S[n]? with | some (.lst ds) => .ok (.tup ds) S | _ => .bad := by
  show (match (match S[n]? with | some (.lst ds) => some ds | _ => none) with | some xs => R.ok (D.tup xs) S | none => .bad) = _
  cases S[n]? with
  | none => rfl
  | some c => cases c <;> rfl
theorem lenD_c : lenD [.cell n] S = match S[n]? with | some (.lst ds) => .ok (.int ds.length) S | _ => .bad := by
  show (match (match S[n]? with | some (.lst ds) => some ds | _ => none) with | some xs => R.ok (D.int xs.length) S | none => .bad) = _
  cases S[n]? with
  | none => rfl
  | some c => cases c <;> rfl
theorem slD_s {lo hi : Option Int} : slD (.str a) lo hi S = if NLe a.length sizeLine then .ok (.str (cutS a lo hi)) S else .bad := rfl
theorem slD_l {lo hi : Option Int} : slD (.lst ds) lo hi S = .ok (.lst (cutD ds lo hi)) S := rfl
theorem slD_r {lo hi : Option Int} : slD (.rol ds) lo hi S = .ok (.lst (cutD ds lo hi)) S := rfl
theorem slD_t {lo hi : Option Int} : slD (.tup ds) lo hi S = if HT.sIx ds.length 0 lo = 0 ∧ HT.sIx ds.length ds.length hi = ds.length then .bad else .ok (.tup (cutD ds lo hi)) S := rfl
theorem putIx_c {v : D} : putIx (.cell n) (.int i) v S = match S[n]? with
    | some (.lst xs) => (match ixN xs.length i with
      | some j => if low n v then some (S.set n (.lst (xs.set j v))) else none
      | none => none)
    | _ => none := rfl
theorem appendD_c {v : D} : appendD (.cell n) [v] S = match S[n]? with
    | some (.lst xs) => if low n v && decide (NLe (xs.length + 1) sizeLine) then .ok .non (S.set n (.lst (xs ++ [v]))) else .bad
    | _ => .bad := rfl
theorem extendD_cl : extendD (.cell n) [.lst ds] S = match S[n]? with
    | some (.lst xs) => if lowL n ds && decide (NLe (xs.length + ds.length) sizeLine) then .ok .non (S.set n (.lst (xs ++ ds))) else .bad
    | _ => .bad := by
  unfold extendD asT
  dsimp only
  cases S[n]? with
  | none => rfl
  | some c => cases c <;> rfl
theorem isTy_c {T : String} : isTy T (.cell n) S = (T == "list" && match S[n]? with | some (.lst _) => true | _ => false) := by
  show (T == "list" && (match S[n]? with | some (.lst ds) => some ds | _ => none).isSome) = _
  cases S[n]? with
  | none => rfl
  | some c => cases c <;> rfl
theorem isTy_s {T : String} : isTy T (.str a) S = (T == "str") := rfl
theorem isTy_l {T : String} : isTy T (.lst ds) S = (T == "list" && true) := rfl
theorem atI_0 : atI (d :: ds) 0 = some d := atI_nat (j := 0) rfl
theorem atI_1 {d1 : D} : atI (d :: d1 :: ds) 1 = some d1 := atI_nat (j := 1) rfl
theorem atI_2 {d1 d2 : D} : atI (d :: d1 :: d2 :: ds) 2 = some d2 := atI_nat (j := 2) rfl
theorem atI_3 {d1 d2 d3 : D} : atI (d :: d1 :: d2 :: d3 :: ds) 3 = some d3 := atI_nat (j := 3) rfl
theorem atI_4 {d1 d2 d3 d4 : D} : atI (d :: d1 :: d2 :: d3 :: d4 :: ds) 4 = some d4 := atI_nat (j := 4) rfl
theorem low_int : low n (.int i) = true := rfl
theorem low_str : low n (.str a) = true := rfl
theorem low_bl : low n (.bl x) = true := rfl
theorem low_non : low n .non = true := rfl
theorem anyI_l : anyI (.lst ds) S = .ok ds S := rfl
theorem anyI_r : anyI (.rol ds) S = .ok ds S := rfl
theorem anyI_t : anyI (.tup ds) S = .ok ds S := rfl
theorem anyI_s : anyI (.str a) S = .ok (a.cps.toList.map fun c => D.str ⟨#[c]⟩) S := rfl
theorem rng1I_i : rng1I [.int j] S = if Bd (-(2 ^ 62) ≤ j ∧ j < 2 ^ 62) then .ok ((List.range j.toNat).map fun k => D.int (0 + (k : Nat))) S else .bad := rfl
theorem rng2I_ii : rng2I [.int i, .int j] S = if Bd (-(2 ^ 62) ≤ i ∧ i < 2 ^ 62 ∧ -(2 ^ 62) ≤ j ∧ j < 2 ^ 62) then .ok ((List.range (j - i).toNat).map fun k => D.int (i + (k : Nat))) S else .bad := rfl
theorem set_concat {α : Type} (S : List α) (c d : α) : (S ++ [c]).set S.length d = S ++ [d] := by
  rw [List.set_append_right _ _ (Nat.le_refl _), Nat.sub_self]; rfl
theorem get_concat {α : Type} (S : List α) (c : α) : (S ++ [c])[S.length]? = some c := by simp
theorem take_concat {α : Type} (S : List α) (c : α) : (S ++ [c]).take S.length = S := List.take_left' rfl
theorem len_concat {α : Type} (S : List α) (c : α) : (S ++ [c]).length = S.length + 1 := by simp
theorem notInD_cs {c : Nat} {z : Str} : notInD (.str ⟨#[c]⟩) (.str z) S = .ok (.bl (!decide (c ∈ z.cps.toList))) S := rfl
theorem inD_cs {c : Nat} {z : Str} : inD (.str ⟨#[c]⟩) (.str z) S = .ok (.bl (decide (c ∈ z.cps.toList))) S := rfl
theorem sindexD_s : sindexD (.str a) [.str b] S = match Txt.index0 a b with | some k => .ok (.int (k : Nat)) S | none => .bad := rfl
theorem intD_s : intD [.str a] S = match PySem.intText? a with | some n => if NLe a.length 640 then .ok (.int n) S else .bad | none => .bad := rfl
theorem tyN_s : tyN (.str a) S = some "str" := rfl
theorem tyN_i : tyN (.int i) S = some "int" := rfl
theorem tyN_b : tyN (.bl x) S = some "bool" := rfl
theorem tyN_n : tyN .non S = some "NoneType" := rfl
theorem tyN_t : tyN (.tup ds) S = some "tuple" := rfl
theorem tyN_l : tyN (.lst ds) S = some "list" := rfl
theorem tyIs_t : tyIs "str" "str" = some true ∧ tyIs "int" "str" = some false ∧ tyIs "bool" "str" = some false ∧ tyIs "NoneType" "str" = some false ∧ tyIs "tuple" "str" = some false ∧ tyIs "list" "str" = some false ∧
    tyIs "str" "int" = some false ∧ tyIs "int" "int" = some true ∧ tyIs "bool" "int" = some true ∧ tyIs "NoneType" "int" = some false ∧ tyIs "tuple" "int" = some false ∧ tyIs "list" "int" = some false ∧
    tyIs "str" "bool" = some false ∧ tyIs "int" "bool" = some false ∧ tyIs "bool" "bool" = some true ∧ tyIs "NoneType" "bool" = some false ∧ tyIs "tuple" "bool" = some false ∧ tyIs "list" "bool" = some false ∧
    tyIs "str" "tuple" = some false ∧ tyIs "int" "tuple" = some false ∧ tyIs "bool" "tuple" = some false ∧ tyIs "NoneType" "tuple" = some false ∧ tyIs "tuple" "tuple" = some true ∧ tyIs "list" "tuple" = some false ∧
    tyIs "str" "list" = some false ∧ tyIs "int" "list" = some false ∧ tyIs "bool" "list" = some false ∧ tyIs "NoneType" "list" = some false ∧ tyIs "tuple" "list" = some false ∧ tyIs "list" "list" = some true := by decide
theorem zipI_tt : zipI [.tup ds, .tup es] S = .ok (List.zipWith (fun x y => D.tup [x, y]) ds es) S := rfl
theorem ixN5 : ixN 5 0 = some 0 ∧ ixN 5 1 = some 1 ∧ ixN 5 2 = some 2 ∧ ixN 5 3 = some 3 ∧ ixN 5 4 = some 4 := by decide
theorem ixN_nat {m k : Nat} (h : k < m) : ixN m (k : Int) = some k := by unfold ixN; rw [if_pos (by omega), if_pos (by omega)]; simp
theorem atI_nat' {α : Type} {xs : List α} {k : Nat} (h : k < xs.length) : atI xs (k : Int) = some xs[k] := by unfold atI; rw [ixN_nat h]; simp [h]
theorem atI_some {α : Type} {xs : List α} {i : Int} (h0 : 0 ≤ i) (h : i < xs.length) : atI xs i = some (xs[i.toNat]'(by omega)) := by
  have e : i = (i.toNat : Int) := by omega
  have := atI_nat' (xs := xs) (k := i.toNat) (by omega)
  rw [← e] at this
  exact this
end
theorem forL_nil {g : GF} {body : SF} {ρ : Nv} {S : Sto} : forL g body [] ρ S = .nx ρ S := rfl
theorem forL_cons {g : GF} {body : SF} {d : D} {ds : List D} {ρ ρ1 : Nv} {S : Sto} (e : g d ρ S = some ρ1) : forL g body (d :: ds) ρ S = (body ρ1 S).turn (forL g body ds) := by
  rw [forL]
  dsimp only
  rw [e]
/-! ### a list that is built in the last cell -/
section
variable {ρ : Nv} {S : Sto} {i : Nat} {acc xs : List D} {fe : EF} {x : D}
theorem own_extend (hi : ρ[i]? = some (some (.cell S.length))) (he : fe ρ (S ++ [.lst acc]) = .ok (.lst xs) (S ++ [.lst acc])) (hl : lowL S.length xs = true) (hs : NLe (acc.length + xs.length) sizeLine) :
    dropS (mthF "list" extendD (varE i) (consF fe nilF)) ρ (S ++ [.lst acc]) = .nx ρ (S ++ [.lst (acc ++ xs)]) := by
  have h1 : varE i ρ (S ++ [.lst acc]) = .ok (.cell S.length) (S ++ [.lst acc]) := by unfold varE; rw [hi]
  have h2 : (consF fe nilF) ρ (S ++ [.lst acc]) = .ok [.lst xs] (S ++ [.lst acc]) := by unfold consF; rw [he]; rfl
  have h3 : isTy "list" (.cell S.length) (S ++ [Cl.lst acc]) = true := by rw [isTy_c, get_concat]; rfl
  have h4 : extendD (.cell S.length) [.lst xs] (S ++ [Cl.lst acc]) = .ok .non (S ++ [.lst (acc ++ xs)]) := by
    rw [extendD_cl, get_concat]
    dsimp only
    rw [hl, decide_eq_true hs, if_pos (by rfl), set_concat]
  unfold dropS mthF
  rw [h1, R.bind_ok, h3, if_pos rfl, h2, R.bind_ok, h4, R.st_ok]
theorem own_append (hi : ρ[i]? = some (some (.cell S.length))) (he : fe ρ (S ++ [.lst acc]) = .ok x (S ++ [.lst acc])) (hl : low S.length x = true) (hs : NLe (acc.length + 1) sizeLine) :
    dropS (mthF "list" appendD (varE i) (consF fe nilF)) ρ (S ++ [.lst acc]) = .nx ρ (S ++ [.lst (acc ++ [x])]) := by
  have h1 : varE i ρ (S ++ [.lst acc]) = .ok (.cell S.length) (S ++ [.lst acc]) := by unfold varE; rw [hi]
  have h2 : (consF fe nilF) ρ (S ++ [.lst acc]) = .ok [x] (S ++ [.lst acc]) := by unfold consF; rw [he]; rfl
  have h3 : isTy "list" (.cell S.length) (S ++ [Cl.lst acc]) = true := by rw [isTy_c, get_concat]; rfl
  have h4 : appendD (.cell S.length) [x] (S ++ [Cl.lst acc]) = .ok .non (S ++ [.lst (acc ++ [x])]) := by
    rw [appendD_c, get_concat]
    dsimp only
    rw [hl, decide_eq_true hs, if_pos (by rfl), set_concat]
  unfold dropS mthF
  rw [h1, R.bind_ok, h3, if_pos rfl, h2, R.bind_ok, h4, R.st_ok]
end
end Zd

set_option Elab.async false
set_option linter.all false
set_option maxRecDepth 100000
set_option maxHeartbeats 4000000
set_option autoImplicit false
/-! Zd: Lean types as data: equality, freezing, lowness once for all. -/
namespace Zd
open PySem PySem.Spec L2
open PyProof.Rows hiding St
open PySem.W (Datum Tup)

class Dat (α : Type) [DecidableEq α] [Datum α] where
  d : α → D
  pd : ∀ (S : Sto) (a : α), toPD S (d a) = some (Datum.toD a)
  lo : ∀ (n : Nat) (a : α), low n (d a) = true
  fr : ∀ (n0 : Nat) (S : Sto) (k : Nat) (a : α), fz n0 S k (d a) = d a
section
variable {α β : Type} [DecidableEq α] [Datum α] [Dat α] [DecidableEq β] [Datum β] [Dat β]
instance : Dat Int where
  d := .int
  pd _ _ := rfl
  lo _ _ := rfl
  fr _ _ _ _ := fz_int
instance : Dat Bool where
  d := .bl
  pd _ _ := rfl
  lo _ _ := rfl
  fr _ _ _ _ := fz_bl
instance : Dat Str where
  d := .str
  pd _ _ := rfl
  lo _ _ := rfl
  fr _ _ _ _ := fz_str
instance : Dat Unit where
  d _ := .non
  pd _ _ := rfl
  lo _ _ := rfl
  fr _ _ _ _ := fz_non
theorem toPDs_map (S : Sto) (l : List α) : toPDs S (l.map Dat.d) = some (l.map Datum.toD) := by
  induction l with
  | nil => rfl
  | cons a l ih => show (toPD S (Dat.d a)).bind _ = _; rw [Dat.pd, ih]; rfl
theorem lowL_map (n : Nat) (l : List α) : lowL n (l.map Dat.d) = true := by
  rw [lowL_all, List.all_map]; exact List.all_eq_true.mpr fun a _ => Dat.lo n a
theorem fz_map (n0 : Nat) (S : Sto) (k : Nat) (l : List α) : (l.map Dat.d).map (fz n0 S k) = l.map Dat.d := by
  rw [List.map_map]; exact List.map_congr_left fun a _ => Dat.fr n0 S k a
instance : Dat (List α) where
  d l := .lst (l.map Dat.d)
  pd S l := by show (toPDs S _).map _ = _; rw [toPDs_map]; rfl
  lo n l := lowL_map n l
  fr n0 S k l := by rw [fz_lst, fz_map]
instance : Dat (Tup α) where
  d l := .tup (l.items.map Dat.d)
  pd S l := by show (toPDs S _).map _ = _; rw [toPDs_map]; rfl
  lo n l := lowL_map n l.items
  fr n0 S k l := by rw [fz_tup, fz_map]
instance : Dat (α × β) where
  d p := .tup [Dat.d p.1, Dat.d p.2]
  pd S p := by
    show (Option.bind (toPD S (Dat.d p.1)) fun q => ((toPD S (Dat.d p.2)).bind fun r => some [r]).map fun ps => q :: ps).map PyData.tuple = _
    rw [Dat.pd, Dat.pd]; rfl
  lo n p := by show (low n (Dat.d p.1) && (low n (Dat.d p.2) && true)) = true; rw [Dat.lo, Dat.lo]; rfl
  fr n0 S k p := by rw [fz_tup]; simp only [List.map_cons, List.map_nil, Dat.fr]
/-- a thing whose texts may be laid -/
def Lay (a : α) : Prop := (Datum.toD a).canLay0 = true
theorem lay_int (i : Int) : Lay i := rfl
theorem lay_bool (i : Bool) : Lay i := rfl
theorem lay_unit (i : Unit) : Lay i := rfl
theorem canLayAll_map {l : List α} (h : ∀ a ∈ l, Lay a) : PyData.canLayAll0 (l.map Datum.toD) = true := by
  induction l with
  | nil => rfl
  | cons a l ih => rw [List.map_cons, PyData.canLayAll0, h a List.mem_cons_self, ih fun b hb => h b (List.mem_cons_of_mem _ hb)]; rfl
theorem lay_list {l : List α} (h : ∀ a ∈ l, Lay a) : Lay l := by show PyData.canLay0 (.list _) = true; rw [PyData.canLay0]; exact canLayAll_map h
theorem lay_tup {l : Tup α} (h : ∀ a ∈ l.items, Lay a) : Lay l := by show PyData.canLay0 (.tuple _) = true; rw [PyData.canLay0]; exact canLayAll_map h
theorem lay_pair {p : α × β} (h : Lay p.1) (h2 : Lay p.2) : Lay p := by
  show PyData.canLay0 (.tuple [_, _]) = true
  rw [PyData.canLay0, PyData.canLayAll0, PyData.canLayAll0, PyData.canLayAll0, h, h2]; rfl
theorem toP_pd {S : Sto} {d : D} {p : PyData} (h : toPD S d = some p) : toP S d = some p := by
  cases d <;> first | exact h | cases h
theorem eqvF_pd {S : Sto} {d e : D} {p q : PyData} {b : Bool} (h1 : toPD S d = some p) (h2 : toPD S e = some q) (h : eqvF d e = some b) : b = PyData.eqv p q := by
  unfold eqvF at h
  split at h
  all_goals first
    | (cases h; done)
    | (cases h1; cases h2; cases h; simp only [PyData.eqv]; done)
    | (cases h1; cases h2; cases h; simp only [PyData.eqv]; first | rfl | exact (PySem.W.beq_decide _ _).symm | simp)
theorem eqvD_dat {S : Sto} {a b : α} (ha : Lay a) (hb : Lay b) (hd : Datum.depth α ≤ 64) : eqvD S (Dat.d a) (Dat.d b) = some (decide (a = b)) := by
  unfold eqvD
  split
  · rename_i c hc
    rw [eqvF_pd (Dat.pd S a) (Dat.pd S b) hc, Datum.eqv]
  · unfold eqvG
    rw [toP_pd (Dat.pd S a), toP_pd (Dat.pd S b)]
    have sa : SeqAt.shaped (Datum.toD a) = true := by
      show (PyData.canLay0 _ && decide _) = true
      rw [ha, decide_eq_true (Nat.le_trans (Datum.depth_le a) hd)]; rfl
    have sb : SeqAt.shaped (Datum.toD b) = true := by
      show (PyData.canLay0 _ && decide _) = true
      rw [hb, decide_eq_true (Nat.le_trans (Datum.depth_le b) hd)]; rfl
    dsimp only
    rw [sa, sb, Datum.eqv]; rfl
theorem eqD_dat {S : Sto} {d e : D} (a b : α) (h1 : d = Dat.d a) (h2 : e = Dat.d b) (ha : Lay a) (hb : Lay b) (hd : Datum.depth α ≤ 64) : eqD d e S = .ok (.bl (decide (a = b))) S := by
  subst h1 h2; unfold eqD; rw [eqvD_dat ha hb hd]
theorem neD_dat {S : Sto} {d e : D} (a b : α) (h1 : d = Dat.d a) (h2 : e = Dat.d b) (ha : Lay a) (hb : Lay b) (hd : Datum.depth α ≤ 64) : neD d e S = .ok (.bl (!decide (a = b))) S := by
  subst h1 h2; unfold neD; rw [eqvD_dat ha hb hd]
end
/-! rows of whole numbers -/
theorem eqD_it {S : Sto} (a b : List Int) : eqD (.tup (a.map D.int)) (.tup (b.map D.int)) S = .ok (.bl (decide (a = b))) S := by
  have := eqD_dat (S := S) (d := .tup (a.map D.int)) (e := .tup (b.map D.int)) (⟨a⟩ : Tup Int) (⟨b⟩ : Tup Int) rfl rfl (lay_tup fun i _ => lay_int i) (lay_tup fun i _ => lay_int i) (by decide)
  rw [this]
  simp
theorem eqD_il {S : Sto} (a b : List Int) : eqD (.lst (a.map D.int)) (.lst (b.map D.int)) S = .ok (.bl (decide (a = b))) S :=
  eqD_dat a b rfl rfl (lay_list fun i _ => lay_int i) (lay_list fun i _ => lay_int i) (by decide)
theorem neD_il {S : Sto} (a b : List Int) : neD (.lst (a.map D.int)) (.lst (b.map D.int)) S = .ok (.bl (!decide (a = b))) S :=
  neD_dat a b rfl rfl (lay_list fun i _ => lay_int i) (lay_list fun i _ => lay_int i) (by decide)
theorem neD_i2 {S : Sto} {a b c d : Int} : neD (.lst [.int a, .int b]) (.lst [.int c, .int d]) S = .ok (.bl (!decide ([a, b] = [c, d]))) S := neD_il [a, b] [c, d]
end Zd

set_option Elab.async false
set_option linter.all false
set_option maxRecDepth 100000
set_option maxHeartbeats 4000000
set_option autoImplicit false
/-! The drawing of the first laws (k00 .. k15): the bag of numbers, and a number drawn. -/
namespace Zd
open PySem PySem.Spec L2
open PyProof.Rows hiding St
/-! _law_bag: 0 script, 1 cells, 2 cell -/
noncomputable def g__law_bag : SF := (seqS (setS 1 (compG finF [2] (itF anyI (slF (varE 0) noO (someO (cE (.int 63))))) (nmG 2) yesB (ifE (tstF (binF geD (varE 2) (cE (.int 0)))) (varE 2) (binF subD (cE (.int 1)) (varE 2)))))
  (retS (ownF (consF (cE (.int 0)) (consF (varE 1) (consF (cE (.int 0)) (consF (cE (.int 0)) (consF (cE (.int 20261)) nilF))))))))
noncomputable def F__law_bag : DFun := fnK 3 g__law_bag
/-! _law_draw: 0 bag, 1 limit, 2 digit -/
noncomputable def g__law_draw : SF := (seqS (ifS (andB (tstF (binF ltD (binF ixD (varE 0) (cE (.int 0))) (binF powD (cE (.int 10)) (cE (.int 18))))) (tstF (binF ltD (binF ixD (varE 0) (cE (.int 2))) (appF lenD (consF (binF ixD (varE 0) (cE (.int 1))) nilF))))) (seqS (putS (binF ixD (binF ixD (varE 0) (cE (.int 1))) (binF ixD (varE 0) (cE (.int 2)))) (varE 0) (cE (.int 0)))
  (putS (binF addD (binF ixD (varE 0) (cE (.int 2))) (cE (.int 1))) (varE 0) (cE (.int 2)))) nxS)
  (seqS (ifS (tstF (binF geD (binF ixD (varE 0) (cE (.int 0))) (binF powD (cE (.int 10)) (cE (.int 18))))) (seqS (setS 2 (binF modD (appF intD (consF (binF ixD (varE 0) (cE (.int 0))) nilF)) (varE 1)))
  (seqS (putS (binF fdivD (appF intD (consF (binF ixD (varE 0) (cE (.int 0))) nilF)) (varE 1)) (varE 0) (cE (.int 0)))
  (retS (varE 2)))) nxS)
  (seqS (putS (binF addD (binF ixD (varE 0) (cE (.int 3))) (cE (.int 1))) (varE 0) (cE (.int 3)))
  (seqS (putS (binF modD (appF intD (consF (binF addD (binF addD (binF mulD (binF ixD (varE 0) (cE (.int 4))) (cE (.int 48271))) (binF mulD (binF modD (appF intD (consF (binF ixD (varE 0) (cE (.int 0))) nilF)) (cE (.int 1000003))) (cE (.int 69621)))) (binF mulD (binF ixD (varE 0) (cE (.int 3))) (cE (.int 7919)))) nilF)) (cE (.int 2147483647))) (varE 0) (cE (.int 4)))
  (retS (binF modD (binF fdivD (binF modD (appF intD (consF (binF addD (binF mulD (binF ixD (varE 0) (cE (.int 4))) (cE (.int 16807))) (binF mulD (binF ixD (varE 0) (cE (.int 3))) (binF ixD (varE 0) (cE (.int 3))))) nilF)) (cE (.int 2147483629))) (cE (.int 11))) (varE 1)))))))
noncomputable def F__law_draw : DFun := fnF 3 g__law_draw
/-! _law_number: 0 bag, 1 many, 2 way, 3 top, 4 word, 5 left, 6 k, 7 digit -/
noncomputable def g__law_number : SF := (seqS (setS 1 (binF addD (cE (.int 1)) (callF 2 F__law_draw (consF (varE 0) (consF (cE (.int 4)) nilF)))))
  (seqS (setS 2 (callF 2 F__law_draw (consF (varE 0) (consF (cE (.int 6)) nilF))))
  (seqS (setS 3 (binF ixD (lstF (consF (cE (.int 3)) (consF (cE (.int 3)) (consF (cE (.int 3)) (consF (cE (.int 3)) (consF (cE (.int 9)) (consF (cE (.int 9)) nilF))))))) (varE 2)))
  (seqS (setS 4 (cE (.str "")))
  (seqS (setS 5 (cE (.int 24)))
  (seqS (forS (itA rng1I (consF (varE 1) nilF)) (nmG 6) (seqS (setS 7 (binF addD (cE (.int 1)) (callF 2 F__law_draw (consF (varE 0) (consF (appF min2D (consF (varE 3) (consF (binF subD (varE 5) (binF subD (binF subD (varE 1) (cE (.int 1))) (varE 6))) nilF))) nilF)))))
  (seqS (ifS (andB (tstF (binF eqD (varE 2) (cE (.int 5)))) (tstF (binF eqD (varE 6) (binF subD (varE 1) (cE (.int 1)))))) (setS 7 (appF min2D (consF (cE (.int 9)) (consF (varE 5) nilF)))) nxS)
  (seqS (setS 4 (binF addD (varE 4) (appF strD (consF (varE 7) nilF))))
  (setS 5 (binF subD (varE 5) (varE 7)))))))
  (retS (varE 4))))))))
noncomputable def F__law_number : DFun := fnF 8 g__law_number

/-- the bag: what is left of the present cell, the cells, the place of the next one, how many were drawn of the store, the store; at most m drawn so -/
structure BagOk (m : Nat) (xs : List D) : Prop where
  ex : ∃ (x : Int) (cells : List Int) (i c r : Int), xs = [.int x, .lst (cells.map D.int), .int i, .int c, .int r] ∧ 0 ≤ x ∧ (∀ y ∈ cells, 0 ≤ y) ∧ 0 ≤ i ∧ 0 ≤ c ∧ c ≤ m ∧ 0 ≤ r ∧ r < 2147483647
theorem BagOk.mono {m k : Nat} {xs : List D} (h : BagOk m xs) (l : m ≤ k) : BagOk k xs := by
  obtain ⟨x, cells, i, c, r, e, h1, h2, h3, h4, h5, h6⟩ := h.ex
  exact ⟨x, cells, i, c, r, e, h1, h2, h3, h4, by omega, h6⟩
theorem leave_rt {n : Nat} {d : D} {S : Sto} : leave n (.rt d S) = .ok (fz n S S.length d) (S.take n) := rfl
theorem leave_nx {n : Nat} {ρ : Nv} {S : Sto} : leave n (.nx ρ S) = .ok .non (S.take n) := rfl
theorem take_cons (b : Cl) (T : Sto) : (b :: T).take (T.length + 1) = b :: T := by rw [List.take_succ_cons, List.take_length]

theorem draw_ok {m : Nat} {b : List D} {T : Sto} {lim : Int} (hb : BagOk m b) (h0 : 0 < lim) (h1 : lim < 2 ^ 1000) (hm : m < 2 ^ 60) :
    ∃ d b', F__law_draw [.cell 0, .int lim] (.lst b :: T) = .ok (.int d) (.lst b' :: T) ∧ 0 ≤ d ∧ d < lim ∧ BagOk (m + 1) b' := by
  obtain ⟨x, cells, i, c, r, rfl, hx, hc, hi, hc0, hcm, hr0, hr1⟩ := hb.ex
  -- behind the first test
  have rest : ∀ (x i : Int), 0 ≤ x → 0 ≤ i → ∃ d b', leave (T.length + 1) ((seqS (ifS (tstF (binF geD (binF ixD (varE 0) (cE (.int 0))) (binF powD (cE (.int 10)) (cE (.int 18))))) (seqS (setS 2 (binF modD (appF intD (consF (binF ixD (varE 0) (cE (.int 0))) nilF)) (varE 1)))
  (seqS (putS (binF fdivD (appF intD (consF (binF ixD (varE 0) (cE (.int 0))) nilF)) (varE 1)) (varE 0) (cE (.int 0)))
  (retS (varE 2)))) nxS)
  (seqS (putS (binF addD (binF ixD (varE 0) (cE (.int 3))) (cE (.int 1))) (varE 0) (cE (.int 3)))
  (seqS (putS (binF modD (appF intD (consF (binF addD (binF addD (binF mulD (binF ixD (varE 0) (cE (.int 4))) (cE (.int 48271))) (binF mulD (binF modD (appF intD (consF (binF ixD (varE 0) (cE (.int 0))) nilF)) (cE (.int 1000003))) (cE (.int 69621)))) (binF mulD (binF ixD (varE 0) (cE (.int 3))) (cE (.int 7919)))) nilF)) (cE (.int 2147483647))) (varE 0) (cE (.int 4)))
  (retS (binF modD (binF fdivD (binF modD (appF intD (consF (binF addD (binF mulD (binF ixD (varE 0) (cE (.int 4))) (cE (.int 16807))) (binF mulD (binF ixD (varE 0) (cE (.int 3))) (binF ixD (varE 0) (cE (.int 3))))) nilF)) (cE (.int 2147483629))) (cE (.int 11))) (varE 1))))))
      [some (.cell 0), some (.int lim), none] (.lst [.int x, .lst (cells.map D.int), .int i, .int c, .int r] :: T)) = .ok (.int d) (.lst b' :: T) ∧ 0 ≤ d ∧ d < lim ∧ BagOk (m + 1) b' := by
    intro x i hx hi
    by_cases hb : 1000000000000000000 ≤ x
    · refine ⟨x % lim, [.int (x / lim), .lst (cells.map D.int), .int i, .int c, .int r], ?_, Int.emod_nonneg _ (by omega), Int.emod_lt_of_pos _ h0, ⟨_, cells, i, c, r, rfl, Int.ediv_nonneg hx (by omega), hc, hi, hc0, by omega, hr0, hr1⟩⟩
      simp only [Bd, seqS, setS, retS, retN, dropS, ifS, forS, putS, augS, nxS, bkS, ctS, SR.seq_nx, SR.seq_rt, SR.seq_exc, SR.seq_bk, SR.seq_ct, SR.turn_nx, SR.turn_ct, SR.turn_bk, SR.turn_rt, SR.turn_exc, R.bind_ok, R.bind_bad, R.bind_exc, R.bindN_ok, R.st_ok, R.st_exc,
 varE, cE, binF, tstF, chnF, andB, orB, notB, andV, orV, notV, ifE, nilF, consF, tupF, lstF, ownF, negF, noO, someO, slF, callF, appF, isiF, mthF, itF, itA, nmG, nilG, consG, tupG, yesB, wipeD,
 addD_ii, addD_ss, addD_ll, subD_ii, mulD_ii, mulD_li, mulD_si, fdivD_ii, modD_ii, powD_10_18, ltD_ii, leD_ii, gtD_ii, geD_ii, gtD_ss, ltD_ss, eqD_ii, eqD_ss, eqD_bb, neD_ii, neD_ss, isBD_bb, isND_non, isND_int, isND_str, notND_non, notND_int, notND_str, lenD_s, lenD_l, lenD_r, lenD_t, lenD_c, min2D_ii, max2D_ii, intD_i, intD_b, strD_i, sumD_l, sumD_c, sumD_t, maxD_c, tupleD_l, tupleD_t, tupleD_c, listD_l, listD_t,
 ixD_l, ixD_r, ixD_t, ixD_s, ixD_c, slD_s, slD_l, slD_r, putIx_c, appendD_c, extendD_cl, isTy_c, isTy_s, isTy_l, iaddD, atI_0, atI_1, atI_2, atI_3, atI_4, low_int, low_str, low_bl, low_non, anyI_l, anyI_r, anyI_t, anyI_s, rng1I_i, rng2I_ii, ixN5, set_concat, get_concat, take_concat, len_concat, notInD_cs, inD_cs, sindexD_s, intD_s, tyN_s, tyN_i, tyN_b, tyN_n, tyN_t, tyN_l, tyIs_t, zipI_tt,
 startD, List.map_cons, List.map_nil, List.length_cons, List.length_nil, List.cons_append, List.nil_append, List.getElem?_cons_zero, List.getElem?_cons_succ, List.set_cons_zero, List.set_cons_succ, List.replicate_succ, List.replicate_zero, Option.bind_some, if_true, if_false, Bool.true_and, Bool.false_and, Bool.and_true, Bool.not_true, Bool.not_false, decide_true, decide_false, eq_self, Nat.zero_add, Nat.reduceAdd, Nat.reduceSub, reduceIte, reduceCtorEq, Int.reduceEq, Bool.false_eq_true, true_and, and_true, true_or, or_true, decide_eq_true_eq, hb, h0, h1, leave_rt, fz_int, take_cons]
    · have e0 : (0 : Int) < 1000003 := by decide
      have e1 : (0 : Int) < 2147483647 := by decide
      have e2 : (0 : Int) < 2147483629 := by decide
      have c1 : -(2 ^ 64) < r ∧ r < 2 ^ 64 := by constructor <;> omega
      have x1 := Int.emod_nonneg x (show (1000003 : Int) ≠ 0 by decide)
      have x2 := Int.emod_lt_of_pos x e0
      have c2 : -(2 ^ 64) < x % 1000003 ∧ x % 1000003 < 2 ^ 64 := by constructor <;> omega
      have c3 : -(2 ^ 64) < c + 1 ∧ c + 1 < 2 ^ 64 := by constructor <;> omega
      have y1 := Int.emod_nonneg (r * 48271 + x % 1000003 * 69621 + (c + 1) * 7919) (show (2147483647 : Int) ≠ 0 by decide)
      have y2 := Int.emod_lt_of_pos (r * 48271 + x % 1000003 * 69621 + (c + 1) * 7919) e1
      refine ⟨((r * 48271 + x % 1000003 * 69621 + (c + 1) * 7919) % 2147483647 * 16807 + (c + 1) * (c + 1)) % 2147483629 / 11 % lim,
        [.int x, .lst (cells.map D.int), .int i, .int (c + 1), .int ((r * 48271 + x % 1000003 * 69621 + (c + 1) * 7919) % 2147483647)], ?_, Int.emod_nonneg _ (by omega), Int.emod_lt_of_pos _ h0, ⟨x, cells, i, c + 1, _, rfl, hx, hc, hi, by omega, by omega, y1, y2⟩⟩
      have c4 : -(2 ^ 64) < (r * 48271 + x % 1000003 * 69621 + (c + 1) * 7919) % 2147483647 ∧ (r * 48271 + x % 1000003 * 69621 + (c + 1) * 7919) % 2147483647 < 2 ^ 64 := by constructor <;> omega
      have e11 : (0 : Int) < 11 ∧ (11 : Int) < 2 ^ 1000 := by decide
      simp only [Bd, seqS, setS, retS, retN, dropS, ifS, forS, putS, augS, nxS, bkS, ctS, SR.seq_nx, SR.seq_rt, SR.seq_exc, SR.seq_bk, SR.seq_ct, SR.turn_nx, SR.turn_ct, SR.turn_bk, SR.turn_rt, SR.turn_exc, R.bind_ok, R.bind_bad, R.bind_exc, R.bindN_ok, R.st_ok, R.st_exc,
 varE, cE, binF, tstF, chnF, andB, orB, notB, andV, orV, notV, ifE, nilF, consF, tupF, lstF, ownF, negF, noO, someO, slF, callF, appF, isiF, mthF, itF, itA, nmG, nilG, consG, tupG, yesB, wipeD,
 addD_ii, addD_ss, addD_ll, subD_ii, mulD_ii, mulD_li, mulD_si, fdivD_ii, modD_ii, powD_10_18, ltD_ii, leD_ii, gtD_ii, geD_ii, gtD_ss, ltD_ss, eqD_ii, eqD_ss, eqD_bb, neD_ii, neD_ss, isBD_bb, isND_non, isND_int, isND_str, notND_non, notND_int, notND_str, lenD_s, lenD_l, lenD_r, lenD_t, lenD_c, min2D_ii, max2D_ii, intD_i, intD_b, strD_i, sumD_l, sumD_c, sumD_t, maxD_c, tupleD_l, tupleD_t, tupleD_c, listD_l, listD_t,
 ixD_l, ixD_r, ixD_t, ixD_s, ixD_c, slD_s, slD_l, slD_r, putIx_c, appendD_c, extendD_cl, isTy_c, isTy_s, isTy_l, iaddD, atI_0, atI_1, atI_2, atI_3, atI_4, low_int, low_str, low_bl, low_non, anyI_l, anyI_r, anyI_t, anyI_s, rng1I_i, rng2I_ii, ixN5, set_concat, get_concat, take_concat, len_concat, notInD_cs, inD_cs, sindexD_s, intD_s, tyN_s, tyN_i, tyN_b, tyN_n, tyN_t, tyN_l, tyIs_t, zipI_tt,
 startD, List.map_cons, List.map_nil, List.length_cons, List.length_nil, List.cons_append, List.nil_append, List.getElem?_cons_zero, List.getElem?_cons_succ, List.set_cons_zero, List.set_cons_succ, List.replicate_succ, List.replicate_zero, Option.bind_some, if_true, if_false, Bool.true_and, Bool.false_and, Bool.and_true, Bool.not_true, Bool.not_false, decide_true, decide_false, eq_self, Nat.zero_add, Nat.reduceAdd, Nat.reduceSub, reduceIte, reduceCtorEq, Int.reduceEq, Bool.false_eq_true, true_and, and_true, true_or, or_true, decide_eq_true_eq, hb, h0, h1, leave_rt, fz_int, take_cons, c1, c2, c3, c4, e0, e1, e2, e11]
  unfold F__law_draw fnF g__law_draw
  have st : ∀ (x' i' : Int), 0 ≤ x' → 0 ≤ i' → _ := rest
  by_cases hx1 : x < 1000000000000000000
  · by_cases hi1 : i < ((cells.map D.int).length : Nat)
    · have hl : i < (cells.length : Nat) := by simpa using hi1
      have ha : atI (cells.map D.int) i = some (D.int (cells[i.toNat]'(by omega))) := by
        rw [atI_some hi hi1]; simp
      obtain ⟨d, b', e, h2, h3, h4⟩ := rest (cells[i.toNat]'(by omega)) (i + 1) (hc _ (List.getElem_mem _)) (by omega)
      refine ⟨d, b', ?_, h2, h3, h4⟩
      rw [← e]
      simp only [Bd, seqS, setS, retS, retN, dropS, ifS, forS, putS, augS, nxS, bkS, ctS, SR.seq_nx, SR.seq_rt, SR.seq_exc, SR.seq_bk, SR.seq_ct, SR.turn_nx, SR.turn_ct, SR.turn_bk, SR.turn_rt, SR.turn_exc, R.bind_ok, R.bind_bad, R.bind_exc, R.bindN_ok, R.st_ok, R.st_exc,
 varE, cE, binF, tstF, chnF, andB, orB, notB, andV, orV, notV, ifE, nilF, consF, tupF, lstF, ownF, negF, noO, someO, slF, callF, appF, isiF, mthF, itF, itA, nmG, nilG, consG, tupG, yesB, wipeD,
 addD_ii, addD_ss, addD_ll, subD_ii, mulD_ii, mulD_li, mulD_si, fdivD_ii, modD_ii, powD_10_18, ltD_ii, leD_ii, gtD_ii, geD_ii, gtD_ss, ltD_ss, eqD_ii, eqD_ss, eqD_bb, neD_ii, neD_ss, isBD_bb, isND_non, isND_int, isND_str, notND_non, notND_int, notND_str, lenD_s, lenD_l, lenD_r, lenD_t, lenD_c, min2D_ii, max2D_ii, intD_i, intD_b, strD_i, sumD_l, sumD_c, sumD_t, maxD_c, tupleD_l, tupleD_t, tupleD_c, listD_l, listD_t,
 ixD_l, ixD_r, ixD_t, ixD_s, ixD_c, slD_s, slD_l, slD_r, putIx_c, appendD_c, extendD_cl, isTy_c, isTy_s, isTy_l, iaddD, atI_0, atI_1, atI_2, atI_3, atI_4, low_int, low_str, low_bl, low_non, anyI_l, anyI_r, anyI_t, anyI_s, rng1I_i, rng2I_ii, ixN5, set_concat, get_concat, take_concat, len_concat, notInD_cs, inD_cs, sindexD_s, intD_s, tyN_s, tyN_i, tyN_b, tyN_n, tyN_t, tyN_l, tyIs_t, zipI_tt,
 startD, List.map_cons, List.map_nil, List.length_cons, List.length_nil, List.cons_append, List.nil_append, List.getElem?_cons_zero, List.getElem?_cons_succ, List.set_cons_zero, List.set_cons_succ, List.replicate_succ, List.replicate_zero, Option.bind_some, if_true, if_false, Bool.true_and, Bool.false_and, Bool.and_true, Bool.not_true, Bool.not_false, decide_true, decide_false, eq_self, Nat.zero_add, Nat.reduceAdd, Nat.reduceSub, reduceIte, reduceCtorEq, Int.reduceEq, Bool.false_eq_true, true_and, and_true, true_or, or_true, decide_eq_true_eq, hx1, hi1, ha]
    · obtain ⟨d, b', e, h2, h3, h4⟩ := rest x i hx hi
      refine ⟨d, b', ?_, h2, h3, h4⟩
      rw [← e]
      simp only [Bd, seqS, setS, retS, retN, dropS, ifS, forS, putS, augS, nxS, bkS, ctS, SR.seq_nx, SR.seq_rt, SR.seq_exc, SR.seq_bk, SR.seq_ct, SR.turn_nx, SR.turn_ct, SR.turn_bk, SR.turn_rt, SR.turn_exc, R.bind_ok, R.bind_bad, R.bind_exc, R.bindN_ok, R.st_ok, R.st_exc,
 varE, cE, binF, tstF, chnF, andB, orB, notB, andV, orV, notV, ifE, nilF, consF, tupF, lstF, ownF, negF, noO, someO, slF, callF, appF, isiF, mthF, itF, itA, nmG, nilG, consG, tupG, yesB, wipeD,
 addD_ii, addD_ss, addD_ll, subD_ii, mulD_ii, mulD_li, mulD_si, fdivD_ii, modD_ii, powD_10_18, ltD_ii, leD_ii, gtD_ii, geD_ii, gtD_ss, ltD_ss, eqD_ii, eqD_ss, eqD_bb, neD_ii, neD_ss, isBD_bb, isND_non, isND_int, isND_str, notND_non, notND_int, notND_str, lenD_s, lenD_l, lenD_r, lenD_t, lenD_c, min2D_ii, max2D_ii, intD_i, intD_b, strD_i, sumD_l, sumD_c, sumD_t, maxD_c, tupleD_l, tupleD_t, tupleD_c, listD_l, listD_t,
 ixD_l, ixD_r, ixD_t, ixD_s, ixD_c, slD_s, slD_l, slD_r, putIx_c, appendD_c, extendD_cl, isTy_c, isTy_s, isTy_l, iaddD, atI_0, atI_1, atI_2, atI_3, atI_4, low_int, low_str, low_bl, low_non, anyI_l, anyI_r, anyI_t, anyI_s, rng1I_i, rng2I_ii, ixN5, set_concat, get_concat, take_concat, len_concat, notInD_cs, inD_cs, sindexD_s, intD_s, tyN_s, tyN_i, tyN_b, tyN_n, tyN_t, tyN_l, tyIs_t, zipI_tt,
 startD, List.map_cons, List.map_nil, List.length_cons, List.length_nil, List.cons_append, List.nil_append, List.getElem?_cons_zero, List.getElem?_cons_succ, List.set_cons_zero, List.set_cons_succ, List.replicate_succ, List.replicate_zero, Option.bind_some, if_true, if_false, Bool.true_and, Bool.false_and, Bool.and_true, Bool.not_true, Bool.not_false, decide_true, decide_false, eq_self, Nat.zero_add, Nat.reduceAdd, Nat.reduceSub, reduceIte, reduceCtorEq, Int.reduceEq, Bool.false_eq_true, true_and, and_true, true_or, or_true, decide_eq_true_eq, hx1, hi1]
  · obtain ⟨d, b', e, h2, h3, h4⟩ := rest x i hx hi
    refine ⟨d, b', ?_, h2, h3, h4⟩
    rw [← e]
    simp only [Bd, seqS, setS, retS, retN, dropS, ifS, forS, putS, augS, nxS, bkS, ctS, SR.seq_nx, SR.seq_rt, SR.seq_exc, SR.seq_bk, SR.seq_ct, SR.turn_nx, SR.turn_ct, SR.turn_bk, SR.turn_rt, SR.turn_exc, R.bind_ok, R.bind_bad, R.bind_exc, R.bindN_ok, R.st_ok, R.st_exc,
 varE, cE, binF, tstF, chnF, andB, orB, notB, andV, orV, notV, ifE, nilF, consF, tupF, lstF, ownF, negF, noO, someO, slF, callF, appF, isiF, mthF, itF, itA, nmG, nilG, consG, tupG, yesB, wipeD,
 addD_ii, addD_ss, addD_ll, subD_ii, mulD_ii, mulD_li, mulD_si, fdivD_ii, modD_ii, powD_10_18, ltD_ii, leD_ii, gtD_ii, geD_ii, gtD_ss, ltD_ss, eqD_ii, eqD_ss, eqD_bb, neD_ii, neD_ss, isBD_bb, isND_non, isND_int, isND_str, notND_non, notND_int, notND_str, lenD_s, lenD_l, lenD_r, lenD_t, lenD_c, min2D_ii, max2D_ii, intD_i, intD_b, strD_i, sumD_l, sumD_c, sumD_t, maxD_c, tupleD_l, tupleD_t, tupleD_c, listD_l, listD_t,
 ixD_l, ixD_r, ixD_t, ixD_s, ixD_c, slD_s, slD_l, slD_r, putIx_c, appendD_c, extendD_cl, isTy_c, isTy_s, isTy_l, iaddD, atI_0, atI_1, atI_2, atI_3, atI_4, low_int, low_str, low_bl, low_non, anyI_l, anyI_r, anyI_t, anyI_s, rng1I_i, rng2I_ii, ixN5, set_concat, get_concat, take_concat, len_concat, notInD_cs, inD_cs, sindexD_s, intD_s, tyN_s, tyN_i, tyN_b, tyN_n, tyN_t, tyN_l, tyIs_t, zipI_tt,
 startD, List.map_cons, List.map_nil, List.length_cons, List.length_nil, List.cons_append, List.nil_append, List.getElem?_cons_zero, List.getElem?_cons_succ, List.set_cons_zero, List.set_cons_succ, List.replicate_succ, List.replicate_zero, Option.bind_some, if_true, if_false, Bool.true_and, Bool.false_and, Bool.and_true, Bool.not_true, Bool.not_false, decide_true, decide_false, eq_self, Nat.zero_add, Nat.reduceAdd, Nat.reduceSub, reduceIte, reduceCtorEq, Int.reduceEq, Bool.false_eq_true, true_and, and_true, true_or, or_true, decide_eq_true_eq, hx1]

/-! ### the bag made of the script -/
theorem sizeLine_big {n : Nat} (h : n ≤ 1000000) : NLe n sizeLine := by unfold NLe; rw [sizeLine_eq]; omega
theorem sIx63 (n : Nat) : HT.sIx n n (some (63 : Int)) = min 63 n := by
  have := HT.sIx_nat n n 63
  exact this
theorem cutD_head (ds : List D) (k : Nat) : cutD ds none (some (k : Int)) = ds.take k := by
  unfold cutD
  rw [HT.sIx_none, HT.sIx_nat, List.drop_zero, Nat.sub_zero]
  apply List.ext_getElem?
  intro i
  rw [List.getElem?_take, List.getElem?_take]
  by_cases h : i < min k ds.length
  · rw [if_pos h, if_pos (by omega)]
  · rw [if_neg h]
    by_cases h2 : i < k
    · rw [if_pos h2, List.getElem?_eq_none (by omega)]
    · rw [if_neg h2]
theorem cutD_short (ds : List D) (k : Nat) (h : ds.length ≤ k) : cutD ds none (some (k : Int)) = ds := by rw [cutD_head, List.take_of_length_le h]
theorem bag_ok (ns : List Int) (hl : ns.length ≤ 63) : ∃ b, F__law_bag [.rol (ns.map D.int)] [] = .ok (.cell 0) [.lst b] ∧ BagOk 0 b := by
  refine ⟨[.int 0, .lst ((ns.map fun c => if c ≥ 0 then c else 1 - c).map D.int), .int 0, .int 0, .int 20261], ?_, ⟨0, _, 0, 0, 20261, rfl, by decide, fun y hy => ?_, by decide, by decide, by decide, by decide, by decide⟩⟩
  · unfold F__law_bag fnK g__law_bag
    have hcut : cutD (ns.map D.int) none (some 63) = ns.map D.int := cutD_short _ 63 (by simpa using hl)
    have hi : (itF anyI (slF (varE 0) noO (someO (cE (.int 63))))) [some (.rol (ns.map D.int)), none, none] [] = .ok (ns.map D.int) [] := by
      simp only [Bd, seqS, setS, retS, retN, dropS, ifS, forS, putS, augS, nxS, bkS, ctS, SR.seq_nx, SR.seq_rt, SR.seq_exc, SR.seq_bk, SR.seq_ct, SR.turn_nx, SR.turn_ct, SR.turn_bk, SR.turn_rt, SR.turn_exc, R.bind_ok, R.bind_bad, R.bind_exc, R.bindN_ok, R.st_ok, R.st_exc,
 varE, cE, binF, tstF, chnF, andB, orB, notB, andV, orV, notV, ifE, nilF, consF, tupF, lstF, ownF, negF, noO, someO, slF, callF, appF, isiF, mthF, itF, itA, nmG, nilG, consG, tupG, yesB, wipeD,
 addD_ii, addD_ss, addD_ll, subD_ii, mulD_ii, mulD_li, mulD_si, fdivD_ii, modD_ii, powD_10_18, ltD_ii, leD_ii, gtD_ii, geD_ii, gtD_ss, ltD_ss, eqD_ii, eqD_ss, eqD_bb, neD_ii, neD_ss, isBD_bb, isND_non, isND_int, isND_str, notND_non, notND_int, notND_str, lenD_s, lenD_l, lenD_r, lenD_t, lenD_c, min2D_ii, max2D_ii, intD_i, intD_b, strD_i, sumD_l, sumD_c, sumD_t, maxD_c, tupleD_l, tupleD_t, tupleD_c, listD_l, listD_t,
 ixD_l, ixD_r, ixD_t, ixD_s, ixD_c, slD_s, slD_l, slD_r, putIx_c, appendD_c, extendD_cl, isTy_c, isTy_s, isTy_l, iaddD, atI_0, atI_1, atI_2, atI_3, atI_4, low_int, low_str, low_bl, low_non, anyI_l, anyI_r, anyI_t, anyI_s, rng1I_i, rng2I_ii, ixN5, set_concat, get_concat, take_concat, len_concat, notInD_cs, inD_cs, sindexD_s, intD_s, tyN_s, tyN_i, tyN_b, tyN_n, tyN_t, tyN_l, tyIs_t, zipI_tt,
 startD, List.map_cons, List.map_nil, List.length_cons, List.length_nil, List.cons_append, List.nil_append, List.getElem?_cons_zero, List.getElem?_cons_succ, List.set_cons_zero, List.set_cons_succ, List.replicate_succ, List.replicate_zero, Option.bind_some, if_true, if_false, Bool.true_and, Bool.false_and, Bool.and_true, Bool.not_true, Bool.not_false, decide_true, decide_false, eq_self, Nat.zero_add, Nat.reduceAdd, Nat.reduceSub, reduceIte, reduceCtorEq, Int.reduceEq, Bool.false_eq_true, true_and, and_true, true_or, or_true, decide_eq_true_eq, hcut]
    have hc := compF_all (vs := [2]) (g := nmG 2) (fe := ifE (tstF (binF geD (varE 2) (cE (.int 0)))) (varE 2) (binF subD (cE (.int 1)) (varE 2))) (fun d => match d with | .int c => .int (if c ≥ 0 then c else 1 - c) | d => d) hi (by rw [List.length_map]; exact sizeLine_big (by omega)) (fun d hd acc => by
      obtain ⟨c, _, rfl⟩ := List.mem_map.mp hd
      refine ⟨[some (.rol (ns.map D.int)), none, some (.int c)], by simp only [Bd, seqS, setS, retS, retN, dropS, ifS, forS, putS, augS, nxS, bkS, ctS, SR.seq_nx, SR.seq_rt, SR.seq_exc, SR.seq_bk, SR.seq_ct, SR.turn_nx, SR.turn_ct, SR.turn_bk, SR.turn_rt, SR.turn_exc, R.bind_ok, R.bind_bad, R.bind_exc, R.bindN_ok, R.st_ok, R.st_exc,
 varE, cE, binF, tstF, chnF, andB, orB, notB, andV, orV, notV, ifE, nilF, consF, tupF, lstF, ownF, negF, noO, someO, slF, callF, appF, isiF, mthF, itF, itA, nmG, nilG, consG, tupG, yesB, wipeD,
 addD_ii, addD_ss, addD_ll, subD_ii, mulD_ii, mulD_li, mulD_si, fdivD_ii, modD_ii, powD_10_18, ltD_ii, leD_ii, gtD_ii, geD_ii, gtD_ss, ltD_ss, eqD_ii, eqD_ss, eqD_bb, neD_ii, neD_ss, isBD_bb, isND_non, isND_int, isND_str, notND_non, notND_int, notND_str, lenD_s, lenD_l, lenD_r, lenD_t, lenD_c, min2D_ii, max2D_ii, intD_i, intD_b, strD_i, sumD_l, sumD_c, sumD_t, maxD_c, tupleD_l, tupleD_t, tupleD_c, listD_l, listD_t,
 ixD_l, ixD_r, ixD_t, ixD_s, ixD_c, slD_s, slD_l, slD_r, putIx_c, appendD_c, extendD_cl, isTy_c, isTy_s, isTy_l, iaddD, atI_0, atI_1, atI_2, atI_3, atI_4, low_int, low_str, low_bl, low_non, anyI_l, anyI_r, anyI_t, anyI_s, rng1I_i, rng2I_ii, ixN5, set_concat, get_concat, take_concat, len_concat, notInD_cs, inD_cs, sindexD_s, intD_s, tyN_s, tyN_i, tyN_b, tyN_n, tyN_t, tyN_l, tyIs_t, zipI_tt,
 startD, List.map_cons, List.map_nil, List.length_cons, List.length_nil, List.cons_append, List.nil_append, List.getElem?_cons_zero, List.getElem?_cons_succ, List.set_cons_zero, List.set_cons_succ, List.replicate_succ, List.replicate_zero, Option.bind_some, if_true, if_false, Bool.true_and, Bool.false_and, Bool.and_true, Bool.not_true, Bool.not_false, decide_true, decide_false, eq_self, Nat.zero_add, Nat.reduceAdd, Nat.reduceSub, reduceIte, reduceCtorEq, Int.reduceEq, Bool.false_eq_true, true_and, and_true, true_or, or_true, decide_eq_true_eq], ?_, rfl⟩
      by_cases h : 0 ≤ c
      · simp only [Bd, seqS, setS, retS, retN, dropS, ifS, forS, putS, augS, nxS, bkS, ctS, SR.seq_nx, SR.seq_rt, SR.seq_exc, SR.seq_bk, SR.seq_ct, SR.turn_nx, SR.turn_ct, SR.turn_bk, SR.turn_rt, SR.turn_exc, R.bind_ok, R.bind_bad, R.bind_exc, R.bindN_ok, R.st_ok, R.st_exc,
 varE, cE, binF, tstF, chnF, andB, orB, notB, andV, orV, notV, ifE, nilF, consF, tupF, lstF, ownF, negF, noO, someO, slF, callF, appF, isiF, mthF, itF, itA, nmG, nilG, consG, tupG, yesB, wipeD,
 addD_ii, addD_ss, addD_ll, subD_ii, mulD_ii, mulD_li, mulD_si, fdivD_ii, modD_ii, powD_10_18, ltD_ii, leD_ii, gtD_ii, geD_ii, gtD_ss, ltD_ss, eqD_ii, eqD_ss, eqD_bb, neD_ii, neD_ss, isBD_bb, isND_non, isND_int, isND_str, notND_non, notND_int, notND_str, lenD_s, lenD_l, lenD_r, lenD_t, lenD_c, min2D_ii, max2D_ii, intD_i, intD_b, strD_i, sumD_l, sumD_c, sumD_t, maxD_c, tupleD_l, tupleD_t, tupleD_c, listD_l, listD_t,
 ixD_l, ixD_r, ixD_t, ixD_s, ixD_c, slD_s, slD_l, slD_r, putIx_c, appendD_c, extendD_cl, isTy_c, isTy_s, isTy_l, iaddD, atI_0, atI_1, atI_2, atI_3, atI_4, low_int, low_str, low_bl, low_non, anyI_l, anyI_r, anyI_t, anyI_s, rng1I_i, rng2I_ii, ixN5, set_concat, get_concat, take_concat, len_concat, notInD_cs, inD_cs, sindexD_s, intD_s, tyN_s, tyN_i, tyN_b, tyN_n, tyN_t, tyN_l, tyIs_t, zipI_tt,
 startD, List.map_cons, List.map_nil, List.length_cons, List.length_nil, List.cons_append, List.nil_append, List.getElem?_cons_zero, List.getElem?_cons_succ, List.set_cons_zero, List.set_cons_succ, List.replicate_succ, List.replicate_zero, Option.bind_some, if_true, if_false, Bool.true_and, Bool.false_and, Bool.and_true, Bool.not_true, Bool.not_false, decide_true, decide_false, eq_self, Nat.zero_add, Nat.reduceAdd, Nat.reduceSub, reduceIte, reduceCtorEq, Int.reduceEq, Bool.false_eq_true, true_and, and_true, true_or, or_true, decide_eq_true_eq, h, ge_iff_le]
      · simp only [Bd, seqS, setS, retS, retN, dropS, ifS, forS, putS, augS, nxS, bkS, ctS, SR.seq_nx, SR.seq_rt, SR.seq_exc, SR.seq_bk, SR.seq_ct, SR.turn_nx, SR.turn_ct, SR.turn_bk, SR.turn_rt, SR.turn_exc, R.bind_ok, R.bind_bad, R.bind_exc, R.bindN_ok, R.st_ok, R.st_exc,
 varE, cE, binF, tstF, chnF, andB, orB, notB, andV, orV, notV, ifE, nilF, consF, tupF, lstF, ownF, negF, noO, someO, slF, callF, appF, isiF, mthF, itF, itA, nmG, nilG, consG, tupG, yesB, wipeD,
 addD_ii, addD_ss, addD_ll, subD_ii, mulD_ii, mulD_li, mulD_si, fdivD_ii, modD_ii, powD_10_18, ltD_ii, leD_ii, gtD_ii, geD_ii, gtD_ss, ltD_ss, eqD_ii, eqD_ss, eqD_bb, neD_ii, neD_ss, isBD_bb, isND_non, isND_int, isND_str, notND_non, notND_int, notND_str, lenD_s, lenD_l, lenD_r, lenD_t, lenD_c, min2D_ii, max2D_ii, intD_i, intD_b, strD_i, sumD_l, sumD_c, sumD_t, maxD_c, tupleD_l, tupleD_t, tupleD_c, listD_l, listD_t,
 ixD_l, ixD_r, ixD_t, ixD_s, ixD_c, slD_s, slD_l, slD_r, putIx_c, appendD_c, extendD_cl, isTy_c, isTy_s, isTy_l, iaddD, atI_0, atI_1, atI_2, atI_3, atI_4, low_int, low_str, low_bl, low_non, anyI_l, anyI_r, anyI_t, anyI_s, rng1I_i, rng2I_ii, ixN5, set_concat, get_concat, take_concat, len_concat, notInD_cs, inD_cs, sindexD_s, intD_s, tyN_s, tyN_i, tyN_b, tyN_n, tyN_t, tyN_l, tyIs_t, zipI_tt,
 startD, List.map_cons, List.map_nil, List.length_cons, List.length_nil, List.cons_append, List.nil_append, List.getElem?_cons_zero, List.getElem?_cons_succ, List.set_cons_zero, List.set_cons_succ, List.replicate_succ, List.replicate_zero, Option.bind_some, if_true, if_false, Bool.true_and, Bool.false_and, Bool.and_true, Bool.not_true, Bool.not_false, decide_true, decide_false, eq_self, Nat.zero_add, Nat.reduceAdd, Nat.reduceSub, reduceIte, reduceCtorEq, Int.reduceEq, Bool.false_eq_true, true_and, and_true, true_or, or_true, decide_eq_true_eq, h, ge_iff_le])
    simp only [List.map_map] at hc
    simp only [Bd, seqS, setS, retS, retN, dropS, ifS, forS, putS, augS, nxS, bkS, ctS, SR.seq_nx, SR.seq_rt, SR.seq_exc, SR.seq_bk, SR.seq_ct, SR.turn_nx, SR.turn_ct, SR.turn_bk, SR.turn_rt, SR.turn_exc, R.bind_ok, R.bind_bad, R.bind_exc, R.bindN_ok, R.st_ok, R.st_exc,
 varE, cE, binF, tstF, chnF, andB, orB, notB, andV, orV, notV, ifE, nilF, consF, tupF, lstF, ownF, negF, noO, someO, slF, callF, appF, isiF, mthF, itF, itA, nmG, nilG, consG, tupG, yesB, wipeD,
 addD_ii, addD_ss, addD_ll, subD_ii, mulD_ii, mulD_li, mulD_si, fdivD_ii, modD_ii, powD_10_18, ltD_ii, leD_ii, gtD_ii, geD_ii, gtD_ss, ltD_ss, eqD_ii, eqD_ss, eqD_bb, neD_ii, neD_ss, isBD_bb, isND_non, isND_int, isND_str, notND_non, notND_int, notND_str, lenD_s, lenD_l, lenD_r, lenD_t, lenD_c, min2D_ii, max2D_ii, intD_i, intD_b, strD_i, sumD_l, sumD_c, sumD_t, maxD_c, tupleD_l, tupleD_t, tupleD_c, listD_l, listD_t,
 ixD_l, ixD_r, ixD_t, ixD_s, ixD_c, slD_s, slD_l, slD_r, putIx_c, appendD_c, extendD_cl, isTy_c, isTy_s, isTy_l, iaddD, atI_0, atI_1, atI_2, atI_3, atI_4, low_int, low_str, low_bl, low_non, anyI_l, anyI_r, anyI_t, anyI_s, rng1I_i, rng2I_ii, ixN5, set_concat, get_concat, take_concat, len_concat, notInD_cs, inD_cs, sindexD_s, intD_s, tyN_s, tyN_i, tyN_b, tyN_n, tyN_t, tyN_l, tyIs_t, zipI_tt,
 startD, List.map_cons, List.map_nil, List.length_cons, List.length_nil, List.cons_append, List.nil_append, List.getElem?_cons_zero, List.getElem?_cons_succ, List.set_cons_zero, List.set_cons_succ, List.replicate_succ, List.replicate_zero, Option.bind_some, if_true, if_false, Bool.true_and, Bool.false_and, Bool.and_true, Bool.not_true, Bool.not_false, decide_true, decide_false, eq_self, Nat.zero_add, Nat.reduceAdd, Nat.reduceSub, reduceIte, reduceCtorEq, Int.reduceEq, Bool.false_eq_true, true_and, and_true, true_or, or_true, decide_eq_true_eq, hc, List.map_map]
    rw [if_pos (sizeLine_big (by decide))]
    rfl
  · obtain ⟨c, _, rfl⟩ := List.mem_map.mp hy
    split <;> omega

/-! ### numbers -/
/-- the text of digits -/
def numS (ds : List Nat) : Str := ⟨(ds.map fun d => 48 + d).toArray⟩
structure IsNum (ds : List Nat) : Prop where
  dig : ∀ d ∈ ds, 1 ≤ d ∧ d ≤ 9
  pos : 1 ≤ ds.length
  few : ds.length ≤ 4
  sum : ds.sum ≤ 24
theorem numS_len (ds : List Nat) : (numS ds).length = ds.length := by simp [numS, Str.length]
theorem str_ext {a b : Str} (h : a.cps.toList = b.cps.toList) : a = b := Str.ext' (Array.toList_inj.mp h)
theorem numS_list (ds : List Nat) : (numS ds).cps.toList = ds.map fun d => 48 + d := by simp [numS]
theorem numS_snoc (ds : List Nat) (d : Nat) : numS ds ++ (⟨#[48 + d]⟩ : Str) = numS (ds ++ [d]) := by
  apply TL.ext_tl
  rw [TL.tl_append]
  simp [TL.tl, numS]
theorem numS_inj {a b : List Nat} (h : numS a = numS b) : a = b := by
  have := congrArg (fun z : Str => z.cps.toList) h
  simp only [numS_list] at this
  induction a generalizing b with
  | nil => cases b with | nil => rfl | cons _ _ => simp at this
  | cons x a ih =>
    cases b with
    | nil => simp at this
    | cons y b =>
      simp at this
      obtain ⟨h1, h2⟩ := this
      have hh : a.map (fun d => 48 + d) = b.map (fun d => 48 + d) := by simpa using h2
      rw [show x = y by omega, ih (b := b) (by unfold numS; rw [hh]) hh]
theorem str_digit {d : Int} (h1 : 1 ≤ d) (h2 : d ≤ 9) : ((toString d : String) : Str) = (⟨#[48 + d.toNat]⟩ : Str) := by
  have : d = 1 ∨ d = 2 ∨ d = 3 ∨ d = 4 ∨ d = 5 ∨ d = 6 ∨ d = 7 ∨ d = 8 ∨ d = 9 := by omega
  rcases this with rfl | rfl | rfl | rfl | rfl | rfl | rfl | rfl | rfl <;> decide +kernel
theorem tops {way : Int} (h0 : 0 ≤ way) (h1 : way < 6) : ∃ t : Int, atI [D.int 3, D.int 3, D.int 3, D.int 3, D.int 9, D.int 9] way = some (.int t) ∧ 3 ≤ t ∧ t ≤ 9 := by
  have : way = 0 ∨ way = 1 ∨ way = 2 ∨ way = 3 ∨ way = 4 ∨ way = 5 := by omega
  rcases this with rfl | rfl | rfl | rfl | rfl | rfl
  · exact ⟨3, rfl, by decide, by decide⟩
  · exact ⟨3, rfl, by decide, by decide⟩
  · exact ⟨3, rfl, by decide, by decide⟩
  · exact ⟨3, rfl, by decide, by decide⟩
  · exact ⟨9, rfl, by decide, by decide⟩
  · exact ⟨9, rfl, by decide, by decide⟩
theorem log2_small {i : Int} (h0 : 0 ≤ i) (h : i < 1000) : i.natAbs.log2 < 1920 := by
  by_cases hz : i.natAbs = 0
  · rw [hz]; decide
  · rw [Nat.log2_lt hz]
    exact Nat.lt_of_lt_of_le (show i.natAbs < 2 ^ 10 by omega) (Nat.pow_le_pow_right (by decide) (by decide))
theorem lt1000 {i : Int} (h : i < 2 ^ 64) : i < 2 ^ 1000 := Int.lt_of_lt_of_le h (by decide)
theorem number_ok {m : Nat} {b : List D} {T : Sto} (hb : BagOk m b) (hm : m < 2 ^ 59) :
    ∃ ds b', F__law_number [.cell 0] (.lst b :: T) = .ok (.str (numS ds)) (.lst b' :: T) ∧ IsNum ds ∧ BagOk (m + 6) b' := by
  unfold F__law_number fnF g__law_number
  obtain ⟨q, b1, e1, q0, q1, hb1⟩ := draw_ok (T := T) (lim := 4) hb (by decide) (by decide) (by omega)
  obtain ⟨way, b2, e2, w0, w1, hb2⟩ := draw_ok (T := T) (lim := 6) hb1 (by decide) (by decide) (by omega)
  obtain ⟨top, et, t0, t1⟩ := tops w0 w1
  have hmany : (1 + q).toNat ≤ 4 := by omega
  have hr : -(2 ^ 62) ≤ 1 + q ∧ 1 + q < 2 ^ 62 := by constructor <;> omega
  have s6 : NLe 6 sizeLine := sizeLine_big (by decide)
  -- the loop
  have loop := forL_inv (g := nmG 6) (body := (seqS (setS 7 (binF addD (cE (.int 1)) (callF 2 F__law_draw (consF (varE 0) (consF (appF min2D (consF (varE 3) (consF (binF subD (varE 5) (binF subD (binF subD (varE 1) (cE (.int 1))) (varE 6))) nilF))) nilF)))))
  (seqS (ifS (andB (tstF (binF eqD (varE 2) (cE (.int 5)))) (tstF (binF eqD (varE 6) (binF subD (varE 1) (cE (.int 1)))))) (setS 7 (appF min2D (consF (cE (.int 9)) (consF (varE 5) nilF)))) nxS)
  (seqS (setS 4 (binF addD (varE 4) (appF strD (consF (varE 7) nilF))))
  (setS 5 (binF subD (varE 5) (varE 7))))))) (ds := (List.range (1 + q).toNat).map fun k => D.int (0 + (k : Nat)))
    (fun i ρ S => ∃ (ds : List Nat) (b' : List D) (u v : Option D), ρ = [some (.cell 0), some (.int (1 + q)), some (.int way), some (.int top), some (.str (numS ds)), some (.int (24 - (ds.sum : Nat))), u, v] ∧
      S = .lst b' :: T ∧ BagOk (m + 2 + i) b' ∧ ds.length = i ∧ (∀ d ∈ ds, 1 ≤ d ∧ d ≤ 9) ∧ (ds.sum : Int) + (1 + q - i) ≤ 24)
    (fun i d ρ S hd hP => by
      obtain ⟨ds, b', u, v, rfl, rfl, hb', hlen, hdig, hsum⟩ := hP
      have hi : i < (1 + q).toNat := by
        have := (List.getElem?_eq_some_iff.mp hd).1
        simpa using this
      rw [List.getElem?_map, List.getElem?_range hi] at hd
      cases hd
      have hlim : ∃ lim : Int, (if 24 - (ds.sum : Int) - (1 + q - 1 - (0 + (i : Nat))) < top then 24 - (ds.sum : Int) - (1 + q - 1 - (0 + (i : Nat))) else top) = lim ∧ 0 < lim ∧ lim ≤ 9 ∧ lim ≤ 24 - (ds.sum : Int) - (1 + q - 1 - (i : Nat)) := by
        refine ⟨_, rfl, ?_, ?_, ?_⟩ <;> split <;> omega
      obtain ⟨lim, el, l0, l9, ll⟩ := hlim
      obtain ⟨dd, b3, e3, d0, d1, hb3⟩ := draw_ok (T := T) (lim := lim) hb' l0 (lt1000 (by omega)) (by omega)
      have key : ∀ z : Int, 1 ≤ z → z ≤ 9 → (ds.sum : Int) + z + (1 + q - (i + 1 : Nat)) ≤ 24 → ∃ ρ2 S2, (seqS (setS 4 (binF addD (varE 4) (appF strD (consF (varE 7) nilF))))
          (setS 5 (binF subD (varE 5) (varE 7)))) [some (.cell 0), some (.int (1 + q)), some (.int way), some (.int top), some (.str (numS ds)), some (.int (24 - (ds.sum : Nat))), some (.int (0 + (i : Nat))), some (.int z)] (.lst b3 :: T) = .nx ρ2 S2 ∧
          ∃ (ds : List Nat) (b' : List D) (u v : Option D), ρ2 = [some (.cell 0), some (.int (1 + q)), some (.int way), some (.int top), some (.str (numS ds)), some (.int (24 - (ds.sum : Nat))), u, v] ∧
      S2 = .lst b' :: T ∧ BagOk (m + 2 + (i + 1)) b' ∧ ds.length = i + 1 ∧ (∀ d ∈ ds, 1 ≤ d ∧ d ≤ 9) ∧ (ds.sum : Int) + (1 + q - (i + 1 : Nat)) ≤ 24 := by
        intro z z1 z9 hz
        have hs := str_digit z1 z9
        have hl2 : NLe (z.natAbs.log2 + 1) 1920 := log2_small (by omega) (by omega)
        have hsz : NLe ((numS ds).length + (⟨#[48 + z.toNat]⟩ : Str).length) sizeLine := sizeLine_big (by rw [numS_len, hlen]; simp [Str.length]; omega)
        have hsub : 24 - (ds.sum : Int) - z = 24 - ((ds ++ [z.toNat]).sum : Nat) := by simp; omega
        refine ⟨_, _, by simp only [Bd, seqS, setS, retS, retN, dropS, ifS, forS, putS, augS, nxS, bkS, ctS, SR.seq_nx, SR.seq_rt, SR.seq_exc, SR.seq_bk, SR.seq_ct, SR.turn_nx, SR.turn_ct, SR.turn_bk, SR.turn_rt, SR.turn_exc, R.bind_ok, R.bind_bad, R.bind_exc, R.bindN_ok, R.st_ok, R.st_exc,
 varE, cE, binF, tstF, chnF, andB, orB, notB, andV, orV, notV, ifE, nilF, consF, tupF, lstF, ownF, negF, noO, someO, slF, callF, appF, isiF, mthF, itF, itA, nmG, nilG, consG, tupG, yesB, wipeD,
 addD_ii, addD_ss, addD_ll, subD_ii, mulD_ii, mulD_li, mulD_si, fdivD_ii, modD_ii, powD_10_18, ltD_ii, leD_ii, gtD_ii, geD_ii, gtD_ss, ltD_ss, eqD_ii, eqD_ss, eqD_bb, neD_ii, neD_ss, isBD_bb, isND_non, isND_int, isND_str, notND_non, notND_int, notND_str, lenD_s, lenD_l, lenD_r, lenD_t, lenD_c, min2D_ii, max2D_ii, intD_i, intD_b, strD_i, sumD_l, sumD_c, sumD_t, maxD_c, tupleD_l, tupleD_t, tupleD_c, listD_l, listD_t,
 ixD_l, ixD_r, ixD_t, ixD_s, ixD_c, slD_s, slD_l, slD_r, putIx_c, appendD_c, extendD_cl, isTy_c, isTy_s, isTy_l, iaddD, atI_0, atI_1, atI_2, atI_3, atI_4, low_int, low_str, low_bl, low_non, anyI_l, anyI_r, anyI_t, anyI_s, rng1I_i, rng2I_ii, ixN5, set_concat, get_concat, take_concat, len_concat, notInD_cs, inD_cs, sindexD_s, intD_s, tyN_s, tyN_i, tyN_b, tyN_n, tyN_t, tyN_l, tyIs_t, zipI_tt,
 startD, List.map_cons, List.map_nil, List.length_cons, List.length_nil, List.cons_append, List.nil_append, List.getElem?_cons_zero, List.getElem?_cons_succ, List.set_cons_zero, List.set_cons_succ, List.replicate_succ, List.replicate_zero, Option.bind_some, if_true, if_false, Bool.true_and, Bool.false_and, Bool.and_true, Bool.not_true, Bool.not_false, decide_true, decide_false, eq_self, Nat.zero_add, Nat.reduceAdd, Nat.reduceSub, reduceIte, reduceCtorEq, Int.reduceEq, Bool.false_eq_true, true_and, and_true, true_or, or_true, decide_eq_true_eq, hl2, hs, hsz, numS_snoc, hsub]; rfl, ds ++ [z.toNat], b3, _, _, rfl, rfl, by rw [show m + 2 + (i + 1) = m + 2 + i + 1 by omega]; exact hb3, by simp [hlen], fun d hd => ?_, by simp; omega⟩
        rcases List.mem_append.mp hd with h | h
        · exact hdig d h
        · have : d = z.toNat := by simpa using h
          subst this; omega
      by_cases hw : way = 5 ∧ (0 + (i : Nat) : Int) = 1 + q - 1
      · obtain ⟨hw1, hw2⟩ := hw
        have hmin : (if 24 - (ds.sum : Int) < 9 then 24 - (ds.sum : Int) else 9) = min 9 (24 - (ds.sum : Int)) := by rw [Int.min_def]; split <;> split <;> omega
        obtain ⟨ρ2, S2, e4, P⟩ := key (if 24 - (ds.sum : Int) < 9 then 24 - (ds.sum : Int) else 9) (by split <;> omega) (by split <;> omega) (by split <;> omega)
        refine ⟨_, ρ2, S2, rfl, .inl ?_, P⟩
        rw [← e4]
        simp only [Bd, seqS, setS, retS, retN, dropS, ifS, forS, putS, augS, nxS, bkS, ctS, SR.seq_nx, SR.seq_rt, SR.seq_exc, SR.seq_bk, SR.seq_ct, SR.turn_nx, SR.turn_ct, SR.turn_bk, SR.turn_rt, SR.turn_exc, R.bind_ok, R.bind_bad, R.bind_exc, R.bindN_ok, R.st_ok, R.st_exc,
 varE, cE, binF, tstF, chnF, andB, orB, notB, andV, orV, notV, ifE, nilF, consF, tupF, lstF, ownF, negF, noO, someO, slF, callF, appF, isiF, mthF, itF, itA, nmG, nilG, consG, tupG, yesB, wipeD,
 addD_ii, addD_ss, addD_ll, subD_ii, mulD_ii, mulD_li, mulD_si, fdivD_ii, modD_ii, powD_10_18, ltD_ii, leD_ii, gtD_ii, geD_ii, gtD_ss, ltD_ss, eqD_ii, eqD_ss, eqD_bb, neD_ii, neD_ss, isBD_bb, isND_non, isND_int, isND_str, notND_non, notND_int, notND_str, lenD_s, lenD_l, lenD_r, lenD_t, lenD_c, min2D_ii, max2D_ii, intD_i, intD_b, strD_i, sumD_l, sumD_c, sumD_t, maxD_c, tupleD_l, tupleD_t, tupleD_c, listD_l, listD_t,
 ixD_l, ixD_r, ixD_t, ixD_s, ixD_c, slD_s, slD_l, slD_r, putIx_c, appendD_c, extendD_cl, isTy_c, isTy_s, isTy_l, iaddD, atI_0, atI_1, atI_2, atI_3, atI_4, low_int, low_str, low_bl, low_non, anyI_l, anyI_r, anyI_t, anyI_s, rng1I_i, rng2I_ii, ixN5, set_concat, get_concat, take_concat, len_concat, notInD_cs, inD_cs, sindexD_s, intD_s, tyN_s, tyN_i, tyN_b, tyN_n, tyN_t, tyN_l, tyIs_t, zipI_tt,
 startD, List.map_cons, List.map_nil, List.length_cons, List.length_nil, List.cons_append, List.nil_append, List.getElem?_cons_zero, List.getElem?_cons_succ, List.set_cons_zero, List.set_cons_succ, List.replicate_succ, List.replicate_zero, Option.bind_some, if_true, if_false, Bool.true_and, Bool.false_and, Bool.and_true, Bool.not_true, Bool.not_false, decide_true, decide_false, eq_self, Nat.zero_add, Nat.reduceAdd, Nat.reduceSub, reduceIte, reduceCtorEq, Int.reduceEq, Bool.false_eq_true, true_and, and_true, true_or, or_true, decide_eq_true_eq, el, e3, eq_true hw1, eq_true hw2]
      · obtain ⟨ρ2, S2, e4, P⟩ := key (1 + dd) (by omega) (by omega) (by omega)
        refine ⟨_, ρ2, S2, rfl, .inl ?_, P⟩
        rw [← e4]
        by_cases hw1 : way = 5
        · have hw2 : ¬ (0 + (i : Nat) : Int) = 1 + q - 1 := fun z => hw ⟨hw1, z⟩
          simp only [Bd, seqS, setS, retS, retN, dropS, ifS, forS, putS, augS, nxS, bkS, ctS, SR.seq_nx, SR.seq_rt, SR.seq_exc, SR.seq_bk, SR.seq_ct, SR.turn_nx, SR.turn_ct, SR.turn_bk, SR.turn_rt, SR.turn_exc, R.bind_ok, R.bind_bad, R.bind_exc, R.bindN_ok, R.st_ok, R.st_exc,
 varE, cE, binF, tstF, chnF, andB, orB, notB, andV, orV, notV, ifE, nilF, consF, tupF, lstF, ownF, negF, noO, someO, slF, callF, appF, isiF, mthF, itF, itA, nmG, nilG, consG, tupG, yesB, wipeD,
 addD_ii, addD_ss, addD_ll, subD_ii, mulD_ii, mulD_li, mulD_si, fdivD_ii, modD_ii, powD_10_18, ltD_ii, leD_ii, gtD_ii, geD_ii, gtD_ss, ltD_ss, eqD_ii, eqD_ss, eqD_bb, neD_ii, neD_ss, isBD_bb, isND_non, isND_int, isND_str, notND_non, notND_int, notND_str, lenD_s, lenD_l, lenD_r, lenD_t, lenD_c, min2D_ii, max2D_ii, intD_i, intD_b, strD_i, sumD_l, sumD_c, sumD_t, maxD_c, tupleD_l, tupleD_t, tupleD_c, listD_l, listD_t,
 ixD_l, ixD_r, ixD_t, ixD_s, ixD_c, slD_s, slD_l, slD_r, putIx_c, appendD_c, extendD_cl, isTy_c, isTy_s, isTy_l, iaddD, atI_0, atI_1, atI_2, atI_3, atI_4, low_int, low_str, low_bl, low_non, anyI_l, anyI_r, anyI_t, anyI_s, rng1I_i, rng2I_ii, ixN5, set_concat, get_concat, take_concat, len_concat, notInD_cs, inD_cs, sindexD_s, intD_s, tyN_s, tyN_i, tyN_b, tyN_n, tyN_t, tyN_l, tyIs_t, zipI_tt,
 startD, List.map_cons, List.map_nil, List.length_cons, List.length_nil, List.cons_append, List.nil_append, List.getElem?_cons_zero, List.getElem?_cons_succ, List.set_cons_zero, List.set_cons_succ, List.replicate_succ, List.replicate_zero, Option.bind_some, if_true, if_false, Bool.true_and, Bool.false_and, Bool.and_true, Bool.not_true, Bool.not_false, decide_true, decide_false, eq_self, Nat.zero_add, Nat.reduceAdd, Nat.reduceSub, reduceIte, reduceCtorEq, Int.reduceEq, Bool.false_eq_true, true_and, and_true, true_or, or_true, decide_eq_true_eq, el, e3, eq_true hw1, hw2]
        · simp only [Bd, seqS, setS, retS, retN, dropS, ifS, forS, putS, augS, nxS, bkS, ctS, SR.seq_nx, SR.seq_rt, SR.seq_exc, SR.seq_bk, SR.seq_ct, SR.turn_nx, SR.turn_ct, SR.turn_bk, SR.turn_rt, SR.turn_exc, R.bind_ok, R.bind_bad, R.bind_exc, R.bindN_ok, R.st_ok, R.st_exc,
 varE, cE, binF, tstF, chnF, andB, orB, notB, andV, orV, notV, ifE, nilF, consF, tupF, lstF, ownF, negF, noO, someO, slF, callF, appF, isiF, mthF, itF, itA, nmG, nilG, consG, tupG, yesB, wipeD,
 addD_ii, addD_ss, addD_ll, subD_ii, mulD_ii, mulD_li, mulD_si, fdivD_ii, modD_ii, powD_10_18, ltD_ii, leD_ii, gtD_ii, geD_ii, gtD_ss, ltD_ss, eqD_ii, eqD_ss, eqD_bb, neD_ii, neD_ss, isBD_bb, isND_non, isND_int, isND_str, notND_non, notND_int, notND_str, lenD_s, lenD_l, lenD_r, lenD_t, lenD_c, min2D_ii, max2D_ii, intD_i, intD_b, strD_i, sumD_l, sumD_c, sumD_t, maxD_c, tupleD_l, tupleD_t, tupleD_c, listD_l, listD_t,
 ixD_l, ixD_r, ixD_t, ixD_s, ixD_c, slD_s, slD_l, slD_r, putIx_c, appendD_c, extendD_cl, isTy_c, isTy_s, isTy_l, iaddD, atI_0, atI_1, atI_2, atI_3, atI_4, low_int, low_str, low_bl, low_non, anyI_l, anyI_r, anyI_t, anyI_s, rng1I_i, rng2I_ii, ixN5, set_concat, get_concat, take_concat, len_concat, notInD_cs, inD_cs, sindexD_s, intD_s, tyN_s, tyN_i, tyN_b, tyN_n, tyN_t, tyN_l, tyIs_t, zipI_tt,
 startD, List.map_cons, List.map_nil, List.length_cons, List.length_nil, List.cons_append, List.nil_append, List.getElem?_cons_zero, List.getElem?_cons_succ, List.set_cons_zero, List.set_cons_succ, List.replicate_succ, List.replicate_zero, Option.bind_some, if_true, if_false, Bool.true_and, Bool.false_and, Bool.and_true, Bool.not_true, Bool.not_false, decide_true, decide_false, eq_self, Nat.zero_add, Nat.reduceAdd, Nat.reduceSub, reduceIte, reduceCtorEq, Int.reduceEq, Bool.false_eq_true, true_and, and_true, true_or, or_true, decide_eq_true_eq, el, e3, hw1])
    [some (.cell 0), some (.int (1 + q)), some (.int way), some (.int top), some (.str ""), some (.int 24), none, none] (.lst b2 :: T)
    ⟨[], b2, none, none, rfl, rfl, hb2, rfl, fun _ h => (by cases h), by simp; omega⟩
  obtain ⟨ρ2, S2, e5, ds, b', u, v, rfl, rfl, hb', hlen, hdig, hsum⟩ := loop
  have hlen' : ds.length = (1 + q).toNat := by simpa using hlen
  refine ⟨ds, b', ?_, ⟨hdig, by omega, by omega, by omega⟩, hb'.mono (by simp; omega)⟩
  simp only [Bd, seqS, setS, retS, retN, dropS, ifS, forS, putS, augS, nxS, bkS, ctS, SR.seq_nx, SR.seq_rt, SR.seq_exc, SR.seq_bk, SR.seq_ct, SR.turn_nx, SR.turn_ct, SR.turn_bk, SR.turn_rt, SR.turn_exc, R.bind_ok, R.bind_bad, R.bind_exc, R.bindN_ok, R.st_ok, R.st_exc,
 varE, cE, binF, tstF, chnF, andB, orB, notB, andV, orV, notV, ifE, nilF, consF, tupF, lstF, ownF, negF, noO, someO, slF, callF, appF, isiF, mthF, itF, itA, nmG, nilG, consG, tupG, yesB, wipeD,
 addD_ii, addD_ss, addD_ll, subD_ii, mulD_ii, mulD_li, mulD_si, fdivD_ii, modD_ii, powD_10_18, ltD_ii, leD_ii, gtD_ii, geD_ii, gtD_ss, ltD_ss, eqD_ii, eqD_ss, eqD_bb, neD_ii, neD_ss, isBD_bb, isND_non, isND_int, isND_str, notND_non, notND_int, notND_str, lenD_s, lenD_l, lenD_r, lenD_t, lenD_c, min2D_ii, max2D_ii, intD_i, intD_b, strD_i, sumD_l, sumD_c, sumD_t, maxD_c, tupleD_l, tupleD_t, tupleD_c, listD_l, listD_t,
 ixD_l, ixD_r, ixD_t, ixD_s, ixD_c, slD_s, slD_l, slD_r, putIx_c, appendD_c, extendD_cl, isTy_c, isTy_s, isTy_l, iaddD, atI_0, atI_1, atI_2, atI_3, atI_4, low_int, low_str, low_bl, low_non, anyI_l, anyI_r, anyI_t, anyI_s, rng1I_i, rng2I_ii, ixN5, set_concat, get_concat, take_concat, len_concat, notInD_cs, inD_cs, sindexD_s, intD_s, tyN_s, tyN_i, tyN_b, tyN_n, tyN_t, tyN_l, tyIs_t, zipI_tt,
 startD, List.map_cons, List.map_nil, List.length_cons, List.length_nil, List.cons_append, List.nil_append, List.getElem?_cons_zero, List.getElem?_cons_succ, List.set_cons_zero, List.set_cons_succ, List.replicate_succ, List.replicate_zero, Option.bind_some, if_true, if_false, Bool.true_and, Bool.false_and, Bool.and_true, Bool.not_true, Bool.not_false, decide_true, decide_false, eq_self, Nat.zero_add, Nat.reduceAdd, Nat.reduceSub, reduceIte, reduceCtorEq, Int.reduceEq, Bool.false_eq_true, true_and, and_true, true_or, or_true, decide_eq_true_eq, e1, e2, et, s6, hr, e5, leave_rt, fz_str, take_cons]
end Zd

set_option Elab.async false
set_option linter.all false
set_option maxRecDepth 100000
set_option maxHeartbeats 4000000
set_option autoImplicit false
/-! Zd: functions that ask repr of data: promises that hold where no repr is under way. -/
namespace Zd
open PySem PySem.Spec L2
open PyProof.Rows hiding St

/-- FnOk, asked only where no guard is up -/
structure FnG (P : Program) (w : World) (K : PySem.W.Frag) (mg : Str → Option Value) (base : Heap) (k : Nat) (f : Addr) (fd : FuncData) (ps : List Str) (sp : Sp) : Prop where
  len : ∀ vs H Q E, sp vs H Q E → vs.length = ps.length
  go : ∀ (A : Around) (outer : List Env) (s : Shared) (H : Hp) (args : Args) (us : List Value) (vs : List V) (Q : VK) (E : XK), Room k A → A.guards = some [] → Env0 P w K mg base A outer s H → BindsTo s fd args (ps.zip us) → Vals vs us → sp vs H Q E →
    codeAny (model P w) A (.call (.ref f) args) (CR (L2.CX P w) outer P w H s Q E) s
section
variable {P : Program} {w : World} {K : PySem.W.Frag} {mg : Str → Option Value} {base : Heap}
theorem FnG.of {k : Nat} {f : Addr} {fd : FuncData} {ps : List Str} {sp : Sp} (F : FnOk P w K mg base (L2.CX P w) k f fd ps sp) : FnG P w K mg base k f fd ps sp :=
  ⟨F.len, fun A outer s H args us vs Q E hr _ he hb hv hs => F.run A outer s H args us vs Q E hr he hb hv hs⟩
theorem FnG.weak {k : Nat} {f : Addr} {fd : FuncData} {ps : List Str} {sp sp' : Sp} (F : FnG P w K mg base k f fd ps sp) (h : ∀ vs H Q E, sp' vs H Q E → sp vs H Q E) : FnG P w K mg base k f fd ps sp' :=
  ⟨fun vs H Q E q => F.len vs H Q E (h vs H Q E q), fun A outer s H args us vs Q E hr hg he hb hv hs => F.go A outer s H args us vs Q E hr hg he hb hv (h vs H Q E hs)⟩
/-- a def entered, its body derived where no guard is up -/
theorem fnG_mk {x qual : Str} {st : Stmt} {f : Addr} {fd : FuncData} {N ps : List Str} {k : Nat} {sp : Sp} (F : Fun K x qual st f fd) (S : FnScope N ps (defScope st)) (len : ∀ vs H Q E, sp vs H Q E → vs.length = ps.length)
    (body : ∀ (cdv : Value) (A : Around) (outer : List Env) (s : Shared) (H : Hp) (vs : List V) (Q : VK) (E : XK), Room k (A.deeper (envOfC qual (defScope st) s.heap.objs.size f cdv)) → A.guards = some [] → sp vs H Q E →
      ∃ t, PSs (cxOf (L2.CX P w) P w K mg base N qual (defScope st) f cdv A outer s H E) (defBody st) t ∧ t { nx := fun _ H' => Q .non H', rt := Q } (start N vs) H) : FnG P w K mg base (k + 1) f fd ps sp := by
  obtain ⟨oc, od, kV, doc, pm, an, cdv, ct, osl, rfl, lk, hcd⟩ := F.ex
  constructor
  · exact len
  intro A outer s H args us vs Q E room guard env bind vals prom
  have inK : K.In s.heap := env.mod.kin.keeps fun a u h => And.left (env.bs a u h)
  have noL : s.heap.NoLimit := env.mod.nolimit.keeps fun a u h => And.left (env.bs a u h)
  have many := len vs H Q E prom
  have kinds : ∀ q ∈ ps.zip us, (defScope st).names.lookup q.1 = some .local ∨ ((defScope st).names.lookup q.1 = some .cell ∧ ((cellsFrom (s.heap.objs.size + 1) (defScope st).names []).lookup q.1).isSome = true) := by
    intro q hq
    have mem : q.1 ∈ ps := (List.of_mem_zip (show (q.1, q.2) ∈ ps.zip us from hq)).1
    exact (S.par q.1 mem).imp id fun c => ⟨c, PySem.W.cellsFrom_some _ _ _ (Or.inl c)⟩
  have codeR := PySem.W.codeRec_of inK hcd
  refine codeAny_call_function room.depth (inK _ _ lk) rfl S.co S.gen rfl codeR (bind (model P w) _ _ _ ?_)
  refine wpAny_newFunctionEnv_cells S.kind kinds ?_
  intro env' he s1 fresh
  subst he
  refine And.intro (noL.keeps fresh.toInCall.keep) (codeAny_func ?_)
  obtain ⟨t, ht, hq⟩ := body cdv A outer s H vs Q E (room.deeper _) guard prom
  have inv := inv_start (CX := L2.CX P w) (E := E) (cd := cdv) S room.hd env many vals fresh
  refine wpAny_mono (ht.run [] s1 (start N vs) H _ inv hq) ?_ (fun _ _ z => z)
  have done : ∀ {σ' : St} {H' : Hp} {v : V} {u : Value} {s' : Shared}, Inv (cxOf (L2.CX P w) P w K mg base N qual (defScope st) f cdv A outer s H E) [] σ' H' s' → RelV v u → Q v H' → CE outer P w H s Q u s' := by
    intro σ' H' v u s' J rv q
    exact ⟨v, H', J.os, J.bare, J.base, J.hok, rv, q⟩
  intro fl s' ends
  cases fl with
  | next =>
    obtain ⟨σ', H', J, q⟩ := ends
    exact done (u := Value.none) (v := V.non) J rfl q
  | ret u =>
    obtain ⟨v, σ', H', J, rv, q⟩ := ends
    exact done J rv q
  | brk => obtain ⟨_, _, _, no⟩ := ends; exact no.elim
  | cont => obtain ⟨_, _, _, no⟩ := ends; exact no.elim
/-- KD, where no guard is up -/
structure KG (P : Program) (w : World) (K : PySem.W.Frag) (mg : Str → Option Value) (base : Heap) (x : Str) (n : Nat) (Ff : DFun) (k : Nat) : Prop where
  ex : ∃ (f : Addr) (fd : FuncData) (ps : List Str), FnG P w K mg base k f fd ps (spD ⟨K, mg, none⟩ Ff n) ∧ mg x = some (.ref f) ∧ PySem.W.keepIn K (.ref f) = true ∧ Binds K fd ps []
theorem fn_okG {x qual : Str} {st : Stmt} {f : Addr} {fd : FuncData} {N ps : List Str} {k : Nat} {g : SF} {Ff : DFun} (F : Fun K x qual st f fd) (S : FnScope N ps (defScope st)) (hF : Ff = fnF N.length g ∨ Ff = fnK N.length g)
    (body : ∀ (cdv : Value) (A : Around) (outer : List Env) (s : Shared) (H : Hp) (E : XK), Room k (A.deeper (envOfC qual (defScope st) s.heap.objs.size f cdv)) →
      Takes (cxOf (L2.CX P w) P w K mg base N qual (defScope st) f cdv A outer s H E) (fun c d _ H => E c d H) →
      PassesOwn (model P w) (A.deeper (envOfC qual (defScope st) s.heap.objs.size f cdv)) (envOfC qual (defScope st) s.heap.objs.size f cdv) (cxOf (L2.CX P w) P w K mg base N qual (defScope st) f cdv A outer s H E).xe →
      (cxOf (L2.CX P w) P w K mg base N qual (defScope st) f cdv A outer s H E).A.guards = some [] →
      DSs (cxOf (L2.CX P w) P w K mg base N qual (defScope st) f cdv A outer s H E) (yE E) (defBody st) g) : FnG P w K mg base (k + 1) f fd ps (spD ⟨K, mg, none⟩ Ff ps.length) := by
  refine fnG_mk F S (fun vs H Q E h => h.1) (fun cdv A outer s H vs Q E hr hg h => ⟨_, body cdv A outer s H E hr (takes_of rfl rfl rfl rfl) (passes_of rfl) hg, ?_⟩)
  obtain ⟨_, ms, Sto, ds, r, st, p⟩ := h
  refine ⟨ms, Sto, startD N.length ds, Ev.start N r, st, ?_⟩
  rcases hF with e | e
  · subst e; exact leave_of st p
  · subst e; exact keep_of p
theorem kg_mk {x qual : Str} {st : Stmt} {f : Addr} {fd : FuncData} {N ps : List Str} {k : Nat} {g : SF} {Ff : DFun} (F : Fun K x qual st f fd) (S : FnScope N ps (defScope st)) (hF : Ff = fnF N.length g ∨ Ff = fnK N.length g)
    (hm : mg x = some (.ref f)) (hb : Binds K fd ps [])
    (body : ∀ (cdv : Value) (A : Around) (outer : List Env) (s : Shared) (H : Hp) (E : XK), Room k (A.deeper (envOfC qual (defScope st) s.heap.objs.size f cdv)) →
      Takes (cxOf (L2.CX P w) P w K mg base N qual (defScope st) f cdv A outer s H E) (fun c d _ H => E c d H) →
      PassesOwn (model P w) (A.deeper (envOfC qual (defScope st) s.heap.objs.size f cdv)) (envOfC qual (defScope st) s.heap.objs.size f cdv) (cxOf (L2.CX P w) P w K mg base N qual (defScope st) f cdv A outer s H E).xe →
      (cxOf (L2.CX P w) P w K mg base N qual (defScope st) f cdv A outer s H E).A.guards = some [] →
      DSs (cxOf (L2.CX P w) P w K mg base N qual (defScope st) f cdv A outer s H E) (yE E) (defBody st) g) : KG P w K mg base x ps.length Ff (k + 1) :=
  ⟨f, fd, ps, fn_okG F S hF body, hm, F.kp, hb⟩
end

section
variable {X : Cx} {wx : WX}
/-- f(e, ..), f asks repr -/
theorem d_callG {x : Str} {n k : Nat} {Ff : DFun} {e : Expr} {es : List Expr} {fs : F (List D)} {p pos : Pos} (h : KG X.prog X.w X.K X.mg X.base x n Ff k) (hr : Room k X.A) (gd : X.A.guards = some []) (tk : Takes X wx) (hg : Gl X x) (ha : DA X ⟨none, wx⟩ (e :: es) fs)
    (hdb : (x == ("__debug__" : Str)) = false := by decide) (he : starEach (e :: es) X.env = (false, eval e X.env) :: starEach es X.env := by rfl) (hpl : (backTo pos (starEach es X.env)).any (·.1) = false := by rfl) :
    DE X ⟨none, wx⟩ (.Call (.Name x p) (e :: es) [] pos) (callF n Ff fs) := by
  obtain ⟨f, fd, ps, F, hm, hk, hb⟩ := h.ex
  have rule : PE X (.Call (.Name x p) (e :: es) [] pos) (tCallS (spD ⟨X.K, X.mg, none⟩ Ff n) (WE wx) (tX (wd X ⟨none, wx⟩) wx (relL (wd X ⟨none, wx⟩)) fs)) := by
    constructor
    intro pins s σ H Q I q
    refine wpAny_Call_Name_kw (ld_glob I hg hm ?_ hdb)
    refine PySem.W.callWith_K (h₀ := X.base) I.ok.mod.kin hk (thn (ha.run pos pins s σ H _ I q) ?_) he hpl
    rintro us s1 ⟨vs, H1, I1, r, prom⟩
    refine And.intro I1.kIn ?_
    have bind := hb s1 us I1.kIn (by rw [List.append_nil, ← r.length]; exact F.len _ _ _ _ prom)
    rw [List.append_nil] at bind
    refine wpAny_call (codeAny_mono (F.go X.A X.stack s1 H1 ⟨us, []⟩ us vs Q _ hr gd I1.env0 bind r prom) ?_)
    intro out s2 q2
    match out with
    | .error ex => exact passAt tk σ pins H1 s1 ex s2 I1 q2
    | .ok (.ret u) => exact I1.after q2
    | .ok .next => exact q2.elim
    | .ok .brk => exact q2.elim
    | .ok .cont => exact q2.elim
  refine PE.weak rule fun σ H Q h => ?_
  obtain ⟨ms, S, ρ, ev, st, p⟩ := h
  refine ⟨ms, S, ρ, ev, st, Post.split p fun ds S1 vs ms1 H1 _ f1 s1 r1 p1 => ?_⟩
  split at p1
  · rename_i hn
    exact ⟨by rw [r1.length]; exact hn, ms1, S1, ds, r1, s1, p1⟩
  · exact p1.elim
end

/-! ### repr of data -/
mutual
theorem noDict_of : ∀ (S : Sto) (d : D) (p : PyData), toPD S d = some p → p.hasDict = false
  | S, .non, _, h => by cases h; rfl
  | S, .bl _, _, h => by cases h; rfl
  | S, .int _, _, h => by cases h; rfl
  | S, .str _, _, h => by cases h; rfl
  | S, .tup ds, _, h => by
    obtain ⟨ps, e, rfl⟩ := Option.map_eq_some_iff.mp h
    show PyData.hasDict (.tuple ps) = false
    rw [PyData.hasDict]; exact noDicts_of S ds ps e
  | S, .lst ds, _, h => by
    obtain ⟨ps, e, rfl⟩ := Option.map_eq_some_iff.mp h
    show PyData.hasDict (.list ps) = false
    rw [PyData.hasDict]; exact noDicts_of S ds ps e
  | S, .rol ds, _, h => by
    obtain ⟨ps, e, rfl⟩ := Option.map_eq_some_iff.mp h
    show PyData.hasDict (.list ps) = false
    rw [PyData.hasDict]; exact noDicts_of S ds ps e
  | _, .cell _, _, h => by cases h
  | _, .obj _ _ _, _, h => by cases h
  | _, .dic _ _, _, h => by cases h
  | _, .exn _ _ _, _, h => by cases h
  | _, .junk, _, h => by cases h
theorem noDicts_of : ∀ (S : Sto) (ds : List D) (ps : List PyData), toPDs S ds = some ps → PyData.hasDictAll ps = false
  | _, [], _, h => by cases h; rfl
  | S, d :: ds, _, h => by
    obtain ⟨p, e1, h⟩ := Option.bind_eq_some_iff.mp h
    obtain ⟨ps, e2, rfl⟩ := Option.map_eq_some_iff.mp h
    rw [PyData.hasDictAll, noDict_of S d p e1, noDicts_of S ds ps e2]; rfl
end
theorem noDict_toP {S : Sto} {d : D} {p : PyData} (h : toP S d = some p) : p.hasDict = false := by
  unfold toP at h
  split at h
  · split at h
    · obtain ⟨ps, e, rfl⟩ := Option.map_eq_some_iff.mp h
      show PyData.hasDict (.list ps) = false
      rw [PyData.hasDict]; exact noDicts_of S _ ps e
    · cases h
  · exact noDict_of S d p h
/-- what can be shown within the limits -/
structure ReprOk (p : PyData) : Prop where
  sh : p.showable = true
  dp : p.depth ≤ 64
  sz : p.shown.length ≤ sizeLine
open Classical in
noncomputable def reprD (ds : List D) (S : Sto) : R D := match ds with
  | [d] => match toP S d with
    | some p => if ReprOk p then .ok (.str p.shown) S else .bad
    | none => .bad
  | _ => .bad
def rRepr (K : PySem.W.Frag) : List V → Hp → VK → Prop := fun xs H Q => ∃ x p, xs = [x] ∧ Dp K H x p ∧ p.hasDict = false ∧ ReprOk p ∧ Q (.str p.shown) H
section
variable {X : Cx} {Y : Yx}
theorem hu100 {k : Nat} {A : Around} (hr : Room k A) : A.units + 100 < cLine := by have := hr.un; omega
theorem call_reprD (gd : X.A.guards = some []) (hu : X.A.units + 100 < cLine) : CallR X (.builtin "repr") (rRepr X.K) := by
  intro pins s σ H xs us Q I r h
  obtain ⟨x, p, rfl, dp, nd, ok, q⟩ := h
  cases r with
  | cons a b =>
    cases b
    cases dp with
    | non => cases a; exact PySem.P.repr_of_none ⟨.str _, H, I.tok _, ⟨_, rfl⟩, q⟩
    | bl b => cases a; exact PySem.P.repr_of_bool ⟨.str _, H, I.tok _, ⟨_, rfl⟩, q⟩
    | int i =>
      obtain ⟨t, rfl⟩ := a
      have hs : decide (i.natAbs.log2 < 1920) = true := ok.sh
      exact PySem.P.repr_of_int (of_decide_eq_true hs) ⟨.str _, H, I.tok _, ⟨_, rfl⟩, q⟩
    | str z =>
      obtain ⟨t, rfl⟩ := a
      exact PySem.P.repr_of_str ⟨.str _, H, I.tok _, ⟨_, rfl⟩, q⟩ ok.sz
    | lst h1 h2 =>
      cases a
      obtain ⟨as, rd⟩ := Dp.reads I _ _ _ (.lst h1 h2) rfl
      have := ok.dp
      exact repr_of_reads' rd ok.sh (PyData.noDict_hsm nd) gd (by omega) (fun _ _ e => e) (fun h' u tk hk => ⟨.str _, H, I.kept hk, ⟨u, rfl⟩, q⟩) ok.sz
    | tup h1 h2 =>
      cases a
      obtain ⟨as, rd⟩ := Dp.reads I _ _ _ (.tup h1 h2) rfl
      have := ok.dp
      exact repr_of_reads' rd ok.sh (PyData.noDict_hsm nd) gd (by omega) (fun _ _ e => e) (fun h' u tk hk => ⟨.str _, H, I.kept hk, ⟨u, rfl⟩, q⟩) ok.sz
theorem s_repr : CallD (wd X Y) (rRepr X.K) reprD := by
  intro ms S H vs ds Q E st r p
  unfold reprD at p
  split at p
  · rename_i d
    obtain ⟨v, rfl, a⟩ := r.one
    split at p
    · rename_i q hq
      split at p
      · rename_i ok
        exact ⟨v, q, rfl, toP_of st a hq, noDict_toP hq, ok, p.val st (.str _)⟩
      · exact p.elim
    · exact p.elim
  · exact p.elim
end

/-! ### the law is called where no guard is up -/
/-- what one tracks of the heap at the law's call: the script, if it is not one of the module's own -/
structure Given (P : Program) (w : World) (K : PySem.W.Frag) (h : Heap) (a : Addr) (ns : List Int) (H : Hp) : Prop where
  frz : ∀ b u, H b = some u → ∃ (o : Obj) (xs : List V), u = .frz o (.lst xs) ∧ b = a ∧ K.lookup a = none
  seq : SqL K H a (ns.map V.int)
  ok : HOk P w H h
theorem given {P : Program} {w : World} {K : PySem.W.Frag} {h : Heap} {a : Addr} {vs : List Value} {ns : List Int} (KX : K.In h) (ha : h.get? a = some { cls := .type "list", data := .seq vs.toArray }) (hi : IntsAre vs ns) (hl : ns.length ≤ sizeLine) : ∃ H, Given P w K h a ns H := by
  have vals := vals_ints hi
  have same : vs.length = ns.length := hi.length
  cases hk : K.lookup a with
  | some o =>
    have eo := (KX a o hk).symm.trans ha
    cases eo
    refine ⟨fun _ => none, fun b u z => (by cases z), Or.inr ⟨{ cls := .type "list", data := .seq vs.toArray }, vs.toArray, 0, hk, rfl, rfl, rfl, ?_, ?_⟩, fun b u z => (by cases z)⟩
    · simpa [same] using hl
    · simpa using vals
  | none =>
    let o : Obj := { cls := .type "list", data := .seq vs.toArray }
    refine ⟨fun b => if b = a then some (.frz o (.lst (ns.map V.int))) else none, fun b u z => ?_, Or.inl (Or.inr ⟨o, if_pos rfl⟩), fun b u z => ?_⟩
    · by_cases q : b = a
      · exact ⟨o, ns.map V.int, (Option.some.inj ((if_pos q).symm.trans z)).symm, q, hk⟩
      · cases (if_neg q).symm.trans z
    · by_cases q : b = a
      · obtain rfl := Option.some.inj ((if_pos q).symm.trans z)
        subst q
        exact ⟨ha, by simpa using hl, vs, 0, vals, ha⟩
      · cases (if_neg q).symm.trans z
theorem Given.hid {P : Program} {w : World} {K : PySem.W.Frag} {h : Heap} {a : Addr} {ns : List Int} {H : Hp} (G : Given P w K h a ns H) {vs : List Value} (ha : h.get? a = some { cls := .type "list", data := .seq vs.toArray }) {b : Addr} {o : Obj} (e : h.get? b = some o)
    (hd : K.lookup b = some o ∨ ∃ es ep, o.data = .dict es ep) : (hidT h H).get? b = some o := by
  refine hidT_get e ?_
  cases q : H b with
  | none => rfl
  | some u =>
    obtain ⟨_, _, _, rfl, hk⟩ := G.frz b u q
    rcases hd with c | ⟨es, ep, c⟩
    · cases hk.symm.trans c
    · obtain rfl := Option.some.inj (ha.symm.trans e)
      cases c
theorem law_callG {P : Program} {w : World} {K : PySem.W.Frag} {mg mb : Str → Option Value} {k : Nat} {fa a : Addr} {fd : FuncData} {x : Str} {sp : Sp} {s₁ : Shared} {vs : List Value} {ns : List Int}
    (KX : K.In s₁.heap) (hns : s₁.heap.Ns mainGlobals mg) (hb : s₁.heap.Ns builtinsNs mb) (hbb : ∀ x : Str, x ≠ "__name__" → mb x = bootBuiltins x) (hlim : s₁.heap.NoLimit) (hg : s₁.gens = #[])
    (ha : s₁.heap.get? a = some { cls := .type "list", data := .seq vs.toArray }) (hi : IntsAre vs ns) (hl : ns.length ≤ sizeLine) (hr : Room k callerA)
    (F : ∀ base : Heap, K.In base → base.Ns mainGlobals mg → FnG P w K mg base k fa fd [x] sp) (hbind : ∀ (s : Shared) (u : Value), BindsTo s fd ⟨[u], []⟩ [(x, u)])
    (hsp : ∀ H : Hp, SqL K H a (ns.map V.int) → sp [.ref a] H (fun v _ => v = .bl true) fun _ _ _ => False) :
    codeAny (model P w) callerA (.call (.ref fa) ⟨[.ref a], []⟩) (fun r s' => r = .ok (.ret (.bool true)) ∧ OldK s₁.heap s'.heap ∧ s'.os = s₁.os ∧ AllBare s'.gens) s₁ := by
  obtain ⟨H, G⟩ := given (P := P) (w := w) KX ha hi hl
  have names : ∀ {b : Addr} {m : Str → Option Value}, s₁.heap.Ns b m → (hidT s₁.heap H).Ns b m := by
    rintro b m ⟨o, es, ep, e, d, r⟩
    exact ⟨o, es, ep, G.hid ha e (Or.inr ⟨es, ep, d⟩), d, r⟩
  have inK : K.In (hidT s₁.heap H) := fun b o e => G.hid ha (KX b o e) (Or.inl e)
  have module : Mod K mg (hidT s₁.heap H) := by
    obtain ⟨mc, h1, h2⟩ := hlim
    exact ⟨inK, names hns, ⟨mb, names hb, hbb⟩, ⟨mc, names h1, h2⟩⟩
  have none_of : ∀ b ∈ frs ([] : List Env), False := fun b q => by cases q
  have env : Env0 P w K mg (hidT s₁.heap H) callerA [] s₁ H :=
    ⟨rfl, module, fun b o e => of_hidT e, Nat.le_of_eq (hidT_size _ _), trivial, fun b q => (none_of b q).elim, G.ok, .of_eq hg⟩
  have run := (F _ inK (names hns)).go callerA [] s₁ H ⟨[.ref a], []⟩ [.ref a] [.ref a] _ _ hr rfl env (hbind s₁ (.ref a)) (.cons rfl .nil) (hsp H G.seq)
  refine codeAny_mono run ?_
  intro out s2 q
  match out with
  | .error ex =>
    obtain ⟨_, _, _, _, _, _, _, _, _, _, _, _, no⟩ := q
    exact no.elim
  | .ok .next => exact q.elim
  | .ok .brk => exact q.elim
  | .ok .cont => exact q.elim
  | .ok (.ret u) =>
    obtain ⟨v, H2, os, bare, un, ok2, rv, hv⟩ := q
    obtain rfl : v = V.bl true := hv
    obtain rfl : u = Value.bool true := rv
    refine ⟨rfl, OldK.of_keep ?_, os, bare⟩
    intro b o e
    cases q : H b with
    | none => exact un.keep b o e q (fun z => none_of b z) (by intro z; cases z)
    | some t =>
      obtain ⟨ob, xs, rfl, _, _⟩ := G.frz b t q
      have was := (G.ok b _ q).1
      have now := (ok2 b _ (un.frzs b ob _ q)).1
      rw [now, ← was, e]
theorem walkG {l : PySem.W.OpenLaw} {n k : Nat} {q : Program} {loose : List Str} {XP : (Str → Option Value) → Heap → Prop} {YP : World → Heap → Prop} {d : DefRec} {K : Params → PySem.W.Frag} {sp : World → Sp} {x : Str}
    (hn : l.most = some n) (hn2 : n ≤ sizeLine) (hdf : d.params.defaults = []) (hr : Room k callerA) (hY : ∀ (w : World) (h : Heap), YP w h → (K w.params).In h)
    (F : ∀ (w : World) (mg : Str → Option Value) (fa : Addr) (h : Heap), (K w.params).In h → h.Ns mainGlobals mg → mg d.name = some (.ref fa) →
      ∃ fd : FuncData, (∀ (s : Shared) (u : Value), BindsTo s fd ⟨[u], []⟩ [(x, u)]) ∧ ∀ base : Heap, (K w.params).In base → base.Ns mainGlobals mg → FnG l.prog w (K w.params) mg base k fa fd [x] (sp w))
    (hsp : ∀ (w : World) (H : Hp) (a : Addr) (ns : List Int), ns.length ≤ n → SqL (K w.params) H a (ns.map V.int) → sp w [.ref a] H (fun v _ => v = .bl true) fun _ _ _ => False) :
    PySem.W.WalkO q loose XP YP l.row.toRowW d [] (fun f vs => PySem.call f vs) := by
  refine Att.attach_call hn hdf ?_
  intro w s₀ s₁ mg mb fa o pm cd doc a vs ns G Y ho hd hcd hmg hobj hints hlen hg
  have inK := hY w _ Y
  obtain ⟨fd, hb, hF⟩ := F w mg fa _ inK G.T.g hmg
  exact law_callG inK G.T.g G.T.b G.T.builtins G.T.nolimit hg hobj hints (Nat.le_trans hlen hn2) hr hF hb fun H hS => hsp w H a ns hlen hS
end Zd

set_option Elab.async false
set_option linter.all false
set_option maxRecDepth 100000
set_option maxHeartbeats 4000000
set_option autoImplicit false
/-! Zd: for and comprehensions over an owned list, item by item as it then stands. -/
namespace Zd
open PySem PySem.Spec L2
open PyProof.Rows hiding St

/-- turns over the list in cell n, from place i on, so many at most -/
def forC (n : Nat) (g : GF) (body : SF) : Nat → Nat → SF
  | 0, _ => fun _ _ => .bad
  | k + 1, i => fun ρ S => match S[n]? with
    | some (.lst xs) => match xs[i]? with
      | some d => match g d ρ S with
        | none => .bad
        | some ρ1 => (body ρ1 S).turn (forC n g body k (i + 1))
      | none => .nx ρ S
    | _ => .bad
def forCS (m : Nat) (fe : EF) (g : GF) (body : SF) : SF := fun ρ S => (fe ρ S).st ρ fun d S1 => match d with
  | .cell n => forC n g body m 0 ρ S1
  | _ => .bad

section
variable {X : Cx} {Y : Yx} {tg : Expr}
theorem ds_forC {iter : Expr} {body : List Stmt} {fe : EF} {is : List Nat} {g : GF} {u : SF} {pos : Pos} (m : Nat) (hp : PassesOwn (model X.prog X.w) X.A X.env X.xe) (hc : X.calm = true) (he : DE X Y iter fe) (hg : DG X Y tg is g) (hb : DSs X Y body u)
    (hs : ∀ x, foldedSetIterable iter X.env x = pure x := by intro _; rfl) : DS X Y (.For tg iter body [] pos) (forCS m fe g u) := by
  refine PS.weak (ps_for hp hc (pi_list he) hg hb hs) fun Z σ H h => ?_
  obtain ⟨ms, S, ρ, ev, st, p⟩ := h
  refine ⟨ms, S, ρ, ev, st, ?_⟩
  unfold forCS at p
  refine PostS.split ev p fun d S1 x ms1 H1 _ f1 s1 r1 p1 => ?_
  cases d with
  | cell n =>
    cases r1 with
    | cell ha =>
      have p1 : PostS (wd X Y) ms1 H1 (forC n g u m 0 ρ S1) Z Y.wx := p1
      rename_i a
      have known : ∃ xs : List D, S1[n]? = some (.lst xs) := by
        cases m with
        | zero => exact p1.elim
        | succ m =>
          unfold forC at p1
          cases e : S1[n]? with
          | none => rw [e] at p1; exact p1.elim
          | some c =>
            cases c with
            | lst xs => exact ⟨xs, rfl⟩
            | _ => rw [e] at p1; exact p1.elim
      obtain ⟨xs, hx⟩ := known
      obtain ⟨us, e1, _⟩ := s1.readL ha hx
      refine ⟨a, rfl, ⟨us, .inl (.inl e1)⟩, fun i k σ' H' => ∃ ms' S' ρ', Fut ms1 H1 ms' H' ∧ StOk (wd X Y) ms' S' H' ∧ Ev (wd X Y) ρ' σ' ms' H' ∧ PostS (wd X Y) ms' H' (forC n g u k i ρ' S') Z Y.wx,
        ⟨m, ms1, S1, ρ, Fut.refl _ _, s1, ev.fut f1, p1⟩, ?_⟩
      rintro i k σ' H' ⟨ms', S', ρ', f', s', ev', p'⟩
      have ha' : ms'[n]? = some a := by
        obtain ⟨l, rfl⟩ := f'.ext
        exact pre_get ha
      cases k with
      | zero => exact p'.elim
      | succ k =>
        unfold forC at p'
        cases e : S'[n]? with
        | none => rw [e] at p'; exact p'.elim
        | some c =>
          cases c with
          | lst ys =>
            rw [e] at p'
            dsimp only at p'
            obtain ⟨vs, h1, rr⟩ := s'.readL ha' e
            have q : SqL X.K H' a vs := .inl (.inl h1)
            cases hy : ys[i]? with
            | none =>
              rw [hy] at p'
              refine .inl ⟨⟨vs, q, ?_⟩, p' σ' ms' H' (Fut.refl _ _) s' ev'⟩
              rw [rr.length]
              exact List.getElem?_eq_none_iff.mp hy
            | some d =>
              rw [hy] at p'
              dsimp only at p'
              obtain ⟨v, hv, r3⟩ := rr.get hy
              refine .inr ⟨⟨vs, v, q, hv⟩, fun σ' H' => ∃ ms' S' ρ', Fut ms1 H1 ms' H' ∧ StOk (wd X Y) ms' S' H' ∧ Ev (wd X Y) ρ' σ' ms' H' ∧ PostS (wd X Y) ms' H' (forC n g u k (i + 1) ρ' S') Z Y.wx,
                fun σ2 H2 q2 => ⟨k, Nat.lt_succ_self k, q2⟩, fun x H2 y => ?_⟩
              obtain ⟨rfl, hz⟩ := y
              have same := hz vs q
              rw [hv] at same
              cases same
              cases hgd : g d ρ' S' with
              | none => rw [hgd] at p'; exact p'.elim
              | some ρ1 =>
                rw [hgd] at p'
                dsimp only at p'
                refine ⟨ms', S', ρ', d, r3, ev', s', ρ1, hgd, fun σ3 ev3 _ => ⟨ms', S', ρ1, ev3, s', ?_⟩⟩
                cases hu : u ρ1 S' with
                | nx ρ2 S2 => rw [hu] at p'; exact fun σ4 ms4 H4 f4 s4 ev4 => ⟨ms4, S2, ρ2, f'.trans f4, s4, ev4, PostS.fut p' f4⟩
                | ct ρ2 S2 => rw [hu] at p'; exact fun σ4 ms4 H4 f4 s4 ev4 => ⟨ms4, S2, ρ2, f'.trans f4, s4, ev4, PostS.fut p' f4⟩
                | bk ρ2 S2 => rw [hu] at p'; exact fun σ4 ms4 H4 f4 s4 ev4 => p' σ4 ms4 H4 f4 s4 ev4
                | rt d S2 => rw [hu] at p'; exact fun v ms4 H4 f4 s4 r4 => p' v ms4 H4 f4 s4 r4
                | exc c ks es ρ2 S2 => rw [hu] at p'; exact fun σ4 C dd ms4 H4 f4 s4 ev4 x4 => p' σ4 C dd ms4 H4 f4 s4 ev4 x4
                | bad => rw [hu] at p'; exact p'
          | _ => rw [e] at p'; exact p'.elim
  | _ => exact p1.elim
end

/-! ### comprehensions over an owned list -/
noncomputable def compC (n src : Nat) (g : GF) (t : F Bool) (fe : EF) (ρ : Nv) : Nat → Nat → Sto → R Unit
  | 0, _, _ => .bad
  | k + 1, i, S => match S[src]? with
    | some (.lst xs) => match xs[i]? with
      | some d => match g d ρ S with
        | none => .bad
        | some ρ1 => (t ρ1 S).bindN fun b S1 => if b then (fe ρ1 S1).bindN fun x S2 => (pushC n x S2).bindN fun _ S3 => compC n src g t fe ρ k (i + 1) S3 else compC n src g t fe ρ k (i + 1) S1
      | none => .ok () S
    | _ => .bad
noncomputable def compCG (m : Nat) (fin : Nat → Sto → R D) (vs : List Nat) (fl : EF) (g : GF) (t : F Bool) (fe : EF) : EF := fun ρ S => (fl ρ S).bind fun d S1 => match d with
  | .cell src => (compC S1.length src g t fe (wipeD ρ vs) m 0 (S1 ++ [.lst []])).bindN fun _ S2 => fin S1.length S2
  | _ => .bad
theorem lc_ofC {W : Wd} {Wx : WX} {K : PySem.W.Frag} (hK : W.K = K) {m : Nat} {fin : Nat → Sto → R D} {fl : EF} {is vs : List Nat} {g : GF} {t : F Bool} {fe : EF} {σ : St} {H : Hp} {Q : VK} (hfin : Fin W fin) (hv : ∀ i ∈ is, i ∈ vs) (h : tX W Wx (relD W) (compCG m fin vs fl g t fe) σ H Q) :
    tLc (iList K (tX W Wx (relD W) fl)) (tG W is g) (tX W (fun _ _ _ _ => False) relB t) (tX W (fun _ _ _ _ => False) (relD W) fe) vs σ H Q := by
  subst hK
  obtain ⟨ms, S, ρ, ev, st, p⟩ := h
  refine ⟨ms, S, ρ, ev, st, ?_⟩
  unfold compCG at p
  refine Post.split p fun d S1 x ms1 H1 _ f1 s1 r1 p1 => ?_
  cases d with
  | cell src =>
    cases r1 with
    | cell ha =>
      rename_i a
      dsimp only at p1
      have hn : S1.length = ms1.length := s1.len.symm
      have hsrc : src < ms1.length := (List.getElem?_eq_some_iff.mp ha).1
      have known : ∃ xs : List Zd.D, S1[src]? = some (.lst xs) := by
        cases m with
        | zero => exact p1.elim
        | succ m =>
          unfold compC at p1
          rw [List.getElem?_append_left (by omega)] at p1
          cases e : S1[src]? with
          | none => rw [e] at p1; exact p1.elim
          | some c =>
            cases c with
            | lst xs => exact ⟨xs, rfl⟩
            | _ => rw [e] at p1; exact p1.elim
      obtain ⟨xs, hx⟩ := known
      obtain ⟨us, e1, _⟩ := s1.readL ha hx
      refine ⟨a, rfl, ⟨us, .inl (.inl e1)⟩, fun D hD => ?_⟩
      have s2 : StOk W (ms1 ++ [D]) (S1 ++ [.lst []]) (upd H1 D (.lst [])) := s1.ownL hD .nil
      rw [hn] at p1
      refine ⟨fun i k H' => ∃ ms' S', Fut (ms1 ++ [D]) (upd H1 D (.lst [])) ms' H' ∧ StOk W ms' S' H' ∧
          Post W (relD W) ms1 H1 ((compC ms1.length src g t fe (wipeD ρ vs) k i S').bindN fun _ S2 => fin ms1.length S2) Q (fun c d H' => Wx c d σ H'),
        ⟨m, ms1 ++ [D], S1 ++ [.lst []], Fut.refl _ _, s2, p1⟩, ?_⟩
      rintro i k H' ⟨ms', S', f', s', p'⟩
      have atD : ms'[ms1.length]? = some D := by
        obtain ⟨l, rfl⟩ := f'.ext
        refine pre_get ?_
        rw [List.getElem?_append_right (Nat.le_refl _), Nat.sub_self]
        rfl
      have ha' : ms'[src]? = some a := by
        obtain ⟨l, rfl⟩ := f'.ext
        exact pre_get (pre_get ha)
      have fI : Fut ms1 H1 ms' H' := (Fut.own hD).trans f'
      cases k with
      | zero => exact p'.elim
      | succ k =>
        unfold compC at p'
        cases e : S'[src]? with
        | none => rw [e] at p'; exact p'.elim
        | some c =>
          cases c with
          | lst ys =>
            rw [e] at p'
            dsimp only at p'
            obtain ⟨zs, h1, rr⟩ := s'.readL ha' e
            have q : SqL W.K H' a zs := .inl (.inl h1)
            cases hy : ys[i]? with
            | none =>
              rw [hy] at p'
              refine .inl ⟨⟨zs, q, by rw [rr.length]; exact List.getElem?_eq_none_iff.mp hy⟩, ?_⟩
              exact hfin ms1 ms' H1 H' S' D Q _ hD s' fI atD p'
            | some d =>
              rw [hy] at p'
              dsimp only at p'
              obtain ⟨v, hv1, r3⟩ := rr.get hy
              refine .inr ⟨⟨zs, v, q, hv1⟩, fun H' => ∃ ms' S', Fut (ms1 ++ [D]) (upd H1 D (.lst [])) ms' H' ∧ StOk W ms' S' H' ∧
                  Post W (relD W) ms1 H1 ((compC ms1.length src g t fe (wipeD ρ vs) k (i + 1) S').bindN fun _ S2 => fin ms1.length S2) Q (fun c d H' => Wx c d σ H'),
                fun H2 q2 => ⟨k, Nat.lt_succ_self k, q2⟩, fun x H2 y => ?_⟩
              obtain ⟨rfl, hz⟩ := y
              have same := hz zs q
              rw [hv1] at same
              cases same
              have ev2 : Ev W (wipeD ρ vs) (L2.wipe σ vs) ms' H2 := (ev.fut (f1.trans fI)).wipe vs
              cases hgd : g d (wipeD ρ vs) S' with
              | none => rw [hgd] at p'; exact p'.elim
              | some ρ1 =>
                rw [hgd] at p'
                refine ⟨ms', S', wipeD ρ vs, d, r3, ev2, s', ρ1, hgd, fun σ3 ev3 sets => ⟨?_, ms', S', ρ1, ev3, s', ?_⟩⟩
                · have w1 := sets vs hv
                  have w2 : L2.wipe (L2.wipe σ vs) vs = L2.wipe σ vs := by
                    apply List.ext_getElem?
                    intro j
                    rw [wipe_at, wipe_at, wipe_length]
                    by_cases hj : j ∈ vs
                    · rw [if_pos hj, if_pos hj]
                    · rw [if_neg hj, if_neg hj]
                  rw [w1, w2]
                · cases ht : t ρ1 S' with
                  | bad => dsimp only at p'; rw [ht] at p'; exact p'.elim
                  | exc c ks es S2 => dsimp only at p'; rw [ht] at p'; exact p'.elim
                  | ok b S2 =>
                    dsimp only at p'
                    rw [ht, R.bindN_ok] at p'
                    intro b' ms3 H3 f3 s3 e3
                    cases e3
                    cases b with
                    | false => exact iteF ⟨ms3, S2, f'.trans f3, s3, p'⟩
                    | true =>
                      refine iteT ⟨ms3, S2, ρ1, ev3.fut f3, s3, ?_⟩
                      rw [if_pos rfl] at p'
                      cases he : fe ρ1 S2 with
                      | bad => rw [he] at p'; exact p'.elim
                      | exc c ks es S3 => rw [he] at p'; exact p'.elim
                      | ok z S3 =>
                        rw [he, R.bindN_ok] at p'
                        intro v ms4 H4 f4 s4 r4
                        have fD : Fut (ms1 ++ [D]) (upd H1 D (.lst [])) ms4 H4 := f'.trans (f3.trans f4)
                        have atD4 : ms4[ms1.length]? = some D := by
                          obtain ⟨l, rfl⟩ := fD.ext
                          refine pre_get ?_
                          rw [List.getElem?_append_right (Nat.le_refl _), Nat.sub_self]
                          rfl
                        unfold pushC at p'
                        cases hc : S3[ms1.length]? with
                        | none => rw [hc] at p'; exact p'.elim
                        | some cl =>
                          rw [hc] at p'
                          cases cl with
                          | lst xs =>
                            dsimp only at p'
                            split at p'
                            · rename_i hl
                              obtain ⟨l1, l2⟩ := Bool.and_eq_true_iff.mp hl
                              have l2 := of_decide_eq_true l2
                              obtain ⟨us, e1, rr⟩ := s4.cell _ _ _ atD4 hc
                              refine ⟨us, e1, by rw [rr.length]; exact l2, ms4, S3.set ms1.length (.lst (xs ++ [z])), fD.trans (Fut.write (List.mem_of_getElem? atD4)), s4.writeL atD4 (rr.append (.cons (Rp.take _ _ l1 r4) .nil)), ?_⟩
                              rw [R.bindN_ok] at p'
                              exact p'
                            · exact p'.elim
                          | obj _ _ _ => exact p'.elim
                          | dic _ _ => exact p'.elim
                          | dead => exact p'.elim
          | _ => rw [e] at p'; exact p'.elim
  | _ => exact p1.elim
section
variable {X : Cx} {Y : Yx} {elt tg iter : Expr} {ifs : List Expr} {scope : Scope} {own : List (Str × Nat)} {pos : Pos} {fl : EF} {is : List Nat} {g : GF} {t : F Bool} {fe : EF}
theorem d_compC {fin : Nat → Sto → R D} (m : Nat) (hfin : Fin (wd X Y) fin) (hc : X.calm = true) (hN : X.N.Nodup) (hi : DE X Y iter fl) (ok : BlkOk X.N X.env.scope scope own) (hv : ∀ i ∈ is, i ∈ own.map (·.2))
    (hg : ∀ (s : Shared) (H : Hp) (C : Addr) (cl : List (Str × Addr)) (fp : List Addr), DG (X.blk s H scope (compEnvC scope cl C X.env) fp) (yN Y) tg is g) (ht : ∀ (s : Shared) (H : Hp) (C : Addr) (cl : List (Str × Addr)) (fp : List Addr), DTs (X.blk s H scope (compEnvC scope cl C X.env) fp) (yN Y) ifs t)
    (he : ∀ (s : Shared) (H : Hp) (C : Addr) (cl : List (Str × Addr)) (fp : List Addr), DE (X.blk s H scope (compEnvC scope cl C X.env) fp) (yN Y) elt fe) (hs : ∀ x, foldedSetIterable iter X.env x = pure x := by intro _; rfl) :
    DE X Y (.ListComp elt [⟨tg, iter, ifs, 0⟩] scope pos) (compCG m fin (own.map (·.2)) fl g t fe) :=
  PE.weak (pe_lc (g := tG (wd X Y) is g) (tt := tX (wd X Y) (fun _ _ _ _ => False) relB t) (te := tX (wd X Y) (fun _ _ _ _ => False) (relD (wd X Y)) fe) hc hN (pi_list hi) ok hg ht he hs) fun σ H Q h => lc_ofC (W := wd X Y) rfl hfin hv h
theorem ds_setCC {fin : Nat → Sto → R D} {i : Nat} {y : Str} {py spos : Pos} (m : Nat) (hfin : Fin (wd X Y) fin) (hc : X.calm = true) (hN : X.N.Nodup) (hy : X.N[i]? = some y) (hyl : X.env.scope.names.lookup y = some .local)
    (hsw : swapsWith (.ListComp elt [⟨tg, iter, ifs, 0⟩] scope pos) (some (.Name y py)) spos.line X.env = pure true) (hi : DE X Y iter fl) (ok : BlkOk X.N X.env.scope scope own) (hv : ∀ i ∈ is, i ∈ own.map (·.2))
    (hg : ∀ (s : Shared) (H : Hp) (C : Addr) (cl : List (Str × Addr)) (fp : List Addr), DG (X.blk s H scope (compEnvC scope cl C X.env) fp) (yN Y) tg is g) (ht : ∀ (s : Shared) (H : Hp) (C : Addr) (cl : List (Str × Addr)) (fp : List Addr), DTs (X.blk s H scope (compEnvC scope cl C X.env) fp) (yN Y) ifs t)
    (he : ∀ (s : Shared) (H : Hp) (C : Addr) (cl : List (Str × Addr)) (fp : List Addr), DE (X.blk s H scope (compEnvC scope cl C X.env) fp) (yN Y) elt fe) (hs : ∀ x, foldedSetIterable iter X.env x = pure x := by intro _; rfl) :
    DS X Y (.Assign [.Name y py] (.ListComp elt [⟨tg, iter, ifs, 0⟩] scope pos) spos) (setS i (compCG m fin (own.map (·.2)) fl g t fe)) := by
  refine PS.weak (ps_setLc (g := tG (wd X Y) is g) (tt := tX (wd X Y) (fun _ _ _ _ => False) relB t) (te := tX (wd X Y) (fun _ _ _ _ => False) (relD (wd X Y)) fe) hc hN hy hyl hsw (pi_list hi) ok hg ht he hs) fun Z σ H h => ?_
  obtain ⟨ms, S, ρ, ev, st, p⟩ := h
  refine lc_ofC (W := wd X Y) (Wx := Y.wx) (m := m) rfl hfin hv ⟨ms, S, ρ, ev, st, ?_⟩
  exact PostS.split ev p fun d S1 x ms1 H1 _ f1 s1 r1 p1 => p1 _ ms1 H1 (Fut.refl _ _) s1 ((ev.fut f1).set r1 i)
end

/-! ### where the list stays as it is: as over data -/
theorem forC_data {n : Nat} {g : GF} {body : SF} {xs : List D} (P : Nv → Sto → Prop) (hS : ∀ ρ S, P ρ S → S[n]? = some (.lst xs))
    (step : ∀ (i : Nat) (d : D) (ρ : Nv) (S : Sto) (ρ1 : Nv), xs[i]? = some d → P ρ S → g d ρ S = some ρ1 → (∀ ρ2 S2, body ρ1 S = .nx ρ2 S2 → P ρ2 S2) ∧ (∀ ρ2 S2, body ρ1 S = .ct ρ2 S2 → P ρ2 S2)) :
    ∀ (k i : Nat) (ρ : Nv) (S : Sto), xs.length < k + i → i ≤ xs.length → P ρ S → forC n g body k i ρ S = forL g body (xs.drop i) ρ S
  | 0, i, ρ, S, h, hi, _ => by omega
  | k + 1, i, ρ, S, h, hi, p => by
    unfold forC
    rw [hS ρ S p]
    dsimp only
    by_cases hlt : i < xs.length
    · rw [List.getElem?_eq_getElem hlt, List.drop_eq_getElem_cons hlt, forL]
      dsimp only
      cases hg : g xs[i] ρ S with
      | none => rfl
      | some ρ1 =>
        dsimp only
        obtain ⟨s1, s2⟩ := step i xs[i] ρ S ρ1 (List.getElem?_eq_getElem hlt) p hg
        cases hb : body ρ1 S with
        | nx ρ2 S2 => exact forC_data P hS step k (i + 1) ρ2 S2 (by omega) hlt (s1 ρ2 S2 hb)
        | ct ρ2 S2 => exact forC_data P hS step k (i + 1) ρ2 S2 (by omega) hlt (s2 ρ2 S2 hb)
        | _ => rfl
    · rw [List.getElem?_eq_none (by omega), List.drop_of_length_le (by omega)]
      rfl
theorem compC_map {n src : Nat} {g : GF} {t : F Bool} {fe : EF} {ρ : Nv} {S : Sto} {xs : List D} {p : D → Bool} {f : D → D} (hn : n = S.length) (hx : S[src]? = some (.lst xs)) (hl : NLe xs.length sizeLine)
    (h : ∀ d ∈ xs, ∀ acc : List D, ∃ ρ1, g d ρ (S ++ [.lst acc]) = some ρ1 ∧ t ρ1 (S ++ [.lst acc]) = .ok (p d) (S ++ [.lst acc]) ∧ (p d = true → fe ρ1 (S ++ [.lst acc]) = .ok (f d) (S ++ [.lst acc]) ∧ low n (f d) = true)) :
    ∀ (k i : Nat) (acc : List D), xs.length < k + i → i ≤ xs.length → acc.length ≤ i → compC n src g t fe ρ k i (S ++ [.lst acc]) = .ok () (S ++ [.lst (acc ++ ((xs.drop i).filter p).map f)])
  | 0, i, acc, h1, h2, _ => by omega
  | k + 1, i, acc, h1, h2, h3 => by
    have hs : ((S ++ [Cl.lst acc] : Sto)[n]? : Option Cl) = some (.lst acc) := by subst hn; simp
    have hx' : ((S ++ [Cl.lst acc] : Sto)[src]? : Option Cl) = some (.lst xs) := by rw [List.getElem?_append_left (List.getElem?_eq_some_iff.mp hx).1]; exact hx
    have hl' : xs.length ≤ sizeLine := hl
    unfold compC
    rw [hx']
    dsimp only
    by_cases hlt : i < xs.length
    · rw [List.getElem?_eq_getElem hlt, List.drop_eq_getElem_cons hlt]
      dsimp only
      obtain ⟨ρ1, e1, e2, e3⟩ := h xs[i] (List.getElem_mem hlt) acc
      rw [e1]
      dsimp only
      rw [e2, R.bindN_ok]
      cases hp : p xs[i] with
      | false => rw [if_neg (by simp), compC_map hn hx hl h k (i + 1) acc (by omega) hlt (by omega), List.filter_cons_of_neg (by simp [hp])]
      | true =>
        obtain ⟨e4, e5⟩ := e3 hp
        rw [if_pos rfl, e4, R.bindN_ok]
        unfold pushC
        rw [hs]
        dsimp only
        rw [e5, decide_eq_true (show NLe (acc.length + 1) sizeLine from (show acc.length + 1 ≤ sizeLine by omega)), if_pos (by rfl), R.bindN_ok]
        have hset : (S ++ [Cl.lst acc] : Sto).set n (.lst (acc ++ [f xs[i]])) = S ++ [.lst (acc ++ [f xs[i]])] := by
          subst hn
          rw [List.set_append_right _ _ (Nat.le_refl _), Nat.sub_self]
          rfl
        rw [hset, compC_map hn hx hl h k (i + 1) (acc ++ [f xs[i]]) (by omega) hlt (by rw [List.length_append, List.length_singleton]; omega), List.filter_cons_of_pos hp, List.map_cons, List.append_assoc]
        rfl
    · rw [List.getElem?_eq_none (by omega), List.drop_of_length_le (by omega)]
      simp
theorem compCG_map {m : Nat} {vs : List Nat} {fl : EF} {g : GF} {t : F Bool} {fe : EF} {ρ : Nv} {S S1 : Sto} {src : Nat} {xs : List D} (p : D → Bool) (f : D → D) (hi : fl ρ S = .ok (.cell src) S1) (hx : S1[src]? = some (.lst xs)) (hl : NLe xs.length sizeLine) (hm : NLe (xs.length + 1) m)
    (h : ∀ d ∈ xs, ∀ acc : List D, ∃ ρ1, g d (wipeD ρ vs) (S1 ++ [.lst acc]) = some ρ1 ∧ t ρ1 (S1 ++ [.lst acc]) = .ok (p d) (S1 ++ [.lst acc]) ∧ (p d = true → fe ρ1 (S1 ++ [.lst acc]) = .ok (f d) (S1 ++ [.lst acc]) ∧ low S1.length (f d) = true)) :
    compCG m finF vs fl g t fe ρ S = .ok (.lst ((xs.filter p).map f)) S1 := by
  unfold compCG
  rw [hi, R.bind_ok]
  dsimp only
  rw [compC_map (acc := []) rfl hx hl h m 0 (by have : xs.length + 1 ≤ m := hm; omega) (Nat.zero_le _) (Nat.le_refl _), R.bindN_ok]
  unfold finF
  simp
theorem whileL_succ {t : F Bool} {body : SF} {n : Nat} {ρ : Nv} {S : Sto} : whileL t body (n + 1) ρ S = (t ρ S).st ρ fun k S1 => if k then (body ρ S1).turn (whileL t body n) else .nx ρ S1 := rfl
end Zd

set_option Elab.async false
set_option linter.all false
set_option maxRecDepth 100000
set_option maxHeartbeats 4000000
set_option autoImplicit false
/-! Zd: own exceptions: made, raised, caught. -/
namespace Zd
open PySem PySem.Spec L2
open PyProof.Rows hiding St

/-! ### the __init__ of an own exception -/
/-- the own base class B: its __init__ is that of ValueError -/
structure Bas (K : PySem.W.Frag) (B : Addr) : Prop where
  rd : PySem.W.readsIn K B (.type "type") = true
  ga : PySem.W.specialIn K (.ref B) "__getattribute__" = some (some (.builtin "type.__getattribute__"))
  vi : PySem.W.findCls K (.ref B) (.type "type") "__init__" = some (.val (.builtin "ValueError.__init__"))
section
variable {X : Cx}
theorem pe_baseinit {x : Str} {B : Addr} {e : Expr} {es : List Expr} {ta : TA} {p1 p2 pos : Pos} {pl : Sem Bool} (hg : Gl X x) (hm : X.mg x = some (.ref B)) (b : Bas X.K B) (ha : PA X (e :: es) ta) (hdb : (x == ("__debug__" : Str)) = false := by decide)
    (hc : eval (.Call (.Attribute (.Name x p1) "__init__" p2) (e :: es) [] pos) X.env = (do
      let ov ← eval (.Name x p1) X.env
      standAt p2.atName
      let (f, first) ← holding [ov] (getMethod ov "__init__" pl)
      callWith pos f first (backTo pos (starEach (e :: es) X.env)) (backToKw pos (keywordEach [] X.env))) := by rfl)
    (he : starEach (e :: es) X.env = (false, eval e X.env) :: starEach es X.env := by rfl) (hpl : (backTo pos (starEach es X.env)).any (·.1) = false := by rfl) :
    PE X (.Call (.Attribute (.Name x p1) "__init__" p2) (e :: es) [] pos) (tVeI X.K ta) := by
  constructor
  intro pins s σ H Q I h
  refine PySem.W.methodCall_KW (ld_glob I hg hm ?_ hdb) hc
  refine PySem.W.method_cls I.kIn b.ga (PySem.W.cls_value I.kIn b.rd b.vi (by decide +kernel) ?_)
  show wpAny _ _ (callWith pos (Value.builtin "ValueError.__init__") [] (backTo pos (starEach (e :: es) X.env)) []) _ _ _
  refine PyProof.Rows.callWith_method1 (thn (ha.run pos pins _ σ H _ (I.tok _) h) ?_) he hpl
  rintro us s1 ⟨vs, H1, I1, r1, a, C, ws, rfl, hl, T, ea, q⟩
  match us, r1 with
  | u0 :: ur, .cons ra rw' =>
    obtain rfl : u0 = Value.ref a := ra
    have many : ur.length ≤ sizeLine := by rw [← Paired.length rw', sizeLine_eq]; omega
    exact oinit_ok T I1 ea many fun s' J => ⟨.non, H1, J, rfl, q⟩
/-- what is promised of an exception's __init__ with the fields ks -/
def spXi (K : PySem.W.Frag) (ks : List Str) : Sp := fun vs H Q _ => ∃ (a C : Addr) (ws : List V), vs = .ref a :: ws ∧ ws.length = ks.length ∧ OexC K C ∧ (∀ f ∈ ks, PySem.W.findIn K (.ref C) f = some none) ∧ H a = some (exo a C none) ∧
  ∀ (dx : Addr) (H' : Hp), H dx = none → dx ≠ a → H' a = some (exo a C (some dx)) → H' dx = some (exd dx (ks.zip ws).reverse) → (∀ b, b ≠ a → b ≠ dx → H' b = H b) → Q .non H'
end

def tBi (K : PySem.W.Frag) (msg : Str) : TS := tDrop (tVeI K (tCons (tVar 0) (tCons (tC (.str msg)) tNil)))
def tFi (K : PySem.W.Frag) (f : Str) (i : Nat) : TS := tOst K f (tVar 0) (tVar i)
theorem xi_len {K : PySem.W.Frag} {ks : List Str} {vs : List V} {H : Hp} {Q : VK} {E : XK} (h : spXi K ks vs H Q E) : vs.length = ks.length + 1 := by
  obtain ⟨a, C, ws, rfl, hl, _⟩ := h
  rw [List.length_cons, hl]
theorem tBi_of {K : PySem.W.Frag} {msg : Str} {σ : St} {H : Hp} {D : Ends} {a C : Addr} (h0 : σ[0]? = some (some (.ref a))) (T : OexC K C) (ea : H a = some (exo a C none)) (q : D.nx σ H) : tBi K msg D σ H :=
  ⟨.ref a, h0, a, C, [.str msg], rfl, by simp, T, ea, q⟩
theorem tFi_new {K : PySem.W.Frag} {f : Str} {i : Nat} {σ : St} {H : Hp} {D : Ends} {a C : Addr} {y : V} (h0 : σ[0]? = some (some (.ref a))) (hi : σ[i]? = some (some y)) (T : OexC K C) (hno : PySem.W.findIn K (.ref C) f = some none) (ea : H a = some (exo a C none))
    (q : ∀ dx, H dx = none → dx ≠ a → D.nx σ (upd (upd H dx (exd dx [(f, y)])) a (exo a C (some dx)))) : tFi K f i D σ H :=
  ⟨y, hi, .ref a, h0, a, C, rfl, T, hno, .inl ⟨ea, q⟩⟩
theorem tFi_old {K : PySem.W.Frag} {f : Str} {i : Nat} {σ : St} {H : Hp} {D : Ends} {a C dx : Addr} {y : V} {fs : List (Str × V)} (h0 : σ[0]? = some (some (.ref a))) (hi : σ[i]? = some (some y)) (T : OexC K C) (hno : PySem.W.findIn K (.ref C) f = some none)
    (ea : H a = some (exo a C (some dx))) (ed : H dx = some (exd dx fs)) (hl : fs.length ≤ 900) (q : D.nx σ (upd H dx (exd dx ((f, y) :: fs)))) : tFi K f i D σ H :=
  ⟨y, hi, .ref a, h0, a, C, rfl, T, hno, .inr ⟨dx, fs, ea, ed, hl, q⟩⟩
section
variable {K : PySem.W.Frag} {N : List Str} {vs : List V} {H : Hp} {Q : VK} {E : XK} {f f1 f2 msg : Str}
theorem sh_1 (h : spXi K [f] vs H Q E) : tFi K f 1 { nx := fun _ H' => Q .non H', rt := Q } (start N vs) H := by
  obtain ⟨a, C, ws, rfl, hl, T, hf, ea, q⟩ := h
  match ws, hl with
  | [y], _ =>
    exact tFi_new rfl rfl T (hf f List.mem_cons_self) ea fun dx hd ne => q dx _ hd ne upd_same (by rw [upd_ne ne, upd_same]; rfl) fun b h1 h2 => by rw [upd_ne h1, upd_ne h2]
theorem sh_2 (h : spXi K [f1, f2] vs H Q E) : tSeq (tFi K f1 1) (tFi K f2 2) { nx := fun _ H' => Q .non H', rt := Q } (start N vs) H := by
  obtain ⟨a, C, ws, rfl, hl, T, hf, ea, q⟩ := h
  match ws, hl with
  | [y1, y2], _ =>
    exact tFi_new rfl rfl T (hf f1 List.mem_cons_self) ea fun dx hd ne => tFi_old (dx := dx) (fs := [(f1, y1)]) rfl rfl T (hf f2 (List.mem_cons_of_mem _ List.mem_cons_self)) upd_same (by rw [upd_ne ne, upd_same]) (by simp)
      (q dx _ hd ne (by rw [upd_ne (Ne.symm ne), upd_same]) (by rw [upd_same]; rfl) fun b h1 h2 => by rw [upd_ne h2, upd_ne h1, upd_ne h2])
theorem sh_b1 (h : spXi K [f] vs H Q E) : tSeq (tBi K msg) (tFi K f 1) { nx := fun _ H' => Q .non H', rt := Q } (start N vs) H := by
  have h' := h
  obtain ⟨a, C, ws, rfl, hl, T, hf, ea, q⟩ := h'
  exact tBi_of (C := C) rfl T ea (sh_1 h)
theorem sh_b2 (h : spXi K [f1, f2] vs H Q E) : tSeq (tBi K msg) (tSeq (tFi K f1 1) (tFi K f2 2)) { nx := fun _ H' => Q .non H', rt := Q } (start N vs) H := by
  have h' := h
  obtain ⟨a, C, ws, rfl, hl, T, hf, ea, q⟩ := h'
  exact tBi_of (C := C) rfl T ea (sh_2 h)
end
/-- what one knows of an own exception class c with the fields ks -/
structure XK' (P : Program) (w : World) (K : PySem.W.Frag) (mg : Str → Option Value) (base : Heap) (c : Str) (ks : List Str) (k : Nat) : Prop where
  ex : ∃ (C fI : Addr) (fd : FuncData) (ps : List Str), mg c = some (.ref C) ∧ OexC K C ∧ (∀ f ∈ ks, PySem.W.findIn K (.ref C) f = some none) ∧ PySem.W.findIn K (.ref C) "__init__" = some (some (.ref fI)) ∧
    PySem.W.typeIn K (.ref fI) = some (.type "function") ∧ FnOk P w K mg base (L2.CX P w) k fI fd ps (spXi K ks) ∧ Binds K fd ps []

/-! ### raise -/
def raiseS (c : Str) (ks : List Str) (fs : F (List D)) : SF := fun ρ S => (fs ρ S).st ρ fun ds S1 => if ds.length = ks.length then .exc c ks.reverse ds.reverse ρ S1 else .bad
theorem zip_rev {α β : Type} : ∀ (a : List α) (b : List β), a.length = b.length → (a.zip b).reverse = a.reverse.zip b.reverse
  | [], [], _ => rfl
  | x :: a, y :: b, h => by
    rw [List.zip_cons_cons, List.reverse_cons, zip_rev a b (by simpa using h), List.reverse_cons, List.reverse_cons, List.zip_append (by simpa using h)]; rfl
theorem RpL.rev {W : Wd} {ms : List Addr} {G : Hp} {vs : List V} {ds : List D} (r : RpL W ms G vs ds) : RpL W ms G vs.reverse ds.reverse := by
  induction ds generalizing vs with
  | nil => cases r; exact .nil
  | cons d ds ih => cases r with | cons a b => rw [List.reverse_cons, List.reverse_cons]; exact (ih b).append (.cons a .nil)
section
variable {X : Cx} {wx : WX} {xi : Option (Addr × Value × Option Addr)}
theorem ds_raise {c : Str} {ks : List Str} {k : Nat} {e : Expr} {es : List Expr} {fs : F (List D)} {p pos pos' : Pos} (hc : X.calm = true) (x : XK' X.prog X.w X.K X.mg X.base c ks k) (hr : Room (k + 1) X.A) (tk : Takes X wx) (hg : Gl X c) (ha : DA X ⟨xi, wx⟩ (e :: es) fs)
    (hdb : (c == ("__debug__" : Str)) = false := by decide) (he : starEach (e :: es) X.env = (false, eval e X.env) :: starEach es X.env := by rfl) (hpl : (backTo pos (starEach es X.env)).any (·.1) = false := by rfl) (hkl : ks.length ≤ 1000 := by decide) :
    DS X ⟨xi, wx⟩ (.Raise (some (.Call (.Name c p) (e :: es) [] pos)) none pos') (raiseS c ks fs) := by
  obtain ⟨C, fI, fd, ps, hm, T, hno, iC, tI, F, hb⟩ := x.ex
  refine PS.weak (ps_raise hc tk (pmk_oex (CX := L2.CX X.prog X.w) (dvs := []) T iC tI F hr hb .nil (fun _ _ _ _ _ _ _ z => ?_) hg hm ha hdb he hpl)) fun Z σ H h => ?_
  · obtain ⟨_, _, _, _, _, _, _, _, _, _, _, _, no⟩ := z
    exact no.elim
  · obtain ⟨ms, S, ρ, ev, st, q⟩ := h
    refine ⟨ms, S, ρ, ev, st, PostS.split ev q fun ds S1 vs ms1 H1 _ f1 s1 r1 q1 => ?_⟩
    split at q1
    · rename_i hl
      have hv : vs.length = ks.length := by rw [r1.length]; exact hl
      refine ⟨by rw [hv]; exact hkl, fun a ha => ⟨a, C, vs, by rw [List.append_nil], hv, T, hno, upd_same, fun dx H' hd ne e1 e2 e3 => ⟨rfl, dx, _, e1, e2, ?_, ?_⟩⟩⟩
      · rw [upd_ne ne] at hd; exact hd
      · have hd1 : H1 dx = none := by rw [upd_ne ne] at hd; exact hd
        have same : upd (del H' a) dx (.xd (ks.zip vs).reverse) = upd H1 dx (.xd (ks.zip vs).reverse) := by
          funext b
          by_cases h2 : b = dx
          · rw [h2, upd_same, upd_same]
          · rw [upd_ne h2, upd_ne h2]
            by_cases h1 : b = a
            · rw [h1, del_same, ha]
            · rw [del_ne h1, e3 b h1 h2, upd_ne h1]
        rw [same]
        refine q1 σ C dx ms1 _ (Fut.new s1 hd1) (s1.new hd1) (ev.fut (f1.trans (Fut.new s1 hd1))) ⟨hm, vs.reverse, ?_, by simp [hv], ?_⟩
        · rw [era_new s1 hd1, zip_rev _ _ hv.symm]
        · exact RpL.fut r1.rev (Fut.new s1 hd1)
    · exact q1.elim
end

/-! ### try -/
mutual
/-- no caught exception within -/
def noX : D → Bool
  | .exn _ _ _ => false
  | .tup ds => noXL ds
  | .lst ds => noXL ds
  | .rol ds => noXL ds
  | .obj _ _ ds => noXL ds
  | .dic _ ds => noXL ds
  | _ => true
def noXL : List D → Bool
  | [] => true
  | d :: ds => noX d && noXL ds
end
section
variable {W W' : Wd} {ms : List Addr} {G : Hp}
mutual
theorem Rp.noX (hx : W.xi = none) : ∀ (d : D) (v : V), Rp W ms G v d → noX d = true
  | .non, _, _ => rfl
  | .bl _, _, _ => rfl
  | .int _, _, _ => rfl
  | .str _, _, _ => rfl
  | .tup ds, _, h => by cases h with | tup a b => exact RpL.noX hx ds _ b
  | .lst ds, _, h => by cases h with | lst a b => exact RpL.noX hx ds _ b
  | .rol ds, _, h => by cases h with | rol a b => exact RpL.noX hx ds _ b
  | .cell _, _, _ => rfl
  | .obj _ _ ds, _, h => by cases h with | obj a b e r => exact RpL.noX hx ds _ r
  | .dic _ ds, _, h => by cases h with | dic b e r => exact RpL.noX hx ds _ r
  | .exn _ _ _, _, h => by cases h with | exn x a b e r => rw [hx] at x; cases x
  | .junk, _, _ => rfl
theorem RpL.noX (hx : W.xi = none) : ∀ (ds : List D) (vs : List V), RpL W ms G vs ds → noXL ds = true
  | [], _, _ => rfl
  | d :: ds, _, h => by cases h with | cons a b => show (Zd.noX d && noXL ds) = true; rw [Rp.noX hx d _ a, RpL.noX hx ds _ b]; rfl
end
mutual
theorem Rp.chg (hK : W'.K = W.K) (hg : W'.mg = W.mg) : ∀ (d : D) (v : V), Zd.noX d = true → Rp W ms G v d → Rp W' ms G v d
  | .non, _, _, h => by cases h; exact .non
  | .bl _, _, _, h => by cases h; exact .bl _
  | .int _, _, _, h => by cases h; exact .int _
  | .str _, _, _, h => by cases h; exact .str _
  | .tup ds, _, n, h => by cases h with | tup a b => exact .tup (by rw [hK]; exact a) (RpL.chg hK hg ds _ n b)
  | .lst ds, _, n, h => by cases h with | lst a b => exact .lst a (RpL.chg hK hg ds _ n b)
  | .rol ds, _, n, h => by cases h with | rol a b => exact .rol (by rw [hK]; exact a) (RpL.chg hK hg ds _ n b)
  | .cell _, _, _, h => by cases h with | cell a => exact .cell a
  | .obj _ _ ds, _, n, h => by cases h with | obj a b e r => exact .obj (by rw [hg]; exact a) b e (RpL.chg hK hg ds _ n r)
  | .dic _ ds, _, n, h => by cases h with | dic b e r => exact .dic b e (RpL.chg hK hg ds _ n r)
  | .exn _ _ _, _, n, _ => by cases n
  | .junk, _, _, _ => .junk _
theorem RpL.chg (hK : W'.K = W.K) (hg : W'.mg = W.mg) : ∀ (ds : List D) (vs : List V), noXL ds = true → RpL W ms G vs ds → RpL W' ms G vs ds
  | [], _, _, h => by cases h; exact .nil
  | d :: ds, _, n, h => by
    obtain ⟨n1, n2⟩ := Bool.and_eq_true_iff.mp n
    cases h with | cons a b => exact .cons (Rp.chg hK hg d _ n1 a) (RpL.chg hK hg ds _ n2 b)
end
end
def noXC : Cl → Bool
  | .lst ds => noXL ds
  | .obj _ _ ds => noXL ds
  | .dic _ ds => noXL ds
  | .dead => true
section
variable {W W' : Wd} {ms : List Addr} {S : Sto} {H : Hp} {ρ : Nv} {σ : St}
theorem StOk.noX (st : StOk W ms S H) (hx : W.xi = none) : ∀ c ∈ S, noXC c = true := by
  intro c hc
  obtain ⟨n, hn⟩ := List.getElem?_of_mem hc
  obtain ⟨a, _, k⟩ := st.at' hn
  cases c with
  | lst ds => obtain ⟨vs, _, r⟩ := k; exact RpL.noX hx ds vs r
  | obj _ _ ds => obtain ⟨_, _, vs, _, _, _, r⟩ := k; exact RpL.noX hx ds vs r
  | dic _ ds => obtain ⟨vs, _, _, r⟩ := k; exact RpL.noX hx ds vs r
  | dead => rfl
theorem StOk.chg (st : StOk W ms S H) (hK : W'.K = W.K) (hg : W'.mg = W.mg) (hn : ∀ c ∈ S, noXC c = true) : StOk W' ms S H := by
  refine ⟨st.nd, st.len, fun n a c h k => ?_⟩
  have q := st.cell n a c h k
  have m := hn c (List.mem_of_getElem? k)
  cases c with
  | lst ds => obtain ⟨vs, e, r⟩ := q; exact ⟨vs, e, RpL.chg hK hg ds vs m r⟩
  | obj _ _ ds => obtain ⟨C, dx, vs, g, e, l, r⟩ := q; exact ⟨C, dx, vs, by rw [hg]; exact g, e, l, RpL.chg hK hg ds vs m r⟩
  | dic _ ds => obtain ⟨vs, e, l, r⟩ := q; exact ⟨vs, e, l, RpL.chg hK hg ds vs m r⟩
  | dead => exact q
theorem Ev.chg (ev : Ev W ρ σ ms H) (hK : W'.K = W.K) (hg : W'.mg = W.mg) (hn : ∀ (j : Nat) (d : D), ρ[j]? = some (some d) → noX d = true) : Ev W' ρ σ ms H :=
  ⟨ev.len, fun i d h => let ⟨v, a, b⟩ := ev.get i d h; ⟨v, a, Rp.chg hK hg d v (hn i d h) b⟩⟩
theorem Ev.noX (ev : Ev W ρ σ ms H) (hx : W.xi = none) : ∀ (j : Nat) (d : D), ρ[j]? = some (some d) → noX d = true := fun j d h => let ⟨_, _, b⟩ := ev.get j d h; Rp.noX hx d _ b
end
/-- the names behind a suite: the exception's is gone, the others are as ahead or hold no exception -/
def OkN (i : Nat) (ρ1 ρ2 : Nv) : Prop := ∀ (j : Nat) (d : D), (ρ2.set i none)[j]? = some (some d) → noX d = true ∨ ρ1[j]? = some (some d)
open Classical in
/-- try: g, except .. as name i: h; mt says of each class whether the clause takes it -/
noncomputable def tryS (mt : List (Str × Bool)) (i : Nat) (g h : SF) : SF := fun ρ S => match g ρ S with
  | .exc c ks ds ρ1 S1 => match mt.lookup c with
    | some true => match h (ρ1.set i (some (.exn c ks ds))) S1 with
      | .rt d S2 => if S2 = S1 ∧ noX d = true then .rt d S2 else .bad
      | .nx ρ2 S2 => if S2 = S1 ∧ OkN i ρ1 ρ2 then .nx (ρ2.set i none) S2 else .bad
      | .ct ρ2 S2 => if S2 = S1 ∧ OkN i ρ1 ρ2 then .ct (ρ2.set i none) S2 else .bad
      | .bk ρ2 S2 => if S2 = S1 ∧ OkN i ρ1 ρ2 then .bk (ρ2.set i none) S2 else .bad
      | _ => .bad
    | some false => .exc c ks ds ρ1 S1
    | none => .bad
  | r => r
section
variable {X : Cx} {wx : WX}
theorem ds_try {mt : List (Str × Bool)} {i : Nat} {n x : Str} {cv : Value} {body suite : List Stmt} {b₀ : Stmt} {g h : SF} {np pos pos' : Pos} (hs : X.stack = X.env :: X.outer) (hf : X.env.frame = some X.env.locals) (hN : X.N.Nodup) (hi : X.N[i]? = some n) (hln : X.env.kindOf n = some .local) (hc : Names X x cv) (tk : Takes X wx)
    (hmt : ∀ (c : Str) (b : Bool) (C : Addr), mt.lookup c = some b → X.mg c = some (.ref C) → PySem.W.exmOne X.K (.ref C) cv = some b)
    (hb : ∀ (Wb : WX) (pn : List (Addr × Obj)) (xe : Value → Shared → Prop), Takes (X.tr pn xe) Wb → PassesOwn (model X.prog X.w) X.A X.env xe → DSs (X.tr pn xe) ⟨none, Wb⟩ body g)
    (hsu : ∀ (a : Addr) (oe : Obj) (cls : Value) (d : Option Addr) (pn : List (Addr × Obj)), Zc cls d oe → (∃ vs, oe.data = .fields vs) → DSs (X.suite a ((a, oe) :: pn)) ⟨some (a, cls, d), fun _ _ _ _ => False⟩ (b₀ :: suite) h) :
    DS X ⟨none, wx⟩ (.Try body [.ExceptHandler (some (.Name x np)) (some n) (b₀ :: suite) pos'] [] [] pos) (tryS mt i g h) := by
  refine PS.weak (ps_try_as (tb := fun Wb => tDS ⟨X.K, X.mg, none⟩ Wb g) (ts := fun a cls d => tDS ⟨X.K, X.mg, some (a, cls, d)⟩ (fun _ _ _ _ => False) h) hs hf hN hi hln hc tk hb hsu) fun Z σ H q => ?_
  obtain ⟨ms, S, ρ, ev, st, p⟩ := q
  refine ⟨ms, S, ρ, ev, st, ?_⟩
  have p : PostS ⟨X.K, X.mg, none⟩ ms H (tryS mt i g h ρ S) Z wx := p
  unfold tryS at p
  cases hg : g ρ S with
  | nx ρ1 S1 => rw [hg] at p; exact p
  | rt d S1 => rw [hg] at p; exact p
  | bk ρ1 S1 => rw [hg] at p; exact p
  | ct ρ1 S1 => rw [hg] at p; exact p
  | bad => rw [hg] at p; exact p
  | exc c ks ds ρ1 S1 =>
    rw [hg] at p
    dsimp only at p
    intro σ1 C dd ms1 H1 f1 s1 ev1 xr
    cases hl : mt.lookup c with
    | none => rw [hl] at p; exact p.elim
    | some b =>
      rw [hl] at p
      refine ⟨b, hmt c b C hl xr.g, ?_, ?_⟩
      · intro eb a ha
        subst eb
        dsimp only at p
        have nS := s1.noX (W := ⟨X.K, X.mg, none⟩) rfl
        have nE := ev1.noX (W := ⟨X.K, X.mg, none⟩) rfl
        obtain ⟨us, ed, ln, rr⟩ := xr.at_
        have r1 : RpL ⟨X.K, X.mg, some (a, .ref C, some dd)⟩ ms1 (era ms1 H1) us ds := RpL.chg (W := ⟨X.K, X.mg, none⟩) (W' := ⟨X.K, X.mg, some (a, .ref C, some dd)⟩) rfl rfl ds us (RpL.noX (W := ⟨X.K, X.mg, none⟩) rfl ds us rr) rr
        have ex : Rp ⟨X.K, X.mg, some (a, .ref C, some dd)⟩ ms1 (era ms1 H1) (.ref a) (.exn c ks ds) := Rp.exn (W := ⟨X.K, X.mg, some (a, .ref C, some dd)⟩) rfl xr.g ed ln r1
        have e0 : Ev ⟨X.K, X.mg, some (a, .ref C, some dd)⟩ ρ1 σ1 ms1 H1 := ev1.chg rfl rfl nE
        refine ⟨ms1, S1, ρ1.set i (some (.exn c ks ds)), e0.set ex i, s1.chg rfl rfl nS, ?_⟩
        have names : ∀ {ρ2 : Nv} {σ2 : St} {ms2 : List Addr} {H2 : Hp}, OkN i ρ1 ρ2 → Ev ⟨X.K, X.mg, some (a, .ref C, some dd)⟩ ρ2 σ2 ms2 H2 → Ev ⟨X.K, X.mg, none⟩ (ρ2.set i none) (σ2.set i none) ms2 H2 := by
          intro ρ2 σ2 ms2 H2 ok e2
          refine (e2.unset i).chg rfl rfl fun j d hj => ?_
          rcases ok j d hj with k | k
          · exact k
          · exact nE j d k
        cases hh : h (ρ1.set i (some (.exn c ks ds))) S1 with
        | bad => rw [hh] at p; exact p.elim
        | exc _ _ _ _ _ => rw [hh] at p; exact p.elim
        | rt d S2 =>
          rw [hh] at p
          dsimp only at p
          split at p
          · rename_i ok
            obtain ⟨rfl, nd⟩ := ok
            exact fun v ms2 H2 f2 s2 r2 => p v ms2 H2 (f1.trans f2) (s2.chg rfl rfl nS) (Rp.chg (W := ⟨X.K, X.mg, some (a, .ref C, some dd)⟩) (W' := ⟨X.K, X.mg, none⟩) rfl rfl d v nd r2)
          · exact p.elim
        | nx ρ2 S2 =>
          rw [hh] at p
          dsimp only at p
          split at p
          · rename_i ok
            obtain ⟨rfl, nd⟩ := ok
            exact fun σ2 ms2 H2 f2 s2 e2 => p _ ms2 H2 (f1.trans f2) (s2.chg rfl rfl nS) (names nd e2)
          · exact p.elim
        | ct ρ2 S2 =>
          rw [hh] at p
          dsimp only at p
          split at p
          · rename_i ok
            obtain ⟨rfl, nd⟩ := ok
            exact fun σ2 ms2 H2 f2 s2 e2 => p _ ms2 H2 (f1.trans f2) (s2.chg rfl rfl nS) (names nd e2)
          · exact p.elim
        | bk ρ2 S2 =>
          rw [hh] at p
          dsimp only at p
          split at p
          · rename_i ok
            obtain ⟨rfl, nd⟩ := ok
            exact fun σ2 ms2 H2 f2 s2 e2 => p _ ms2 H2 (f1.trans f2) (s2.chg rfl rfl nS) (names nd e2)
          · exact p.elim
      · intro eb
        subst eb
        exact p σ1 C dd ms1 H1 f1 s1 ev1 xr
end

end Zd
namespace PySem.W
open PySem PySem.Spec PySem.Calls PyProof.Rows
/-! an exception's class, its dict there or not -/
section
variable {prog : Program} {w : World} {A : Around} {E : Value → Shared → Prop} {s : Shared} {K : Frag} {x D : Addr} {ox : Obj} {od : Option Obj}
theorem zd_bindObj {name : Str} {a g : Value} (h1 : (clsIn K D).isSome = true) (h2 : findIn K (.ref D) name = some (some a)) (h3 : specialIn K a "__get__" = some (some g)) (h4 : takesIn K a = some true) : findObj K D od name = some (.bind g a) := by
  obtain ⟨c, e⟩ := Option.isSome_iff_exists.mp h1
  simp [findObj, e, h2, h3, h4]
theorem zd_class {Q : Option Value → Shared → Prop} (T : L2.ExcC K D) (X : K.In s.heap) (I : InstAt s.heap x ox D od) (k : Q (some (.ref D)) { s with toks := s.toks + 1 }) : wpAny (model prog w) A (getAttr? (.ref x) "__class__") Q E s := by
  have isC : (clsIn K D).isSome = true := by
    obtain ⟨c, e, _⟩ := any_some T.hd
    rw [e]; rfl
  have found := zd_bindObj (od := od) isC T.ha T.hn T.ht
  obtain ⟨hp, gs, dr, t, os⟩ := s
  have look0 := I.type (M := model prog w)
  have look1 := looks_findIn (M := model prog w) X T.hg
  have look2 := looks_findIn (M := model prog w) X T.hk
  have look3 := looks_find (M := model prog w) X I found
  have isB : Looks (model prog w) hp (isInstance (.ref x) (.type "BaseException")) true := look0.andThen (looks_subIn X T.hs)
  have other : (onTheHeap (Value.ref D) && Value.builtin "BaseException.__getattribute__" == Value.builtin "object.__getattribute__") = false := by
    have : (Value.builtin "BaseException.__getattribute__" == Value.builtin "object.__getattribute__") = false := by decide +kernel
    rw [this]; rfl
  have plain : (false && onTheHeap (Value.builtin "BaseException.__getattribute__")) = false := rfl
  unfold getAttr? getAttrBy?
  unfold getAttrBy
  refine wpAny_bind (wpAny_mkText ?_)
  refine wpAny_bind (wpAny_attempt (wpAny_holding ?_))
  refine wpAny_bind (look0.at (wpAny_bind (look1.at ?_)))
  dsimp only
  rw [other]
  rw [if_neg Bool.false_ne_true]
  unfold getAttrByItsOwn
  unfold hookBefore
  refine wpAny_bind ?_
  have heapD : onTheHeap (Value.ref D) = true := rfl
  rw [if_pos heapD]
  refine look2.at (wpAny_bind (wpAny_attempt (wpAny_holding ?_)))
  unfold callGetattribute
  rw [plain]
  rw [if_neg Bool.false_ne_true]
  unfold boundAndCalled
  rw [PySem.F.excAttr_ValueError.ga.bind (.ref x)]
  refine wpAny_bind (wpAny_pure (wpAny_call (codeAny_call_builtin PySem.F.excAttr_ValueError.ga.plain PySem.F.entry_bexc_ga ?_)))
  have args := PySem.F.args_bexc_ga (.ref x) (.str "__class__" t)
  refine @check_slot (model prog w) _ _ ⟨hp, gs, dr, t + 1, os⟩ "BaseException.__getattribute__" "BaseException" "__getattribute__" (.ref x) [.str "__class__" t] [] _ (by decide +kernel) (by decide +kernel) isB args ?_
  unfold Builtin.«object.__getattribute__»
  refine wpAny_bind ?_
  refine wpAny_of_eq (a := ((Value.ref x : Value), [Value.str "__class__" t])) ?_ ?_
  · first
      | rfl
      | (simp only [slotArgs]; rfl)
  refine wpAny_bind (wpAny_pure (wpAny_bind (look0.at (wpAny_bind (look3.at ?_)))))
  refine wpAny_bind (wpAny_holding (wpAny_call (class_get (s := ⟨hp, gs, dr, t + 1, os⟩) X I T.hm (wpAny_pure ?_))))
  show wpAny _ _ (handedOut (Value.ref D)) _ _ _
  have given := handedOut_of (v := .ref D) rfl
  rw [given]
  first
    | exact wpAny_pure (wpAny_pure k)
    | exact wpAny_pure k
    | exact wpAny_pure (wpAny_bind (wpAny_pure (wpAny_pure k)))
theorem zd_kit (T : L2.ExcC K D) : KitX K (.ref x) (.ref D) (fun h => ∃ (ox : Obj) (od : Option Obj), InstAt h x ox D od) where
  ty := fun _ _ _ ⟨_, _, I⟩ => I.type
  it := fun _ _ X _ => by
    obtain ⟨c, e, _⟩ := any_some T.hd
    unfold clsIn at e
    split at e
    · rename_i c1 c2 c3 c4 at_
      intro A1 Q1 E1 s1 keep q
      unfold isType loadHead
      exact wpAny_bind (wpAny_loadPart (keep _ _ (X _ _ at_)) (wpAny_pure q))
    · cases e
  ne := fun h tp dd its n sl X htp => by
    obtain ⟨c, e, _⟩ := any_some T.hd
    cases hq : (Value.ref D == Value.ref tp) with
    | false => rfl
    | true =>
      obtain rfl : D = tp := Value.ref.inj (beq_iff_eq.mp hq)
      unfold clsIn at e
      split at e
      · rename_i c1 c2 c3 c4 at_
        cases (X _ _ at_).symm.trans htp
      · cases e
  ca := fun X ⟨_, _, I⟩ k => zd_class T X I k
end
end PySem.W
namespace Zd
open PySem PySem.Spec L2
open PyProof.Rows hiding St

/-! ### what is asked of a caught exception -/
/-- e.f -/
def xfF (cs : List Str) (f : Str) (fe : EF) : EF := fun ρ S => (fe ρ S).bind fun d S1 => match d with
  | .exn c ks ds => if c ∈ cs then match (ks.zip ds).lookup f with
    | some x => .ok x S1
    | none => .bad else .bad
  | _ => .bad
theorem RpL.lookup {W : Wd} {ms : List Addr} {G : Hp} : ∀ {ks : List Str} {vs : List V} {ds : List D} {f : Str} {d : D}, RpL W ms G vs ds → (ks.zip ds).lookup f = some d → ∃ v, (ks.zip vs).lookup f = some v ∧ Rp W ms G v d
  | [], _, _, _, _, _, h => by cases h
  | k :: ks, _, [], _, _, _, h => by cases h
  | k :: ks, _, x :: ds, f, d, r, h => by
    cases r with
    | @cons v vs _ _ a b =>
      rw [List.zip_cons_cons, List.lookup_cons] at h ⊢
      cases e : f == k with
      | true => rw [e] at h; cases h; exact ⟨v, rfl, a⟩
      | false => rw [e] at h; exact RpL.lookup b h
section
variable {X : Cx}
theorem d_xf {cs : List Str} {f : Str} {a : Addr} {oe : Obj} {cls : Value} {d : Option Addr} {pn : List (Addr × Obj)} {wx : WX} {e : Expr} {fe : EF} {pos : Pos}
    (T : ∀ (c : Str) (C : Addr), c ∈ cs → X.mg c = some (.ref C) → XfC X.K C ∧ PySem.W.findIn X.K (.ref C) f = some none) (hz : Zc cls d oe) (hf : ∃ vs, oe.data = .fields vs)
    (he : DE (X.suite a ((a, oe) :: pn)) ⟨some (a, cls, d), wx⟩ e fe) (hb : attributeBase e f X.env (eval e X.env) = eval e X.env := by rfl) : DE (X.suite a ((a, oe) :: pn)) ⟨some (a, cls, d), wx⟩ (.Attribute e f pos) (xfF cs f fe) := by
  by_cases ex : ∃ (c : Str) (C : Addr), c ∈ cs ∧ X.mg c = some (.ref C) ∧ cls = .ref C
  · obtain ⟨c, C, hc, hm, ec⟩ := ex
    obtain ⟨t1, t2⟩ := T c C hc hm
    refine PE.weak (pe_xf t1 t2 hz hf he hb) fun σ H Q h => ?_
    obtain ⟨ms, S, ρ, ev, st, p⟩ := h
    unfold xfF at p
    refine ⟨ms, S, ρ, ev, st, Post.split p fun x S1 v ms1 H1 _ f1 s1 r1 p1 => ?_⟩
    cases x with
    | exn c' ks ds =>
      dsimp only at p1
      split at p1
      · split at p1
        · rename_i y hy
          cases r1 with
          | @exn a' C' dd _ _ vs _ q1 q2 q3 q4 q5 =>
            obtain ⟨v, e1, r2⟩ := RpL.lookup q5 hy
            have q1 : some (a, cls, d) = some (a', Value.ref C', some dd) := q1
            cases q1
            refine ⟨rfl, ec, dd, ks.zip vs, v, rfl, era_same _ _ _ _ q3, e1, p1 v ms1 H1 (Fut.refl _ _) s1 r2⟩
        · exact p1.elim
      · exact p1.elim
    | _ => exact p1.elim
  · constructor
    intro pins s σ H Q I h
    obtain ⟨ms, S, ρ, ev, st, p⟩ := h
    unfold xfF at p
    refine attr_of hb (thn (he.run pins s σ H (fun _ _ => False) I ⟨ms, S, ρ, ev, st, Post.split p fun x S1 v ms1 H1 _ f1 s1 r1 p1 => ?_⟩) ?_)
    rotate_left
    · rintro u s1 ⟨_, _, _, _, no⟩
      exact no.elim
    cases x with
    | exn c' ks ds =>
      dsimp only at p1
      split at p1
      · rename_i hc
        cases r1 with
        | @exn a' C' dd _ _ vs _ q1 q2 q3 q4 q5 =>
          have q1 : some (a, cls, d) = some (a', Value.ref C', some dd) := q1
          cases q1
          exact absurd ⟨c', C', hc, q2, rfl⟩ ex
      · exact p1.elim
    | _ => exact p1.elim
end

/-- isinstance(e, C), e the caught exception; tab says it of each class -/
def isXF (tab : List (Str × Bool)) (fe : EF) : EF := fun ρ S => (fe ρ S).bind fun d S1 => match d with
  | .exn c _ _ => match tab.lookup c with
    | some b => .ok (.bl b) S1
    | none => .bad
  | _ => .bad
def rIsX (K : PySem.W.Frag) (a : Addr) (cls : Value) : List V → Hp → VK → Prop := fun xs H Q => ∃ (c : V) (cv : Value) (b : Bool) (D : Addr), xs = [.ref a, c] ∧ cls = .ref D ∧ (∀ u, RelV c u → u = cv) ∧ L2.ExcC K D ∧ PySem.W.kitOne K (.ref D) cv = some b ∧ Q (.bl b) H
section
variable {X : Cx}
theorem call_isX {a : Addr} {oe : Obj} {cls : Value} {d : Option Addr} {pn : List (Addr × Obj)} (hz : Zc cls d oe) (hf : ∃ vs, oe.data = .fields vs) (hdict : ∀ (s : Shared) (dd : Addr), d = some dd → ∀ (pins : List (Addr × Obj)) (σ : St) (H : Hp), Inv (X.suite a ((a, oe) :: pn)) pins σ H s → (∃ fs, H dd = some (.xd fs)) → ∃ od, s.heap.get? dd = some od) :
    CallR (X.suite a ((a, oe) :: pn)) (.builtin "isinstance") (fun xs H Q => rIsX X.K a cls xs H Q ∧ ∃ dd, d = some dd ∧ ∃ fs, H dd = some (.xd fs)) := by
  intro pins s σ H xs us Q I r h
  obtain ⟨⟨c, cv, b, D, rfl, rfl, hcv, T, e, q⟩, dd, hd, hx⟩ := h
  obtain ⟨od, hod⟩ := hdict s dd hd pins σ H I hx
  match us, r with
  | [u0, u1], .cons rx (.cons rt .nil) =>
    obtain rfl : u0 = Value.ref a := rx
    obtain rfl := hcv _ rt
    obtain ⟨at_, _⟩ := I.pin (a, oe) (List.mem_append_left _ List.mem_cons_self)
    obtain ⟨vs, hv⟩ := hf
    have J : PySem.W.InstAt s.heap a oe D (some od) := ⟨at_, hz.1, by unfold PySem.W.notCls; rw [hv] <;> rfl, by rw [hz.2, hd]; exact hod⟩
    exact PySem.W.kia_one (PySem.W.zd_kit T) I.kIn ⟨oe, some od, J⟩ e (fun z => nomatch z) fun tk => ⟨.bl b, H, I.kept (t' := tk) fun _ _ z => z, rfl, q⟩
theorem xd_there {pins : List (Addr × Obj)} {σ : St} {H : Hp} {s : Shared} {dd : Addr} (I : Inv X pins σ H s) (h : ∃ fs, H dd = some (.xd fs)) : ∃ od, s.heap.get? dd = some od := by
  obtain ⟨fs, e⟩ := h
  exact objOk_get (I.hok dd _ e)
theorem d_isX {tab : List (Str × Bool)} {a : Addr} {oe : Obj} {cls : Value} {d : Option Addr} {pn : List (Addr × Obj)} {wx : WX} {e : Expr} {fe : EF} {nm : Str} {q p pos : Pos} {c : V} {cv : Value} (hz : Zc cls d oe) (hf : ∃ vs, oe.data = .fields vs)
    (hcn : PE (X.suite a ((a, oe) :: pn)) (.Name nm q) (tC c)) (hcv : ∀ u, RelV c u → u = cv)
    (T : ∀ (x : Str) (b : Bool) (C : Addr), tab.lookup x = some b → X.mg x = some (.ref C) → L2.ExcC X.K C ∧ PySem.W.kitOne X.K (.ref C) cv = some b)
    (hg : Gl X "isinstance") (hm : X.mg "isinstance" = none) (he : DE (X.suite a ((a, oe) :: pn)) ⟨some (a, cls, d), wx⟩ e fe)
    (h1 : starEach [e, .Name nm q] X.env = (false, eval e X.env) :: starEach [.Name nm q] X.env := by rfl) (h2 : starEach [.Name nm q] X.env = (false, eval (.Name nm q) X.env) :: starEach [] X.env := by rfl) (hpl : (backTo pos (starEach [.Name nm q] X.env)).any (·.1) = false := by rfl) :
    DE (X.suite a ((a, oe) :: pn)) ⟨some (a, cls, d), wx⟩ (.Call (.Name "isinstance" p) [e, .Name nm q] [] pos) (isXF tab fe) := by
  refine PE.weak (pe_callB (call_isX hz hf fun s dd _ pins σ H I hx => xd_there I hx) hg hm boot_isinstance (pa_cons he (pa_cons hcn pa_nil h2) h1) (by decide) (by decide) h1 hpl) fun σ H Q h => ?_
  obtain ⟨ms, S, ρ, ev, st, p⟩ := h
  unfold isXF at p
  refine ⟨ms, S, ρ, ev, st, Post.split p fun x S1 v ms1 H1 _ f1 s1 r1 p1 => ?_⟩
  cases x with
  | exn c' ks ds =>
    dsimp only at p1
    split at p1
    · rename_i b hb
      cases r1 with
      | @exn a' C' dd _ _ vs _ q1 q2 q3 q4 q5 =>
        have q1 : some (a, cls, d) = some (a', Value.ref C', some dd) := q1
        cases q1
        obtain ⟨t1, t2⟩ := T c' b C' hb q2
        exact ⟨⟨c, cv, b, C', rfl, rfl, hcv, t1, t2, p1 (.bl b) ms1 H1 (Fut.refl _ _) s1 (.bl b)⟩, dd, rfl, _, era_same _ _ _ _ q3⟩
    · exact p1.elim
  | _ => exact p1.elim
end

/-! ### what the written part says of an exception class -/
structure XRaw (K : PySem.W.Frag) (nm : Str) (C : Addr) : Prop where
  cls : ∃ q N bs bm sn sub ab col dd k0 k1 k2 k3 k5, K.lookup C = some (excClassObj nm q C N bs bm true sn sub ab col dd k0 k1 k2 k3 k5 "ValueError.__new__") ∧ PySem.HandSPX.refsVE bm = true
  sa : PySem.W.findIn K (.ref C) "__setattr__" = some (some (.builtin "object.__setattr__"))
  exC : PySem.W.subIn K (.ref C) (.type "BaseException") = some true
  tyC : PySem.W.typeIn K (.ref C) = some (.type "type")
  kC : PySem.W.keepIn K (.ref C) = true
  ga : PySem.W.findIn K (.ref C) "__getattribute__" = some (some (.builtin "BaseException.__getattribute__"))
  gg : PySem.W.findIn K (.ref C) "__getattr__" = some none
  hd : PySem.W.hasDictIn K C = true
  ca : PySem.W.findIn K (.ref C) "__class__" = some (some (.builtin "object.__class__"))
  mo : PySem.W.mroIn K C (.type "object") = some true
structure XObj (K : PySem.W.Frag) : Prop where
  hn : PySem.W.specialIn K (.builtin "object.__class__") "__get__" = some (some (.builtin "getset_descriptor.__get__"))
  ht : PySem.W.takesIn K (.builtin "object.__class__") = some true
section
variable {K : PySem.W.Frag} {n n' : Str} {C H : Addr}
theorem XRaw.oex (R : XRaw K n C) : OexC K C := by
  obtain ⟨q, N, bs, bm, sn, sub, ab, col, dd, k0, k1, k2, k3, k5, h, r⟩ := R.cls
  exact ⟨⟨n, q, N, bs, bm, sn, sub, ab, col, dd, k0, k1, k2, k3, k5, h, r⟩, R.sa, R.exC, R.tyC, R.kC⟩
theorem XRaw.exc (R : XRaw K n C) (O : XObj K) : L2.ExcC K C := ⟨R.ga, R.gg, R.exC, R.hd, R.ca, O.hn, O.ht, R.mo⟩
theorem XRaw.xf (R : XRaw K n C) : XfC K C := ⟨R.ga, R.gg, R.exC, R.hd⟩
theorem XRaw.exm (R : XRaw K n H) {b : Bool} (s : PySem.W.subIn K (.ref C) (.ref H) = some b) : PySem.W.exmOne K (.ref C) (.ref H) = some b := PySem.W.exm_ref R.exC R.hd R.tyC s
theorem XRaw.name (R : XRaw K n C) (R' : XRaw K n' C) : n = n' := by
  obtain ⟨_, _, _, _, _, _, _, _, _, _, _, _, _, _, h, _⟩ := R.cls
  obtain ⟨_, _, _, _, _, _, _, _, _, _, _, _, _, _, h', _⟩ := R'.cls
  have e := Option.some.inj (h.symm.trans h')
  injection e with _ _ e3 _
  injection e3 with e4
  injection e4
theorem XRaw.kit (R1 : XRaw K n C) (R2 : XRaw K n' H) {b : Bool} (hn : b = true ∨ n ≠ n') (s : PySem.W.subIn K (.ref C) (.ref H) = some b) : PySem.W.kitOne K (.ref C) (.ref H) = some b := by
  have step : PySem.W.kitCls K (.ref C) (.ref H) = some b := by
    have e := R2.exm (C := C) s
    unfold PySem.W.exmOne at e
    rw [R2.exC] at e
    rw [if_pos (by rfl)] at e
    exact e
  unfold PySem.W.kitOne
  by_cases h : (Value.ref C == Value.ref H) = true
  · rw [if_pos h]
    rcases hn with hb | hn
    · rw [hb]
    · obtain rfl : C = H := Value.ref.inj (beq_iff_eq.mp h)
      exact absurd (R1.name R2) hn
  · rw [if_neg h]; exact step
theorem kit_ve {b : Bool} (s : PySem.W.subIn K (.ref C) (.type "ValueError") = some b) : PySem.W.kitOne K (.ref C) (.type "ValueError") = some b := by
  have m : PySem.W.kitMeta "ValueError" = true := by decide +kernel
  unfold PySem.W.kitOne
  rw [if_neg (by simp)]
  show (if PySem.W.kitMeta "ValueError" = true then PySem.W.subIn K (.ref C) (.type "ValueError") else none) = some b
  rw [if_pos m]; exact s
/-- a table of classes, entry by entry -/
theorem tab_nil {mg : Str → Option Value} {R : Addr → Bool → Prop} : ∀ (c : Str) (b : Bool) (C : Addr), ([] : List (Str × Bool)).lookup c = some b → mg c = some (.ref C) → R C b := fun _ _ _ h => by cases h
theorem tab_cons {mg : Str → Option Value} {R : Addr → Bool → Prop} {c0 : Str} {b0 : Bool} {C0 : Addr} {l : List (Str × Bool)} (hm : mg c0 = some (.ref C0)) (h0 : R C0 b0) (hr : ∀ (c : Str) (b : Bool) (C : Addr), l.lookup c = some b → mg c = some (.ref C) → R C b) :
    ∀ (c : Str) (b : Bool) (C : Addr), ((c0, b0) :: l).lookup c = some b → mg c = some (.ref C) → R C b := by
  intro c b C h m
  rw [List.lookup_cons] at h
  cases e : c == c0 with
  | true =>
    rw [e] at h
    cases h
    obtain rfl := beq_iff_eq.mp e
    rw [hm] at m
    cases m
    exact h0
  | false => rw [e] at h; exact hr c b C h m
theorem mem_nil {mg : Str → Option Value} {R : Addr → Prop} : ∀ (c : Str) (C : Addr), c ∈ ([] : List Str) → mg c = some (.ref C) → R C := fun _ _ h => by cases h
theorem mem_cons {mg : Str → Option Value} {R : Addr → Prop} {c0 : Str} {C0 : Addr} {l : List Str} (hm : mg c0 = some (.ref C0)) (h0 : R C0) (hr : ∀ (c : Str) (C : Addr), c ∈ l → mg c = some (.ref C) → R C) :
    ∀ (c : Str) (C : Addr), c ∈ c0 :: l → mg c = some (.ref C) → R C := by
  intro c C h m
  rcases List.mem_cons.mp h with rfl | h
  · rw [hm] at m; cases m; exact h0
  · exact hr c C h m
end
end Zd

set_option Elab.async false
set_option linter.all false
set_option maxRecDepth 100000
set_option maxHeartbeats 4000000
set_option autoImplicit false
/-! wheelchorus.numbers: is_number, blocks, row_of, goes_ahead. -/
namespace Zd
open PySem PySem.Spec L2
open PyProof.Rows hiding St
/-! is_number: 0 thing, 1 total, 2 sign -/
noncomputable def g_is_number : SF := (seqS (ifS (orB (notB (tstF (isiF "str" (varE 0)))) (notB (tstF (chnF leD leD (cE (.int 1)) (appF lenD (consF (varE 0) nilF)) (cE (.int 4)))))) (retS (cE (.bl false))) nxS)
  (seqS (setS 1 (cE (.int 0)))
  (seqS (forS (itF anyI (varE 0)) (nmG 2) (seqS (ifS (tstF (binF notInD (varE 2) (cE (.str "123456789")))) (retS (cE (.bl false))) nxS)
  (augS 1 iaddD (binF addD (mthF "str" sindexD (cE (.str "123456789")) (consF (varE 2) nilF)) (cE (.int 1))))))
  (retS (binF leD (varE 1) (cE (.int 24)))))))
noncomputable def F_is_number : DFun := fnF 3 g_is_number
/-! check_number: 0 thing -/
noncomputable def g_check_number : SF := (ifS (notB (tstF (callF 1 F_is_number (consF (varE 0) nilF)))) (raiseS "BadNumber" ["number"] (consF (varE 0) nilF)) nxS)
noncomputable def F_check_number : DFun := fnF 1 g_check_number
/-! blocks: 0 number, 1 sign -/
noncomputable def g_blocks : SF := (seqS (dropS (callF 1 F_check_number (consF (varE 0) nilF)))
  (retS (appF tupleD (consF (compG finF [1] (itF anyI (varE 0)) (nmG 1) yesB (appF intD (consF (varE 1) nilF))) nilF))))
noncomputable def F_blocks : DFun := fnF 2 g_blocks
/-! row_of: 0 number, 1 row, 2 size -/
noncomputable def g_row_of : SF := (seqS (setS 1 (ownF nilF))
  (seqS (forS (itF anyI (callF 1 F_blocks (consF (varE 0) nilF))) (nmG 2) (seqS (dropS (mthF "list" extendD (varE 1) (consF (binF mulD (lstF (consF (cE (.int 1)) (consF (cE (.int 0)) nilF))) (varE 2)) nilF)))
  (dropS (mthF "list" extendD (varE 1) (consF (lstF (consF (cE (.int 0)) (consF (cE (.int 0)) nilF))) nilF)))))
  (seqS (dropS (mthF "list" extendD (varE 1) (consF (lstF (consF (cE (.int 0)) (consF (cE (.int 0)) nilF))) nilF)))
  (retS (appF tupleD (consF (varE 1) nilF))))))
noncomputable def F_row_of : DFun := fnF 3 g_row_of
/-! goes_ahead: 0 one, 1 other, 2 first, 3 second, 4 mine, 5 its -/
noncomputable def g_goes_ahead : SF := (seqS (setS 2 (callF 1 F_row_of (consF (varE 0) nilF)))
  (seqS (setS 3 (callF 1 F_row_of (consF (varE 1) nilF)))
  (seqS (forS (itA zipI (consF (varE 2) (consF (varE 3) nilF))) (tupG 2 (consG (nmG 4) (consG (nmG 5) nilG))) (ifS (tstF (binF neD (varE 4) (varE 5))) (retS (binF eqD (varE 4) (cE (.int 1)))) nxS))
  (retS (cE (.bl false))))))
noncomputable def F_goes_ahead : DFun := fnF 6 g_goes_ahead

/-! ### is_number -/
/-- a text that is a number -/
def okSign (c : Nat) : Bool := decide (49 ≤ c) && decide (c ≤ 57)
def numB (z : Str) : Bool := decide (1 ≤ z.length) && decide (z.length ≤ 4) && z.cps.toList.all okSign && decide ((z.cps.toList.map fun (c : Nat) => (c : Int) - 48).sum ≤ 24)
theorem mem_digits (c : Nat) : c ∈ (("123456789" : Str).cps.toList) ↔ okSign c = true := by
  rw [show (("123456789" : Str).cps.toList) = [49, 50, 51, 52, 53, 54, 55, 56, 57] by decide +kernel]
  simp [okSign]
  omega
theorem index_digit {c : Nat} (h : okSign c = true) : Txt.index0 "123456789" (⟨#[c]⟩ : Str) = some (c - 49) := by
  have : c = 49 ∨ c = 50 ∨ c = 51 ∨ c = 52 ∨ c = 53 ∨ c = 54 ∨ c = 55 ∨ c = 56 ∨ c = 57 := by simp [okSign] at h; omega
  rcases this with rfl | rfl | rfl | rfl | rfl | rfl | rfl | rfl | rfl <;> decide +kernel
theorem int_digit {c : Nat} (h : okSign c = true) : PySem.intText? (⟨#[c]⟩ : Str) = some ((c : Int) - 48) := by
  have : c = 49 ∨ c = 50 ∨ c = 51 ∨ c = 52 ∨ c = 53 ∨ c = 54 ∨ c = 55 ∨ c = 56 ∨ c = 57 := by simp [okSign] at h; omega
  rcases this with rfl | rfl | rfl | rfl | rfl | rfl | rfl | rfl | rfl <;> decide +kernel
noncomputable def isnBody : SF := (seqS (ifS (tstF (binF notInD (varE 2) (cE (.str "123456789")))) (retS (cE (.bl false))) nxS)
  (augS 1 iaddD (binF addD (mthF "str" sindexD (cE (.str "123456789")) (consF (varE 2) nilF)) (cE (.int 1)))))
theorem isn_loop (z : D) (S : Sto) : ∀ (cs : List Nat) (t : Int) (u : Option D),
    (cs.all okSign = true ∧ ∃ v, forL (nmG 2) isnBody (cs.map fun c => D.str ⟨#[c]⟩) [some z, some (.int t), u] S = .nx [some z, some (.int (t + (cs.map fun (c : Nat) => (c : Int) - 48).sum)), v] S) ∨
    (cs.all okSign = false ∧ forL (nmG 2) isnBody (cs.map fun c => D.str ⟨#[c]⟩) [some z, some (.int t), u] S = .rt (.bl false) S)
  | [], t, u => .inl ⟨rfl, u, by simp [forL]⟩
  | c :: cs, t, u => by
    cases hc : okSign c with
    | false =>
      right
      refine ⟨by simp [hc], ?_⟩
      have hm : ¬ c ∈ (("123456789" : Str).cps.toList) := by rw [mem_digits, hc]; simp
      rw [List.map_cons, forL]
      simp only [Bd, seqS, setS, retS, retN, dropS, ifS, forS, putS, augS, nxS, bkS, ctS, SR.seq_nx, SR.seq_rt, SR.seq_exc, SR.seq_bk, SR.seq_ct, SR.turn_nx, SR.turn_ct, SR.turn_bk, SR.turn_rt, SR.turn_exc, R.bind_ok, R.bind_bad, R.bind_exc, R.bindN_ok, R.st_ok, R.st_exc,
 varE, cE, binF, tstF, chnF, andB, orB, notB, andV, orV, notV, ifE, nilF, consF, tupF, lstF, ownF, negF, noO, someO, slF, callF, appF, isiF, mthF, itF, itA, nmG, nilG, consG, tupG, yesB, wipeD,
 addD_ii, addD_ss, addD_ll, subD_ii, mulD_ii, mulD_li, mulD_si, fdivD_ii, modD_ii, powD_10_18, ltD_ii, leD_ii, gtD_ii, geD_ii, gtD_ss, ltD_ss, eqD_ii, eqD_ss, eqD_bb, neD_ii, neD_ss, isBD_bb, isND_non, isND_int, isND_str, notND_non, notND_int, notND_str, lenD_s, lenD_l, lenD_r, lenD_t, lenD_c, min2D_ii, max2D_ii, intD_i, intD_b, strD_i, sumD_l, sumD_c, sumD_t, maxD_c, tupleD_l, tupleD_t, tupleD_c, listD_l, listD_t,
 ixD_l, ixD_r, ixD_t, ixD_s, ixD_c, slD_s, slD_l, slD_r, putIx_c, appendD_c, extendD_cl, isTy_c, isTy_s, isTy_l, iaddD, atI_0, atI_1, atI_2, atI_3, atI_4, low_int, low_str, low_bl, low_non, anyI_l, anyI_r, anyI_t, anyI_s, rng1I_i, rng2I_ii, ixN5, set_concat, get_concat, take_concat, len_concat, notInD_cs, inD_cs, sindexD_s, intD_s, tyN_s, tyN_i, tyN_b, tyN_n, tyN_t, tyN_l, tyIs_t, zipI_tt,
 startD, List.map_cons, List.map_nil, List.length_cons, List.length_nil, List.cons_append, List.nil_append, List.getElem?_cons_zero, List.getElem?_cons_succ, List.set_cons_zero, List.set_cons_succ, List.replicate_succ, List.replicate_zero, Option.bind_some, if_true, if_false, Bool.true_and, Bool.false_and, Bool.and_true, Bool.not_true, Bool.not_false, decide_true, decide_false, eq_self, Nat.zero_add, Nat.reduceAdd, Nat.reduceSub, reduceIte, reduceCtorEq, Int.reduceEq, Bool.false_eq_true, true_and, and_true, true_or, or_true, decide_eq_true_eq, isnBody, hm]
    | true =>
      have hm : c ∈ (("123456789" : Str).cps.toList) := by rw [mem_digits, hc]
      have hs : isTy "str" (D.str "123456789") S = true := rfl
      have h49 : 49 ≤ c := by simp [okSign] at hc; omega
      have e1 : forL (nmG 2) isnBody ((c :: cs).map fun c => D.str ⟨#[c]⟩) [some z, some (.int t), u] S = forL (nmG 2) isnBody (cs.map fun c => D.str ⟨#[c]⟩) [some z, some (.int (t + (((c - 49 : Nat) : Int) + 1))), some (.str ⟨#[c]⟩)] S := by
        rw [List.map_cons, forL]
        simp only [Bd, seqS, setS, retS, retN, dropS, ifS, forS, putS, augS, nxS, bkS, ctS, SR.seq_nx, SR.seq_rt, SR.seq_exc, SR.seq_bk, SR.seq_ct, SR.turn_nx, SR.turn_ct, SR.turn_bk, SR.turn_rt, SR.turn_exc, R.bind_ok, R.bind_bad, R.bind_exc, R.bindN_ok, R.st_ok, R.st_exc,
 varE, cE, binF, tstF, chnF, andB, orB, notB, andV, orV, notV, ifE, nilF, consF, tupF, lstF, ownF, negF, noO, someO, slF, callF, appF, isiF, mthF, itF, itA, nmG, nilG, consG, tupG, yesB, wipeD,
 addD_ii, addD_ss, addD_ll, subD_ii, mulD_ii, mulD_li, mulD_si, fdivD_ii, modD_ii, powD_10_18, ltD_ii, leD_ii, gtD_ii, geD_ii, gtD_ss, ltD_ss, eqD_ii, eqD_ss, eqD_bb, neD_ii, neD_ss, isBD_bb, isND_non, isND_int, isND_str, notND_non, notND_int, notND_str, lenD_s, lenD_l, lenD_r, lenD_t, lenD_c, min2D_ii, max2D_ii, intD_i, intD_b, strD_i, sumD_l, sumD_c, sumD_t, maxD_c, tupleD_l, tupleD_t, tupleD_c, listD_l, listD_t,
 ixD_l, ixD_r, ixD_t, ixD_s, ixD_c, slD_s, slD_l, slD_r, putIx_c, appendD_c, extendD_cl, isTy_c, isTy_s, isTy_l, iaddD, atI_0, atI_1, atI_2, atI_3, atI_4, low_int, low_str, low_bl, low_non, anyI_l, anyI_r, anyI_t, anyI_s, rng1I_i, rng2I_ii, ixN5, set_concat, get_concat, take_concat, len_concat, notInD_cs, inD_cs, sindexD_s, intD_s, tyN_s, tyN_i, tyN_b, tyN_n, tyN_t, tyN_l, tyIs_t, zipI_tt,
 startD, List.map_cons, List.map_nil, List.length_cons, List.length_nil, List.cons_append, List.nil_append, List.getElem?_cons_zero, List.getElem?_cons_succ, List.set_cons_zero, List.set_cons_succ, List.replicate_succ, List.replicate_zero, Option.bind_some, if_true, if_false, Bool.true_and, Bool.false_and, Bool.and_true, Bool.not_true, Bool.not_false, decide_true, decide_false, eq_self, Nat.zero_add, Nat.reduceAdd, Nat.reduceSub, reduceIte, reduceCtorEq, Int.reduceEq, Bool.false_eq_true, true_and, and_true, true_or, or_true, decide_eq_true_eq, isnBody, hm, hs, index_digit hc]
      rw [e1]
      rcases isn_loop z S cs (t + (((c - 49 : Nat) : Int) + 1)) (some (.str ⟨#[c]⟩)) with ⟨h1, v, h2⟩ | ⟨h1, h2⟩
      · refine .inl ⟨by simp [hc, h1], v, ?_⟩
        rw [h2]
        congr 5
        rw [List.map_cons, List.sum_cons]
        omega
      · exact .inr ⟨by simp [hc, h1], h2⟩
theorem is_number_str (z : Str) (S : Sto) (hz : NLe z.length sizeLine) : F_is_number [.str z] S = .ok (.bl (numB z)) S := by
  unfold F_is_number fnF g_is_number
  by_cases h1 : (1 : Int) ≤ (z.length : Nat)
  · by_cases h4 : ((z.length : Nat) : Int) ≤ 4
    · rcases isn_loop (.str z) S z.cps.toList 0 none with ⟨h5, v, h6⟩ | ⟨h5, h6⟩
      · have e : numB z = decide ((z.cps.toList.map fun (c : Nat) => (c : Int) - 48).sum ≤ 24) := by
          unfold numB; rw [decide_eq_true (show 1 ≤ z.length by omega), decide_eq_true (show z.length ≤ 4 by omega), h5]; rfl
        unfold isnBody at h6
        simp only [Bd, seqS, setS, retS, retN, dropS, ifS, forS, putS, augS, nxS, bkS, ctS, SR.seq_nx, SR.seq_rt, SR.seq_exc, SR.seq_bk, SR.seq_ct, SR.turn_nx, SR.turn_ct, SR.turn_bk, SR.turn_rt, SR.turn_exc, R.bind_ok, R.bind_bad, R.bind_exc, R.bindN_ok, R.st_ok, R.st_exc,
 varE, cE, binF, tstF, chnF, andB, orB, notB, andV, orV, notV, ifE, nilF, consF, tupF, lstF, ownF, negF, noO, someO, slF, callF, appF, isiF, mthF, itF, itA, nmG, nilG, consG, tupG, yesB, wipeD,
 addD_ii, addD_ss, addD_ll, subD_ii, mulD_ii, mulD_li, mulD_si, fdivD_ii, modD_ii, powD_10_18, ltD_ii, leD_ii, gtD_ii, geD_ii, gtD_ss, ltD_ss, eqD_ii, eqD_ss, eqD_bb, neD_ii, neD_ss, isBD_bb, isND_non, isND_int, isND_str, notND_non, notND_int, notND_str, lenD_s, lenD_l, lenD_r, lenD_t, lenD_c, min2D_ii, max2D_ii, intD_i, intD_b, strD_i, sumD_l, sumD_c, sumD_t, maxD_c, tupleD_l, tupleD_t, tupleD_c, listD_l, listD_t,
 ixD_l, ixD_r, ixD_t, ixD_s, ixD_c, slD_s, slD_l, slD_r, putIx_c, appendD_c, extendD_cl, isTy_c, isTy_s, isTy_l, iaddD, atI_0, atI_1, atI_2, atI_3, atI_4, low_int, low_str, low_bl, low_non, anyI_l, anyI_r, anyI_t, anyI_s, rng1I_i, rng2I_ii, ixN5, set_concat, get_concat, take_concat, len_concat, notInD_cs, inD_cs, sindexD_s, intD_s, tyN_s, tyN_i, tyN_b, tyN_n, tyN_t, tyN_l, tyIs_t, zipI_tt,
 startD, List.map_cons, List.map_nil, List.length_cons, List.length_nil, List.cons_append, List.nil_append, List.getElem?_cons_zero, List.getElem?_cons_succ, List.set_cons_zero, List.set_cons_succ, List.replicate_succ, List.replicate_zero, Option.bind_some, if_true, if_false, Bool.true_and, Bool.false_and, Bool.and_true, Bool.not_true, Bool.not_false, decide_true, decide_false, eq_self, Nat.zero_add, Nat.reduceAdd, Nat.reduceSub, reduceIte, reduceCtorEq, Int.reduceEq, Bool.false_eq_true, true_and, and_true, true_or, or_true, decide_eq_true_eq, hz, h1, h4, h6, leave_rt, fz_bl, List.take_length, e, Int.zero_add]
      · have e : numB z = false := by unfold numB; rw [h5]; simp
        unfold isnBody at h6
        simp only [Bd, seqS, setS, retS, retN, dropS, ifS, forS, putS, augS, nxS, bkS, ctS, SR.seq_nx, SR.seq_rt, SR.seq_exc, SR.seq_bk, SR.seq_ct, SR.turn_nx, SR.turn_ct, SR.turn_bk, SR.turn_rt, SR.turn_exc, R.bind_ok, R.bind_bad, R.bind_exc, R.bindN_ok, R.st_ok, R.st_exc,
 varE, cE, binF, tstF, chnF, andB, orB, notB, andV, orV, notV, ifE, nilF, consF, tupF, lstF, ownF, negF, noO, someO, slF, callF, appF, isiF, mthF, itF, itA, nmG, nilG, consG, tupG, yesB, wipeD,
 addD_ii, addD_ss, addD_ll, subD_ii, mulD_ii, mulD_li, mulD_si, fdivD_ii, modD_ii, powD_10_18, ltD_ii, leD_ii, gtD_ii, geD_ii, gtD_ss, ltD_ss, eqD_ii, eqD_ss, eqD_bb, neD_ii, neD_ss, isBD_bb, isND_non, isND_int, isND_str, notND_non, notND_int, notND_str, lenD_s, lenD_l, lenD_r, lenD_t, lenD_c, min2D_ii, max2D_ii, intD_i, intD_b, strD_i, sumD_l, sumD_c, sumD_t, maxD_c, tupleD_l, tupleD_t, tupleD_c, listD_l, listD_t,
 ixD_l, ixD_r, ixD_t, ixD_s, ixD_c, slD_s, slD_l, slD_r, putIx_c, appendD_c, extendD_cl, isTy_c, isTy_s, isTy_l, iaddD, atI_0, atI_1, atI_2, atI_3, atI_4, low_int, low_str, low_bl, low_non, anyI_l, anyI_r, anyI_t, anyI_s, rng1I_i, rng2I_ii, ixN5, set_concat, get_concat, take_concat, len_concat, notInD_cs, inD_cs, sindexD_s, intD_s, tyN_s, tyN_i, tyN_b, tyN_n, tyN_t, tyN_l, tyIs_t, zipI_tt,
 startD, List.map_cons, List.map_nil, List.length_cons, List.length_nil, List.cons_append, List.nil_append, List.getElem?_cons_zero, List.getElem?_cons_succ, List.set_cons_zero, List.set_cons_succ, List.replicate_succ, List.replicate_zero, Option.bind_some, if_true, if_false, Bool.true_and, Bool.false_and, Bool.and_true, Bool.not_true, Bool.not_false, decide_true, decide_false, eq_self, Nat.zero_add, Nat.reduceAdd, Nat.reduceSub, reduceIte, reduceCtorEq, Int.reduceEq, Bool.false_eq_true, true_and, and_true, true_or, or_true, decide_eq_true_eq, hz, h1, h4, h6, leave_rt, fz_bl, List.take_length, e]
    · have e : numB z = false := by unfold numB; rw [decide_eq_false (show ¬ z.length ≤ 4 by omega)]; simp
      simp only [Bd, seqS, setS, retS, retN, dropS, ifS, forS, putS, augS, nxS, bkS, ctS, SR.seq_nx, SR.seq_rt, SR.seq_exc, SR.seq_bk, SR.seq_ct, SR.turn_nx, SR.turn_ct, SR.turn_bk, SR.turn_rt, SR.turn_exc, R.bind_ok, R.bind_bad, R.bind_exc, R.bindN_ok, R.st_ok, R.st_exc,
 varE, cE, binF, tstF, chnF, andB, orB, notB, andV, orV, notV, ifE, nilF, consF, tupF, lstF, ownF, negF, noO, someO, slF, callF, appF, isiF, mthF, itF, itA, nmG, nilG, consG, tupG, yesB, wipeD,
 addD_ii, addD_ss, addD_ll, subD_ii, mulD_ii, mulD_li, mulD_si, fdivD_ii, modD_ii, powD_10_18, ltD_ii, leD_ii, gtD_ii, geD_ii, gtD_ss, ltD_ss, eqD_ii, eqD_ss, eqD_bb, neD_ii, neD_ss, isBD_bb, isND_non, isND_int, isND_str, notND_non, notND_int, notND_str, lenD_s, lenD_l, lenD_r, lenD_t, lenD_c, min2D_ii, max2D_ii, intD_i, intD_b, strD_i, sumD_l, sumD_c, sumD_t, maxD_c, tupleD_l, tupleD_t, tupleD_c, listD_l, listD_t,
 ixD_l, ixD_r, ixD_t, ixD_s, ixD_c, slD_s, slD_l, slD_r, putIx_c, appendD_c, extendD_cl, isTy_c, isTy_s, isTy_l, iaddD, atI_0, atI_1, atI_2, atI_3, atI_4, low_int, low_str, low_bl, low_non, anyI_l, anyI_r, anyI_t, anyI_s, rng1I_i, rng2I_ii, ixN5, set_concat, get_concat, take_concat, len_concat, notInD_cs, inD_cs, sindexD_s, intD_s, tyN_s, tyN_i, tyN_b, tyN_n, tyN_t, tyN_l, tyIs_t, zipI_tt,
 startD, List.map_cons, List.map_nil, List.length_cons, List.length_nil, List.cons_append, List.nil_append, List.getElem?_cons_zero, List.getElem?_cons_succ, List.set_cons_zero, List.set_cons_succ, List.replicate_succ, List.replicate_zero, Option.bind_some, if_true, if_false, Bool.true_and, Bool.false_and, Bool.and_true, Bool.not_true, Bool.not_false, decide_true, decide_false, eq_self, Nat.zero_add, Nat.reduceAdd, Nat.reduceSub, reduceIte, reduceCtorEq, Int.reduceEq, Bool.false_eq_true, true_and, and_true, true_or, or_true, decide_eq_true_eq, hz, h1, h4, leave_rt, fz_bl, List.take_length, e]
  · have e : numB z = false := by unfold numB; rw [decide_eq_false (show ¬ 1 ≤ z.length by omega)]; simp
    simp only [Bd, seqS, setS, retS, retN, dropS, ifS, forS, putS, augS, nxS, bkS, ctS, SR.seq_nx, SR.seq_rt, SR.seq_exc, SR.seq_bk, SR.seq_ct, SR.turn_nx, SR.turn_ct, SR.turn_bk, SR.turn_rt, SR.turn_exc, R.bind_ok, R.bind_bad, R.bind_exc, R.bindN_ok, R.st_ok, R.st_exc,
 varE, cE, binF, tstF, chnF, andB, orB, notB, andV, orV, notV, ifE, nilF, consF, tupF, lstF, ownF, negF, noO, someO, slF, callF, appF, isiF, mthF, itF, itA, nmG, nilG, consG, tupG, yesB, wipeD,
 addD_ii, addD_ss, addD_ll, subD_ii, mulD_ii, mulD_li, mulD_si, fdivD_ii, modD_ii, powD_10_18, ltD_ii, leD_ii, gtD_ii, geD_ii, gtD_ss, ltD_ss, eqD_ii, eqD_ss, eqD_bb, neD_ii, neD_ss, isBD_bb, isND_non, isND_int, isND_str, notND_non, notND_int, notND_str, lenD_s, lenD_l, lenD_r, lenD_t, lenD_c, min2D_ii, max2D_ii, intD_i, intD_b, strD_i, sumD_l, sumD_c, sumD_t, maxD_c, tupleD_l, tupleD_t, tupleD_c, listD_l, listD_t,
 ixD_l, ixD_r, ixD_t, ixD_s, ixD_c, slD_s, slD_l, slD_r, putIx_c, appendD_c, extendD_cl, isTy_c, isTy_s, isTy_l, iaddD, atI_0, atI_1, atI_2, atI_3, atI_4, low_int, low_str, low_bl, low_non, anyI_l, anyI_r, anyI_t, anyI_s, rng1I_i, rng2I_ii, ixN5, set_concat, get_concat, take_concat, len_concat, notInD_cs, inD_cs, sindexD_s, intD_s, tyN_s, tyN_i, tyN_b, tyN_n, tyN_t, tyN_l, tyIs_t, zipI_tt,
 startD, List.map_cons, List.map_nil, List.length_cons, List.length_nil, List.cons_append, List.nil_append, List.getElem?_cons_zero, List.getElem?_cons_succ, List.set_cons_zero, List.set_cons_succ, List.replicate_succ, List.replicate_zero, Option.bind_some, if_true, if_false, Bool.true_and, Bool.false_and, Bool.and_true, Bool.not_true, Bool.not_false, decide_true, decide_false, eq_self, Nat.zero_add, Nat.reduceAdd, Nat.reduceSub, reduceIte, reduceCtorEq, Int.reduceEq, Bool.false_eq_true, true_and, and_true, true_or, or_true, decide_eq_true_eq, hz, h1, leave_rt, fz_bl, List.take_length, e]
theorem numS_okSign {ds : List Nat} (h : ∀ d ∈ ds, 1 ≤ d ∧ d ≤ 9) : (ds.map fun d => 48 + d).all okSign = true := by
  rw [List.all_map, List.all_eq_true]
  intro d hd
  have := h d hd
  simp [okSign]; omega
theorem numS_vals (ds : List Nat) : ((ds.map fun d => 48 + d).map fun (c : Nat) => (c : Int) - 48) = ds.map fun (d : Nat) => (d : Int) := by
  rw [List.map_map]; apply List.map_congr_left; intro d _; simp; omega
theorem sum_cast (ds : List Nat) : (ds.map fun (d : Nat) => (d : Int)).sum = ((ds.sum : Nat) : Int) := by
  induction ds with
  | nil => rfl
  | cons a l ih => rw [List.map_cons, List.sum_cons, ih, List.sum_cons]; omega
theorem numB_num {ds : List Nat} (h : IsNum ds) : numB (numS ds) = true := by
  unfold numB
  rw [numS_len, numS_list, numS_okSign h.dig, numS_vals, sum_cast]
  have := h.pos; have := h.few; have := h.sum
  simp; omega
theorem numS_short {ds : List Nat} (h : IsNum ds) : NLe (numS ds).length sizeLine := sizeLine_big (by rw [numS_len]; have := h.few; omega)
theorem is_number_num {ds : List Nat} (h : IsNum ds) (S : Sto) : F_is_number [.str (numS ds)] S = .ok (.bl true) S := by rw [is_number_str _ S (numS_short h), numB_num h]
theorem check_num {ds : List Nat} (h : IsNum ds) (S : Sto) : F_check_number [.str (numS ds)] S = .ok .non S := by
  unfold F_check_number fnF g_check_number
  simp only [Bd, seqS, setS, retS, retN, dropS, ifS, forS, putS, augS, nxS, bkS, ctS, SR.seq_nx, SR.seq_rt, SR.seq_exc, SR.seq_bk, SR.seq_ct, SR.turn_nx, SR.turn_ct, SR.turn_bk, SR.turn_rt, SR.turn_exc, R.bind_ok, R.bind_bad, R.bind_exc, R.bindN_ok, R.st_ok, R.st_exc,
 varE, cE, binF, tstF, chnF, andB, orB, notB, andV, orV, notV, ifE, nilF, consF, tupF, lstF, ownF, negF, noO, someO, slF, callF, appF, isiF, mthF, itF, itA, nmG, nilG, consG, tupG, yesB, wipeD,
 addD_ii, addD_ss, addD_ll, subD_ii, mulD_ii, mulD_li, mulD_si, fdivD_ii, modD_ii, powD_10_18, ltD_ii, leD_ii, gtD_ii, geD_ii, gtD_ss, ltD_ss, eqD_ii, eqD_ss, eqD_bb, neD_ii, neD_ss, isBD_bb, isND_non, isND_int, isND_str, notND_non, notND_int, notND_str, lenD_s, lenD_l, lenD_r, lenD_t, lenD_c, min2D_ii, max2D_ii, intD_i, intD_b, strD_i, sumD_l, sumD_c, sumD_t, maxD_c, tupleD_l, tupleD_t, tupleD_c, listD_l, listD_t,
 ixD_l, ixD_r, ixD_t, ixD_s, ixD_c, slD_s, slD_l, slD_r, putIx_c, appendD_c, extendD_cl, isTy_c, isTy_s, isTy_l, iaddD, atI_0, atI_1, atI_2, atI_3, atI_4, low_int, low_str, low_bl, low_non, anyI_l, anyI_r, anyI_t, anyI_s, rng1I_i, rng2I_ii, ixN5, set_concat, get_concat, take_concat, len_concat, notInD_cs, inD_cs, sindexD_s, intD_s, tyN_s, tyN_i, tyN_b, tyN_n, tyN_t, tyN_l, tyIs_t, zipI_tt,
 startD, List.map_cons, List.map_nil, List.length_cons, List.length_nil, List.cons_append, List.nil_append, List.getElem?_cons_zero, List.getElem?_cons_succ, List.set_cons_zero, List.set_cons_succ, List.replicate_succ, List.replicate_zero, Option.bind_some, if_true, if_false, Bool.true_and, Bool.false_and, Bool.and_true, Bool.not_true, Bool.not_false, decide_true, decide_false, eq_self, Nat.zero_add, Nat.reduceAdd, Nat.reduceSub, reduceIte, reduceCtorEq, Int.reduceEq, Bool.false_eq_true, true_and, and_true, true_or, or_true, decide_eq_true_eq, is_number_num h, leave_nx, List.take_length]

/-! ### blocks, rows -/
/-- a text's signs as data -/
def signsD (ds : List Nat) : List D := ds.map fun d => D.str ⟨#[48 + d]⟩
theorem signs_num (ds : List Nat) : ((numS ds).cps.toList.map fun c => D.str ⟨#[c]⟩) = signsD ds := by rw [numS_list, List.map_map]; rfl
theorem int_sign {d : Nat} (h : 1 ≤ d ∧ d ≤ 9) : PySem.intText? (⟨#[48 + d]⟩ : Str) = some (d : Int) := by
  rw [int_digit (by simp [okSign]; omega)]; congr 1; omega
/-- [int(sign) for sign in number] -/
theorem ints_num {vs : List Nat} {i j : Nat} {ρ : Nv} {S : Sto} {ds : List Nat} (h : ∀ d ∈ ds, 1 ≤ d ∧ d ≤ 9) (hl : ds.length ≤ 1000000) (hv : ρ[i]? = some (some (.str (numS ds)))) (hj : j < (wipeD ρ vs).length) :
    compG finF vs (itF anyI (varE i)) (nmG j) yesB (appF intD (consF (varE j) nilF)) ρ S = .ok (.lst (ds.map fun d => D.int (d : Nat))) S := by
  have hi : (itF anyI (varE i)) ρ S = .ok (signsD ds) S := by simp only [Bd, seqS, setS, retS, retN, dropS, ifS, forS, putS, augS, nxS, bkS, ctS, SR.seq_nx, SR.seq_rt, SR.seq_exc, SR.seq_bk, SR.seq_ct, SR.turn_nx, SR.turn_ct, SR.turn_bk, SR.turn_rt, SR.turn_exc, R.bind_ok, R.bind_bad, R.bind_exc, R.bindN_ok, R.st_ok, R.st_exc,
 varE, cE, binF, tstF, chnF, andB, orB, notB, andV, orV, notV, ifE, nilF, consF, tupF, lstF, ownF, negF, noO, someO, slF, callF, appF, isiF, mthF, itF, itA, nmG, nilG, consG, tupG, yesB, wipeD,
 addD_ii, addD_ss, addD_ll, subD_ii, mulD_ii, mulD_li, mulD_si, fdivD_ii, modD_ii, powD_10_18, ltD_ii, leD_ii, gtD_ii, geD_ii, gtD_ss, ltD_ss, eqD_ii, eqD_ss, eqD_bb, neD_ii, neD_ss, isBD_bb, isND_non, isND_int, isND_str, notND_non, notND_int, notND_str, lenD_s, lenD_l, lenD_r, lenD_t, lenD_c, min2D_ii, max2D_ii, intD_i, intD_b, strD_i, sumD_l, sumD_c, sumD_t, maxD_c, tupleD_l, tupleD_t, tupleD_c, listD_l, listD_t,
 ixD_l, ixD_r, ixD_t, ixD_s, ixD_c, slD_s, slD_l, slD_r, putIx_c, appendD_c, extendD_cl, isTy_c, isTy_s, isTy_l, iaddD, atI_0, atI_1, atI_2, atI_3, atI_4, low_int, low_str, low_bl, low_non, anyI_l, anyI_r, anyI_t, anyI_s, rng1I_i, rng2I_ii, ixN5, set_concat, get_concat, take_concat, len_concat, notInD_cs, inD_cs, sindexD_s, intD_s, tyN_s, tyN_i, tyN_b, tyN_n, tyN_t, tyN_l, tyIs_t, zipI_tt,
 startD, List.map_cons, List.map_nil, List.length_cons, List.length_nil, List.cons_append, List.nil_append, List.getElem?_cons_zero, List.getElem?_cons_succ, List.set_cons_zero, List.set_cons_succ, List.replicate_succ, List.replicate_zero, Option.bind_some, if_true, if_false, Bool.true_and, Bool.false_and, Bool.and_true, Bool.not_true, Bool.not_false, decide_true, decide_false, eq_self, Nat.zero_add, Nat.reduceAdd, Nat.reduceSub, reduceIte, reduceCtorEq, Int.reduceEq, Bool.false_eq_true, true_and, and_true, true_or, or_true, decide_eq_true_eq, hv, signs_num]
  have := compF_all (vs := vs) (g := nmG j) (fe := appF intD (consF (varE j) nilF)) (fun d => match d with | .str ⟨⟨[c]⟩⟩ => .int ((c : Int) - 48) | d => d) hi (by rw [signsD, List.length_map]; exact sizeLine_big hl) (fun d hd acc => by
    obtain ⟨c, hc, rfl⟩ := List.mem_map.mp hd
    have hz : NLe (⟨#[48 + c]⟩ : Str).length 640 := by show (⟨#[48 + c]⟩ : Str).length ≤ 640; simp [Str.length]
    refine ⟨_, rfl, ?_, rfl⟩
    have hg : ((wipeD ρ vs).set j (some (.str ⟨#[48 + c]⟩)))[j]? = some (some (.str ⟨#[48 + c]⟩)) := List.getElem?_set_self hj
    simp only [appF, consF, nilF, varE, hg, R.bind_ok, intD_s, int_sign (h c hc), hz, if_true]
    congr 2
    show (c : Int) = ((48 + c : Nat) : Int) - 48
    omega)
  rw [this]
  congr 2
  rw [signsD, List.map_map]
  apply List.map_congr_left
  intro d _
  show D.int (((48 + d : Nat) : Int) - 48) = D.int d
  congr 1
  omega
theorem blocks_num {ds : List Nat} (h : IsNum ds) (S : Sto) : F_blocks [.str (numS ds)] S = .ok (.tup (ds.map fun d => D.int (d : Nat))) S := by
  unfold F_blocks fnF g_blocks
  have hc := ints_num (vs := [1]) (i := 0) (j := 1) (ρ := [some (.str (numS ds)), none]) (S := S) h.dig (by have := h.few; omega) rfl (by simp [wipeD])
  simp only [Bd, seqS, setS, retS, retN, dropS, ifS, forS, putS, augS, nxS, bkS, ctS, SR.seq_nx, SR.seq_rt, SR.seq_exc, SR.seq_bk, SR.seq_ct, SR.turn_nx, SR.turn_ct, SR.turn_bk, SR.turn_rt, SR.turn_exc, R.bind_ok, R.bind_bad, R.bind_exc, R.bindN_ok, R.st_ok, R.st_exc,
 varE, cE, binF, tstF, chnF, andB, orB, notB, andV, orV, notV, ifE, nilF, consF, tupF, lstF, ownF, negF, noO, someO, slF, callF, appF, isiF, mthF, itF, itA, nmG, nilG, consG, tupG, yesB, wipeD,
 addD_ii, addD_ss, addD_ll, subD_ii, mulD_ii, mulD_li, mulD_si, fdivD_ii, modD_ii, powD_10_18, ltD_ii, leD_ii, gtD_ii, geD_ii, gtD_ss, ltD_ss, eqD_ii, eqD_ss, eqD_bb, neD_ii, neD_ss, isBD_bb, isND_non, isND_int, isND_str, notND_non, notND_int, notND_str, lenD_s, lenD_l, lenD_r, lenD_t, lenD_c, min2D_ii, max2D_ii, intD_i, intD_b, strD_i, sumD_l, sumD_c, sumD_t, maxD_c, tupleD_l, tupleD_t, tupleD_c, listD_l, listD_t,
 ixD_l, ixD_r, ixD_t, ixD_s, ixD_c, slD_s, slD_l, slD_r, putIx_c, appendD_c, extendD_cl, isTy_c, isTy_s, isTy_l, iaddD, atI_0, atI_1, atI_2, atI_3, atI_4, low_int, low_str, low_bl, low_non, anyI_l, anyI_r, anyI_t, anyI_s, rng1I_i, rng2I_ii, ixN5, set_concat, get_concat, take_concat, len_concat, notInD_cs, inD_cs, sindexD_s, intD_s, tyN_s, tyN_i, tyN_b, tyN_n, tyN_t, tyN_l, tyIs_t, zipI_tt,
 startD, List.map_cons, List.map_nil, List.length_cons, List.length_nil, List.cons_append, List.nil_append, List.getElem?_cons_zero, List.getElem?_cons_succ, List.set_cons_zero, List.set_cons_succ, List.replicate_succ, List.replicate_zero, Option.bind_some, if_true, if_false, Bool.true_and, Bool.false_and, Bool.and_true, Bool.not_true, Bool.not_false, decide_true, decide_false, eq_self, Nat.zero_add, Nat.reduceAdd, Nat.reduceSub, reduceIte, reduceCtorEq, Int.reduceEq, Bool.false_eq_true, true_and, and_true, true_or, or_true, decide_eq_true_eq, check_num h, hc, leave_rt, fz_tup, fz_ints, List.take_length]
/-- the row of digits -/
def rowB (d : Nat) : List Int := (List.replicate d [1, 0]).flatten ++ [0, 0]
def rowN (ds : List Nat) : List Int := ds.flatMap rowB ++ [0, 0]
theorem rowB_len (d : Nat) : (rowB d).length = 2 * d + 2 := by
  simp [rowB]; omega
theorem rowN_len (ds : List Nat) : (rowN ds).length = 2 * (ds.sum + ds.length + 1) := by
  unfold rowN
  rw [List.length_append, List.length_flatMap]
  induction ds with
  | nil => rfl
  | cons d ds ih => simp [rowB_len] at ih ⊢; omega
theorem rep_ints (n : Nat) : (List.replicate n [D.int 1, D.int 0]).flatten = ((List.replicate n [(1 : Int), 0]).flatten).map D.int := by
  induction n with
  | zero => rfl
  | succ n ih => rw [List.replicate_succ, List.flatten_cons, ih, List.replicate_succ, List.flatten_cons, List.map_append]; rfl
noncomputable def rowBody : SF := (seqS (dropS (mthF "list" extendD (varE 1) (consF (binF mulD (lstF (consF (cE (.int 1)) (consF (cE (.int 0)) nilF))) (varE 2)) nilF)))
  (dropS (mthF "list" extendD (varE 1) (consF (lstF (consF (cE (.int 0)) (consF (cE (.int 0)) nilF))) nilF))))
theorem row_loop (z : D) (S : Sto) (ds : List Nat) : ∀ (acc : List Int) (u : Option D), acc.length + (ds.flatMap rowB).length ≤ 1000000 → (∀ d ∈ ds, d ≤ 9) →
    ∃ v, forL (nmG 2) rowBody (ds.map fun d => D.int (d : Nat)) [some z, some (.cell S.length), u] (S ++ [.lst (acc.map D.int)]) = .nx [some z, some (.cell S.length), v] (S ++ [.lst ((acc ++ ds.flatMap rowB).map D.int)]) := by
  induction ds with
  | nil => exact fun acc u _ _ => ⟨u, by simp [forL]⟩
  | cons d ds ih =>
    intro acc u hl h9
    have hd := h9 d List.mem_cons_self
    rw [List.flatMap_cons, List.length_append, rowB_len] at hl
    obtain ⟨v, e⟩ := ih (acc ++ rowB d) (some (.int (d : Nat))) (by rw [List.length_append, rowB_len]; omega) (fun x hx => h9 x (List.mem_cons_of_mem _ hx))
    refine ⟨v, ?_⟩
    rw [List.flatMap_cons, ← List.append_assoc, ← e, List.map_cons]
    have l1 : ((List.replicate d [(1 : Int), 0]).flatten).length = 2 * d := by simp; omega
    have e1 : binF mulD (lstF (consF (cE (.int 1)) (consF (cE (.int 0)) nilF))) (varE 2) [some z, some (.cell S.length), some (.int (d : Nat))] (S ++ [.lst (acc.map D.int)]) = .ok (.lst (((List.replicate d [(1 : Int), 0]).flatten).map D.int)) (S ++ [.lst (acc.map D.int)]) := by
      have c1 : -(2 ^ 63) ≤ (d : Int) ∧ (d : Int) < 2 ^ 63 ∧ [D.int 1, D.int 0].length * (d : Int).toNat ≤ sizeLine := ⟨by omega, by omega, sizeLine_big (by simp; omega)⟩
      have e2 : mulD (.lst [D.int 1, D.int 0]) (.int (d : Nat)) (S ++ [.lst (acc.map D.int)]) = .ok (.lst (((List.replicate d [(1 : Int), 0]).flatten).map D.int)) (S ++ [.lst (acc.map D.int)]) := by
        rw [mulD_li, if_pos (show Bd _ from c1), Int.toNat_natCast, rep_ints]
      have s2 : NLe 2 sizeLine := sizeLine_big (by decide)
      simp only [binF, lstF, consF, cE, nilF, varE, R.bind_ok, List.length_cons, List.length_nil, Nat.zero_add, Nat.reduceAdd, s2, if_true, List.getElem?_cons_succ, List.getElem?_cons_zero, e2]
    have e3 := own_extend (ρ := [some z, some (.cell S.length), some (.int (d : Nat))]) (i := 1) (S := S) rfl e1 (lowL_ints _ _) (sizeLine_big (by rw [List.length_map, List.length_map, l1]; omega))
    have e4 : lstF (consF (cE (.int 0)) (consF (cE (.int 0)) nilF)) [some z, some (.cell S.length), some (.int (d : Nat))] (S ++ [.lst (acc.map D.int ++ ((List.replicate d [(1 : Int), 0]).flatten).map D.int)]) = .ok (.lst [.int 0, .int 0]) (S ++ [.lst (acc.map D.int ++ ((List.replicate d [(1 : Int), 0]).flatten).map D.int)]) := by
      have s2 : NLe 2 sizeLine := sizeLine_big (by decide)
      simp only [lstF, consF, cE, nilF, R.bind_ok, List.length_cons, List.length_nil, Nat.zero_add, Nat.reduceAdd, s2, if_true]
    have e5 := own_extend (ρ := [some z, some (.cell S.length), some (.int (d : Nat))]) (i := 1) (S := S) rfl e4 rfl (sizeLine_big (by rw [List.length_append, List.length_map, List.length_map, l1]; simp; omega))
    have e6 : rowBody [some z, some (.cell S.length), some (.int (d : Nat))] (S ++ [.lst (acc.map D.int)]) = .nx [some z, some (.cell S.length), some (.int (d : Nat))] (S ++ [.lst ((acc ++ rowB d).map D.int)]) := by
      unfold rowBody seqS
      rw [e3, SR.seq_nx, e5]
      have e : acc.map D.int ++ ((List.replicate d [(1 : Int), 0]).flatten).map D.int ++ [D.int 0, D.int 0] = (acc ++ rowB d).map D.int := by simp [rowB]
      rw [e]
    rw [forL_cons (ρ1 := [some z, some (.cell S.length), some (.int (d : Nat))]) rfl, e6, SR.turn_nx]
theorem map_ints (ds : List Nat) : (ds.map fun d => D.int (d : Nat)) = (ds.map fun (d : Nat) => (d : Int)).map D.int := by rw [List.map_map]; rfl
theorem row_of_num {ds : List Nat} (h : IsNum ds) (S : Sto) : F_row_of [.str (numS ds)] S = .ok (.tup ((rowN ds).map D.int)) S := by
  unfold F_row_of fnF g_row_of
  have hlen : (ds.flatMap rowB).length ≤ 100 := by
    have := rowN_len ds
    unfold rowN at this
    rw [List.length_append] at this
    have := h.sum; have := h.few
    simp at *; omega
  obtain ⟨v, e⟩ := row_loop (.str (numS ds)) S ds [] none (by simp at hlen ⊢; omega) (fun d hd => (h.dig d hd).2)
  unfold rowBody at e
  have s0 : NLe 0 sizeLine := Nat.zero_le _
  have s2 : NLe 2 sizeLine := sizeLine_big (by decide)
  have c3 : NLe (((ds.flatMap rowB).map D.int).length + 2) sizeLine := sizeLine_big (by rw [List.length_map]; omega)
  have k2 : lowL S.length [D.int 0, D.int 0] = true := rfl
  rw [List.map_nil, List.nil_append] at e
  simp only [Bd, seqS, setS, retS, retN, dropS, ifS, forS, putS, augS, nxS, bkS, ctS, SR.seq_nx, SR.seq_rt, SR.seq_exc, SR.seq_bk, SR.seq_ct, SR.turn_nx, SR.turn_ct, SR.turn_bk, SR.turn_rt, SR.turn_exc, R.bind_ok, R.bind_bad, R.bind_exc, R.bindN_ok, R.st_ok, R.st_exc,
 varE, cE, binF, tstF, chnF, andB, orB, notB, andV, orV, notV, ifE, nilF, consF, tupF, lstF, ownF, negF, noO, someO, slF, callF, appF, isiF, mthF, itF, itA, nmG, nilG, consG, tupG, yesB, wipeD,
 addD_ii, addD_ss, addD_ll, subD_ii, mulD_ii, mulD_li, mulD_si, fdivD_ii, modD_ii, powD_10_18, ltD_ii, leD_ii, gtD_ii, geD_ii, gtD_ss, ltD_ss, eqD_ii, eqD_ss, eqD_bb, neD_ii, neD_ss, isBD_bb, isND_non, isND_int, isND_str, notND_non, notND_int, notND_str, lenD_s, lenD_l, lenD_r, lenD_t, lenD_c, min2D_ii, max2D_ii, intD_i, intD_b, strD_i, sumD_l, sumD_c, sumD_t, maxD_c, tupleD_l, tupleD_t, tupleD_c, listD_l, listD_t,
 ixD_l, ixD_r, ixD_t, ixD_s, ixD_c, slD_s, slD_l, slD_r, putIx_c, appendD_c, extendD_cl, isTy_c, isTy_s, isTy_l, iaddD, atI_0, atI_1, atI_2, atI_3, atI_4, low_int, low_str, low_bl, low_non, anyI_l, anyI_r, anyI_t, anyI_s, rng1I_i, rng2I_ii, ixN5, set_concat, get_concat, take_concat, len_concat, notInD_cs, inD_cs, sindexD_s, intD_s, tyN_s, tyN_i, tyN_b, tyN_n, tyN_t, tyN_l, tyIs_t, zipI_tt,
 startD, List.map_cons, List.map_nil, List.length_cons, List.length_nil, List.cons_append, List.nil_append, List.getElem?_cons_zero, List.getElem?_cons_succ, List.set_cons_zero, List.set_cons_succ, List.replicate_succ, List.replicate_zero, Option.bind_some, if_true, if_false, Bool.true_and, Bool.false_and, Bool.and_true, Bool.not_true, Bool.not_false, decide_true, decide_false, eq_self, Nat.zero_add, Nat.reduceAdd, Nat.reduceSub, reduceIte, reduceCtorEq, Int.reduceEq, Bool.false_eq_true, true_and, and_true, true_or, or_true, decide_eq_true_eq, s0, s2, blocks_num h, e, beq_self_eq_true, k2, c3, leave_rt, fz_tup, rowN, List.map_append]
  rw [fz_mapint]
  simp only [fz_int]
end Zd

set_option Elab.async false
set_option linter.all false
set_option maxRecDepth 100000
set_option maxHeartbeats 4000000
set_option autoImplicit false
/-! Rows compared: who goes ahead; texts cut. -/
namespace Zd
open PySem PySem.Spec L2
open PyProof.Rows hiding St

/-! ### two rows: where they differ first -/
inductive Apart : List Int → List Int → Prop where
  | le {p u v : List Int} : Apart (p ++ 0 :: u) (p ++ 1 :: v)
theorem Apart.pre {a b : List Int} (q : List Int) (h : Apart a b) : Apart (q ++ a) (q ++ b) := by
  cases h with | le => rw [← List.append_assoc, ← List.append_assoc]; exact .le
theorem rowN_nil : rowN [] = [0, 0] := rfl
theorem rowN_cons (d : Nat) (ds : List Nat) : rowN (d :: ds) = (List.replicate d [(1 : Int), 0]).flatten ++ ([0, 0] ++ rowN ds) := by
  unfold rowN; rw [List.flatMap_cons]; unfold rowB; simp
theorem rep_lt : ∀ {x y : Nat} (_ : x < y) (u v : List Int), Apart ((List.replicate x [(1 : Int), 0]).flatten ++ ([0, 0] ++ u)) ((List.replicate y [(1 : Int), 0]).flatten ++ v)
  | 0, y + 1, _, u, v => by
    rw [List.replicate_zero, List.flatten_nil, List.nil_append, List.replicate_succ, List.flatten_cons]
    exact Apart.le (p := [])
  | x + 1, y + 1, h, u, v => by
    rw [List.replicate_succ, List.flatten_cons, List.replicate_succ, List.flatten_cons, List.append_assoc, List.append_assoc]
    exact (rep_lt (Nat.lt_of_succ_lt_succ h) u v).pre [1, 0]
/-- the order of the texts -/
def txt (ds : List Nat) : List Nat := ds.map fun d => 48 + d
theorem rows_apart : ∀ (a b : List Nat), (∀ d ∈ a, 1 ≤ d) → (∀ d ∈ b, 1 ≤ d) → a = b ∨ (Apart (rowN a) (rowN b) ∧ txt a < txt b) ∨ (Apart (rowN b) (rowN a) ∧ txt b < txt a)
  | [], [], _, _ => .inl rfl
  | [], y :: b, _, hb => by
    refine .inr (.inl ⟨?_, List.nil_lt_cons _ _⟩)
    have := hb y List.mem_cons_self
    rw [rowN_cons, rowN_nil]
    have h := rep_lt (x := 0) (y := y) (by omega) [] ([0, 0] ++ rowN b)
    simpa using h
  | x :: a, [], ha, _ => by
    refine .inr (.inr ⟨?_, List.nil_lt_cons _ _⟩)
    have := ha x List.mem_cons_self
    rw [rowN_cons, rowN_nil]
    have h := rep_lt (x := 0) (y := x) (by omega) [] ([0, 0] ++ rowN a)
    simpa using h
  | x :: a, y :: b, ha, hb => by
    rcases Nat.lt_trichotomy x y with h | h | h
    · refine .inr (.inl ⟨?_, ?_⟩)
      · rw [rowN_cons, rowN_cons]; exact rep_lt h _ _
      · exact List.cons_lt_cons_iff.mpr (.inl (Nat.add_lt_add_left h 48))
    · subst h
      rcases rows_apart a b (fun d hd => ha d (List.mem_cons_of_mem _ hd)) (fun d hd => hb d (List.mem_cons_of_mem _ hd)) with h | ⟨h, g⟩ | ⟨h, g⟩
      · exact .inl (by rw [h])
      · refine .inr (.inl ⟨?_, List.cons_lt_cons_iff.mpr (.inr ⟨rfl, g⟩)⟩)
        rw [rowN_cons, rowN_cons]; exact (h.pre _).pre _
      · refine .inr (.inr ⟨?_, List.cons_lt_cons_iff.mpr (.inr ⟨rfl, g⟩)⟩)
        rw [rowN_cons, rowN_cons]; exact (h.pre _).pre _
    · refine .inr (.inr ⟨?_, ?_⟩)
      · rw [rowN_cons, rowN_cons]; exact rep_lt h _ _
      · exact List.cons_lt_cons_iff.mpr (.inl (Nat.add_lt_add_left h 48))

/-! ### goes_ahead -/
noncomputable def gaBody : SF := (ifS (tstF (binF neD (varE 4) (varE 5))) (retS (binF eqD (varE 4) (cE (.int 1)))) nxS)
theorem ga_step {a b c d : D} {S : Sto} (x y : Int) (ds : List D) (u v : Option D) : forL (tupG 2 (consG (nmG 4) (consG (nmG 5) nilG))) gaBody (D.tup [.int x, .int y] :: ds) [some a, some b, some c, some d, u, v] S =
    if x = y then forL (tupG 2 (consG (nmG 4) (consG (nmG 5) nilG))) gaBody ds [some a, some b, some c, some d, some (.int x), some (.int y)] S else .rt (.bl (decide (x = 1))) S := by
  rw [forL_cons (ρ1 := [some a, some b, some c, some d, some (.int x), some (.int y)]) rfl]
  by_cases h : x = y
  · rw [if_pos h]
    simp only [Bd, seqS, setS, retS, retN, dropS, ifS, forS, putS, augS, nxS, bkS, ctS, SR.seq_nx, SR.seq_rt, SR.seq_exc, SR.seq_bk, SR.seq_ct, SR.turn_nx, SR.turn_ct, SR.turn_bk, SR.turn_rt, SR.turn_exc, R.bind_ok, R.bind_bad, R.bind_exc, R.bindN_ok, R.st_ok, R.st_exc,
 varE, cE, binF, tstF, chnF, andB, orB, notB, andV, orV, notV, ifE, nilF, consF, tupF, lstF, ownF, negF, noO, someO, slF, callF, appF, isiF, mthF, itF, itA, nmG, nilG, consG, tupG, yesB, wipeD,
 addD_ii, addD_ss, addD_ll, subD_ii, mulD_ii, mulD_li, mulD_si, fdivD_ii, modD_ii, powD_10_18, ltD_ii, leD_ii, gtD_ii, geD_ii, gtD_ss, ltD_ss, eqD_ii, eqD_ss, eqD_bb, neD_ii, neD_ss, isBD_bb, isND_non, isND_int, isND_str, notND_non, notND_int, notND_str, lenD_s, lenD_l, lenD_r, lenD_t, lenD_c, min2D_ii, max2D_ii, intD_i, intD_b, strD_i, sumD_l, sumD_c, sumD_t, maxD_c, tupleD_l, tupleD_t, tupleD_c, listD_l, listD_t,
 ixD_l, ixD_r, ixD_t, ixD_s, ixD_c, slD_s, slD_l, slD_r, putIx_c, appendD_c, extendD_cl, isTy_c, isTy_s, isTy_l, iaddD, atI_0, atI_1, atI_2, atI_3, atI_4, low_int, low_str, low_bl, low_non, anyI_l, anyI_r, anyI_t, anyI_s, rng1I_i, rng2I_ii, ixN5, set_concat, get_concat, take_concat, len_concat, notInD_cs, inD_cs, sindexD_s, intD_s, tyN_s, tyN_i, tyN_b, tyN_n, tyN_t, tyN_l, tyIs_t, zipI_tt,
 startD, List.map_cons, List.map_nil, List.length_cons, List.length_nil, List.cons_append, List.nil_append, List.getElem?_cons_zero, List.getElem?_cons_succ, List.set_cons_zero, List.set_cons_succ, List.replicate_succ, List.replicate_zero, Option.bind_some, if_true, if_false, Bool.true_and, Bool.false_and, Bool.and_true, Bool.not_true, Bool.not_false, decide_true, decide_false, eq_self, Nat.zero_add, Nat.reduceAdd, Nat.reduceSub, reduceIte, reduceCtorEq, Int.reduceEq, Bool.false_eq_true, true_and, and_true, true_or, or_true, decide_eq_true_eq, gaBody, eq_true h]
  · rw [if_neg h]
    simp only [Bd, seqS, setS, retS, retN, dropS, ifS, forS, putS, augS, nxS, bkS, ctS, SR.seq_nx, SR.seq_rt, SR.seq_exc, SR.seq_bk, SR.seq_ct, SR.turn_nx, SR.turn_ct, SR.turn_bk, SR.turn_rt, SR.turn_exc, R.bind_ok, R.bind_bad, R.bind_exc, R.bindN_ok, R.st_ok, R.st_exc,
 varE, cE, binF, tstF, chnF, andB, orB, notB, andV, orV, notV, ifE, nilF, consF, tupF, lstF, ownF, negF, noO, someO, slF, callF, appF, isiF, mthF, itF, itA, nmG, nilG, consG, tupG, yesB, wipeD,
 addD_ii, addD_ss, addD_ll, subD_ii, mulD_ii, mulD_li, mulD_si, fdivD_ii, modD_ii, powD_10_18, ltD_ii, leD_ii, gtD_ii, geD_ii, gtD_ss, ltD_ss, eqD_ii, eqD_ss, eqD_bb, neD_ii, neD_ss, isBD_bb, isND_non, isND_int, isND_str, notND_non, notND_int, notND_str, lenD_s, lenD_l, lenD_r, lenD_t, lenD_c, min2D_ii, max2D_ii, intD_i, intD_b, strD_i, sumD_l, sumD_c, sumD_t, maxD_c, tupleD_l, tupleD_t, tupleD_c, listD_l, listD_t,
 ixD_l, ixD_r, ixD_t, ixD_s, ixD_c, slD_s, slD_l, slD_r, putIx_c, appendD_c, extendD_cl, isTy_c, isTy_s, isTy_l, iaddD, atI_0, atI_1, atI_2, atI_3, atI_4, low_int, low_str, low_bl, low_non, anyI_l, anyI_r, anyI_t, anyI_s, rng1I_i, rng2I_ii, ixN5, set_concat, get_concat, take_concat, len_concat, notInD_cs, inD_cs, sindexD_s, intD_s, tyN_s, tyN_i, tyN_b, tyN_n, tyN_t, tyN_l, tyIs_t, zipI_tt,
 startD, List.map_cons, List.map_nil, List.length_cons, List.length_nil, List.cons_append, List.nil_append, List.getElem?_cons_zero, List.getElem?_cons_succ, List.set_cons_zero, List.set_cons_succ, List.replicate_succ, List.replicate_zero, Option.bind_some, if_true, if_false, Bool.true_and, Bool.false_and, Bool.and_true, Bool.not_true, Bool.not_false, decide_true, decide_false, eq_self, Nat.zero_add, Nat.reduceAdd, Nat.reduceSub, reduceIte, reduceCtorEq, Int.reduceEq, Bool.false_eq_true, true_and, and_true, true_or, or_true, decide_eq_true_eq, gaBody, h]
def zipD (a b : List Int) : List D := List.zipWith (fun x y => D.tup [x, y]) (a.map D.int) (b.map D.int)
theorem ga_same {a b c d : D} {S : Sto} : ∀ (l : List Int) (u v : Option D), ∃ u' v', forL (tupG 2 (consG (nmG 4) (consG (nmG 5) nilG))) gaBody (zipD l l) [some a, some b, some c, some d, u, v] S = .nx [some a, some b, some c, some d, u', v'] S
  | [], u, v => ⟨u, v, rfl⟩
  | x :: l, u, v => by
    obtain ⟨u', v', e⟩ := ga_same l (some (.int x)) (some (.int x))
    refine ⟨u', v', ?_⟩
    show forL _ _ (D.tup [.int x, .int x] :: zipD l l) _ _ = _
    rw [ga_step, if_pos rfl]
    exact e
theorem ga_apart {a b c d : D} {S : Sto} {x y : Int} (hxy : x ≠ y) (s t : List Int) : ∀ (p : List Int) (u v : Option D), forL (tupG 2 (consG (nmG 4) (consG (nmG 5) nilG))) gaBody (zipD (p ++ x :: s) (p ++ y :: t)) [some a, some b, some c, some d, u, v] S = .rt (.bl (decide (x = 1))) S
  | [], u, v => by
    show forL _ _ (D.tup [.int x, .int y] :: zipD s t) _ _ = _
    rw [ga_step, if_neg hxy]
  | z :: p, u, v => by
    show forL _ _ (D.tup [.int z, .int z] :: zipD (p ++ x :: s) (p ++ y :: t)) _ _ = _
    rw [ga_step, if_pos rfl]
    exact ga_apart hxy s t p _ _
theorem ahead_same {a : List Nat} (ha : IsNum a) (S : Sto) : F_goes_ahead [.str (numS a), .str (numS a)] S = .ok (.bl false) S := by
  unfold F_goes_ahead fnF g_goes_ahead
  obtain ⟨u', v', e⟩ := ga_same (a := .str (numS a)) (b := .str (numS a)) (c := .tup ((rowN a).map D.int)) (d := .tup ((rowN a).map D.int)) (S := S) (rowN a) none none
  unfold gaBody zipD at e
  simp only [Bd, seqS, setS, retS, retN, dropS, ifS, forS, putS, augS, nxS, bkS, ctS, SR.seq_nx, SR.seq_rt, SR.seq_exc, SR.seq_bk, SR.seq_ct, SR.turn_nx, SR.turn_ct, SR.turn_bk, SR.turn_rt, SR.turn_exc, R.bind_ok, R.bind_bad, R.bind_exc, R.bindN_ok, R.st_ok, R.st_exc,
 varE, cE, binF, tstF, chnF, andB, orB, notB, andV, orV, notV, ifE, nilF, consF, tupF, lstF, ownF, negF, noO, someO, slF, callF, appF, isiF, mthF, itF, itA, nmG, nilG, consG, tupG, yesB, wipeD,
 addD_ii, addD_ss, addD_ll, subD_ii, mulD_ii, mulD_li, mulD_si, fdivD_ii, modD_ii, powD_10_18, ltD_ii, leD_ii, gtD_ii, geD_ii, gtD_ss, ltD_ss, eqD_ii, eqD_ss, eqD_bb, neD_ii, neD_ss, isBD_bb, isND_non, isND_int, isND_str, notND_non, notND_int, notND_str, lenD_s, lenD_l, lenD_r, lenD_t, lenD_c, min2D_ii, max2D_ii, intD_i, intD_b, strD_i, sumD_l, sumD_c, sumD_t, maxD_c, tupleD_l, tupleD_t, tupleD_c, listD_l, listD_t,
 ixD_l, ixD_r, ixD_t, ixD_s, ixD_c, slD_s, slD_l, slD_r, putIx_c, appendD_c, extendD_cl, isTy_c, isTy_s, isTy_l, iaddD, atI_0, atI_1, atI_2, atI_3, atI_4, low_int, low_str, low_bl, low_non, anyI_l, anyI_r, anyI_t, anyI_s, rng1I_i, rng2I_ii, ixN5, set_concat, get_concat, take_concat, len_concat, notInD_cs, inD_cs, sindexD_s, intD_s, tyN_s, tyN_i, tyN_b, tyN_n, tyN_t, tyN_l, tyIs_t, zipI_tt,
 startD, List.map_cons, List.map_nil, List.length_cons, List.length_nil, List.cons_append, List.nil_append, List.getElem?_cons_zero, List.getElem?_cons_succ, List.set_cons_zero, List.set_cons_succ, List.replicate_succ, List.replicate_zero, Option.bind_some, if_true, if_false, Bool.true_and, Bool.false_and, Bool.and_true, Bool.not_true, Bool.not_false, decide_true, decide_false, eq_self, Nat.zero_add, Nat.reduceAdd, Nat.reduceSub, reduceIte, reduceCtorEq, Int.reduceEq, Bool.false_eq_true, true_and, and_true, true_or, or_true, decide_eq_true_eq, row_of_num ha, e, leave_rt, fz_bl, List.take_length]
theorem ahead_apart {a b : List Nat} (ha : IsNum a) (hb : IsNum b) (S : Sto) {x y : Int} {p s t : List Int} (hxy : x ≠ y) (e1 : rowN a = p ++ x :: s) (e2 : rowN b = p ++ y :: t) :
    F_goes_ahead [.str (numS a), .str (numS b)] S = .ok (.bl (decide (x = 1))) S := by
  unfold F_goes_ahead fnF g_goes_ahead
  have e := ga_apart (a := .str (numS a)) (b := .str (numS b)) (c := .tup ((rowN a).map D.int)) (d := .tup ((rowN b).map D.int)) (S := S) hxy s t p none none
  rw [← e1, ← e2] at e
  unfold gaBody zipD at e
  simp only [Bd, seqS, setS, retS, retN, dropS, ifS, forS, putS, augS, nxS, bkS, ctS, SR.seq_nx, SR.seq_rt, SR.seq_exc, SR.seq_bk, SR.seq_ct, SR.turn_nx, SR.turn_ct, SR.turn_bk, SR.turn_rt, SR.turn_exc, R.bind_ok, R.bind_bad, R.bind_exc, R.bindN_ok, R.st_ok, R.st_exc,
 varE, cE, binF, tstF, chnF, andB, orB, notB, andV, orV, notV, ifE, nilF, consF, tupF, lstF, ownF, negF, noO, someO, slF, callF, appF, isiF, mthF, itF, itA, nmG, nilG, consG, tupG, yesB, wipeD,
 addD_ii, addD_ss, addD_ll, subD_ii, mulD_ii, mulD_li, mulD_si, fdivD_ii, modD_ii, powD_10_18, ltD_ii, leD_ii, gtD_ii, geD_ii, gtD_ss, ltD_ss, eqD_ii, eqD_ss, eqD_bb, neD_ii, neD_ss, isBD_bb, isND_non, isND_int, isND_str, notND_non, notND_int, notND_str, lenD_s, lenD_l, lenD_r, lenD_t, lenD_c, min2D_ii, max2D_ii, intD_i, intD_b, strD_i, sumD_l, sumD_c, sumD_t, maxD_c, tupleD_l, tupleD_t, tupleD_c, listD_l, listD_t,
 ixD_l, ixD_r, ixD_t, ixD_s, ixD_c, slD_s, slD_l, slD_r, putIx_c, appendD_c, extendD_cl, isTy_c, isTy_s, isTy_l, iaddD, atI_0, atI_1, atI_2, atI_3, atI_4, low_int, low_str, low_bl, low_non, anyI_l, anyI_r, anyI_t, anyI_s, rng1I_i, rng2I_ii, ixN5, set_concat, get_concat, take_concat, len_concat, notInD_cs, inD_cs, sindexD_s, intD_s, tyN_s, tyN_i, tyN_b, tyN_n, tyN_t, tyN_l, tyIs_t, zipI_tt,
 startD, List.map_cons, List.map_nil, List.length_cons, List.length_nil, List.cons_append, List.nil_append, List.getElem?_cons_zero, List.getElem?_cons_succ, List.set_cons_zero, List.set_cons_succ, List.replicate_succ, List.replicate_zero, Option.bind_some, if_true, if_false, Bool.true_and, Bool.false_and, Bool.and_true, Bool.not_true, Bool.not_false, decide_true, decide_false, eq_self, Nat.zero_add, Nat.reduceAdd, Nat.reduceSub, reduceIte, reduceCtorEq, Int.reduceEq, Bool.false_eq_true, true_and, and_true, true_or, or_true, decide_eq_true_eq, row_of_num ha, row_of_num hb, e, leave_rt, fz_bl, List.take_length]

/-! ### texts cut -/
theorem cutS_head (ds : List Nat) (k : Nat) : cutS (numS ds) none (some (k : Int)) = numS (ds.take k) := by
  apply str_ext
  rw [numS_list]
  show (((numS ds).cps.toList.drop (HT.sIx (numS ds).length 0 none)).take _).toArray.toList = _
  rw [HT.sIx_none, HT.sIx_nat, numS_len, numS_list, Nat.sub_zero]
  show List.take _ (List.map _ ds) = _
  rw [← List.map_take]
  congr 1
  apply List.ext_getElem?
  intro i
  rw [List.getElem?_take, List.getElem?_take]
  by_cases h : i < min k ds.length
  · rw [if_pos h, if_pos (by omega)]
  · rw [if_neg h]
    by_cases h2 : i < k
    · rw [if_pos h2, List.getElem?_eq_none (by omega)]
    · rw [if_neg h2]
theorem cutS_last (ds : List Nat) : cutS (numS ds) none (some (-1)) = numS (ds.take (ds.length - 1)) := by
  apply str_ext
  rw [numS_list]
  show (((numS ds).cps.toList.drop (HT.sIx (numS ds).length 0 none)).take (HT.sIx (numS ds).length (numS ds).length (some (-1)) - HT.sIx (numS ds).length 0 none)).toArray.toList = _
  rw [HT.sIx_none, numS_len, numS_list, Nat.sub_zero]
  have e : HT.sIx ds.length ds.length (some (-1)) = ds.length - 1 := by
    show (if (-1 : Int) < 0 then ((-1 : Int) + (ds.length : Int)).toNat else min (-1 : Int).toNat ds.length) = _
    rw [if_pos (by decide)]; omega
  rw [e]
  show List.take _ (List.map _ ds) = _
  rw [← List.map_take]
theorem numS_app (a b : List Nat) : numS a ++ numS b = numS (a ++ b) := by
  apply TL.ext_tl
  rw [TL.tl_append]
  simp [TL.tl, numS]
theorem numS_eq (a b : List Nat) : decide (numS a = numS b) = decide (a = b) := decide_eq_decide.mpr ⟨numS_inj, fun e => by rw [e]⟩
theorem numS_empty (a : List Nat) : decide (numS a = "") = decide (a = []) := numS_eq a []
end Zd

set_option Elab.async false
set_option linter.all false
set_option maxRecDepth 100000
set_option maxHeartbeats 4000000
set_option autoImplicit false
/-! Zd: repr of data whose texts are ASCII: it is ASCII, and not too long. -/
namespace Zd
open PySem PySem.Spec L2
open PyProof.Rows hiding St

def Asc (z : Str) : Prop := ∀ c ∈ z.cps.toList, c < 128
theorem Asc.ok {z : Str} (h : Asc z) : PyData.strOk z = true := by
  show z.cps.all (fun c => decide (c < 0x110000)) = true
  rw [← Array.all_toList, List.all_eq_true]
  intro c hc
  have := h c hc
  simp; omega
theorem Asc.app {a b : Str} (ha : Asc a) (hb : Asc b) : Asc (a ++ b) := by
  intro c hc
  have e : (a ++ b).cps.toList = a.cps.toList ++ b.cps.toList := TL.tl_append a b
  rw [e] at hc
  rcases List.mem_append.mp hc with h | h
  · exact ha c h
  · exact hb c h
theorem reprChar_asc : ∀ c, c < 128 → ∀ q, (q = 34 ∨ q = 39) → ∀ k ∈ Builtin.Str.reprChar q c, k < 128 := by
  intro c hc q hq
  have h1 : ∀ c : _root_.Fin 128, (Builtin.Str.reprChar 34 c.val).all (fun k => decide (k < 128)) = true := by decide +kernel
  have h2 : ∀ c : _root_.Fin 128, (Builtin.Str.reprChar 39 c.val).all (fun k => decide (k < 128)) = true := by decide +kernel
  intro k hk
  rcases hq with rfl | rfl
  · have := List.all_eq_true.mp (h1 ⟨c, hc⟩) k hk
    simpa using this
  · have := List.all_eq_true.mp (h2 ⟨c, hc⟩) k hk
    simpa using this
theorem fold_asc (q : Nat) (hq : q = 34 ∨ q = 39) : ∀ (l : List Nat) (acc : Array Nat), (∀ c ∈ l, c < 128) → (∀ c ∈ acc.toList, c < 128) → ∀ c ∈ (l.foldl (fun out c => out ++ (Builtin.Str.reprChar q c).toArray) acc).toList, c < 128
  | [], acc, _, ha, c, hc => ha c hc
  | x :: l, acc, hl, ha, c, hc => by
    rw [List.foldl_cons] at hc
    refine fold_asc q hq l _ (fun y hy => hl y (List.mem_cons_of_mem _ hy)) (fun y hy => ?_) c hc
    rw [Array.toList_append] at hy
    rcases List.mem_append.mp hy with h | h
    · exact ha y h
    · exact reprChar_asc x (hl x List.mem_cons_self) q hq y (by simpa using h)
theorem reprText_asc {z : Str} (h : Asc z) : Asc (reprText z) := by
  have hq : reprQuote z = 34 ∨ reprQuote z = 39 := by unfold reprQuote; split <;> simp
  intro c hc
  unfold reprText at hc
  rw [Array.toList_push] at hc
  rcases List.mem_append.mp hc with hc | hc
  · rw [← Array.foldl_toList] at hc
    refine fold_asc (reprQuote z) hq z.cps.toList _ h (fun y hy => ?_) c hc
    have : y = reprQuote z := by simpa using hy
    omega
  · have : c = reprQuote z := by simpa using hc
    omega
theorem int_asc (i : Int) : Asc ((toString i : String) : Str) := by
  intro c hc
  by_cases h : c ≠ 45 ∧ (c < 48 ∨ 57 < c)
  · exact absurd hc (int_text_free' c h i)
  · omega
theorem join_asc {ts : List Str} (h : ∀ t ∈ ts, Asc t) : Asc (Str.join ", " ts) := by
  intro c hc
  rcases (mem_join ", " c ts).mp hc with ⟨t, ht, hct⟩ | ⟨_, hs⟩
  · exact h t ht c hct
  · have : ∀ k ∈ (((", " : String) : Str)).cps.toList, k < 128 := by decide +kernel
    exact this c hs
theorem list_asc {ts : List Str} (h : ∀ t ∈ ts, Asc t) : Asc (listText ts) := by
  rw [listText_eq_join]
  exact Asc.app (Asc.app (show Asc _ from by unfold Asc; decide +kernel) (join_asc h)) (show Asc _ from by unfold Asc; decide +kernel)
theorem tuple_asc {ts : List Str} (h : ∀ t ∈ ts, Asc t) : Asc (tupleText ts) := by
  unfold tupleText
  refine Asc.app (Asc.app (show Asc _ from by unfold Asc; decide +kernel) (join_asc h)) ?_
  split
  · unfold Asc; decide +kernel
  · unfold Asc; decide +kernel

mutual
/-- data of ASCII texts, whole numbers below 10^30 .. -/
def ascP : PyData → Prop
  | .none => True
  | .bool _ => True
  | .int i => i.natAbs.log2 < 1920
  | .str z => Asc z
  | .list ps => ascPs ps
  | .tuple ps => ascPs ps
  | .dict _ => False
def ascPs : List PyData → Prop
  | [] => True
  | p :: ps => ascP p ∧ ascPs ps
end
mutual
theorem shown_asc : ∀ p : PyData, ascP p → Asc p.shown
  | .none, _ => by rw [PyData.shown]; unfold Asc; decide +kernel
  | .bool b, _ => by rw [PyData.shown]; cases b <;> (unfold Asc; decide +kernel)
  | .int i, _ => by rw [PyData.shown]; exact int_asc i
  | .str z, h => by rw [PyData.shown]; exact reprText_asc (by rw [ascP] at h; exact h)
  | .list ps, h => by rw [PyData.shown]; exact list_asc (shownAll_asc ps (by rw [ascP] at h; exact h))
  | .tuple ps, h => by rw [PyData.shown]; exact tuple_asc (shownAll_asc ps (by rw [ascP] at h; exact h))
  | .dict _, h => by rw [ascP] at h; exact h.elim
theorem shownAll_asc : ∀ ps : List PyData, ascPs ps → ∀ t ∈ PyData.shownAll ps, Asc t
  | [], _, t, ht => by rw [PyData.shownAll] at ht; cases ht
  | p :: ps, h, t, ht => by
    rw [ascPs] at h
    rw [PyData.shownAll] at ht
    rcases List.mem_cons.mp ht with rfl | ht
    · exact shown_asc p h.1
    · exact shownAll_asc ps h.2 t ht
end
mutual
theorem showable_asc : ∀ p : PyData, ascP p → p.showable = true
  | .none, _ => by rw [PyData.showable]
  | .bool b, _ => by rw [PyData.showable]
  | .int i, h => by rw [PyData.showable]; rw [ascP] at h; exact decide_eq_true h
  | .str z, h => by rw [PyData.showable]
  | .list ps, h => by rw [PyData.showable]; exact showableAll_asc ps (by rw [ascP] at h; exact h)
  | .tuple ps, h => by rw [PyData.showable]; exact showableAll_asc ps (by rw [ascP] at h; exact h)
  | .dict _, h => by rw [ascP] at h; exact h.elim
theorem showableAll_asc : ∀ ps : List PyData, ascPs ps → PyData.showableAll ps = true
  | [], _ => by rw [PyData.showableAll]
  | p :: ps, h => by
    rw [ascPs] at h
    rw [PyData.showableAll, showable_asc p h.1, showableAll_asc ps h.2]; rfl
end
mutual
/-- how long it is shown at most -/
def lenP : PyData → Nat
  | .none => 5
  | .bool _ => 5
  | .int i => ((toString i : String) : Str).length
  | .str z => 10 * z.length + 2
  | .list ps => lenPs ps + 3
  | .tuple ps => lenPs ps + 3
  | .dict _ => 0
def lenPs : List PyData → Nat
  | [] => 0
  | p :: ps => lenP p + 2 + lenPs ps
end
theorem sums2 (ts : List Str) : (ts.map (·.length)).sum + 2 * ts.length = (ts.map fun t => t.length + 2).sum := by
  induction ts with
  | nil => rfl
  | cons t ts ih => rw [List.map_cons, List.sum_cons, List.length_cons, List.map_cons, List.sum_cons, ← ih]; omega
mutual
theorem shown_len : ∀ p : PyData, ascP p → p.shown.length ≤ lenP p
  | .none, _ => by rw [PyData.shown, lenP]; decide +kernel
  | .bool b, _ => by rw [PyData.shown, lenP]; cases b <;> decide +kernel
  | .int i, _ => by rw [PyData.shown, lenP]; exact Nat.le_refl _
  | .str z, h => by
    rw [PyData.shown, lenP]
    rw [ascP] at h
    exact StrLaws.reprText_len z fun c hc => Nat.lt_of_lt_of_le (h c hc) (by decide)
  | .list ps, h => by
    rw [PyData.shown, lenP]
    rw [ascP] at h
    have h1 := listText_len_le (PyData.shownAll ps)
    have h2 := shownAll_len ps h
    rw [sums2] at h1
    omega
  | .tuple ps, h => by
    rw [PyData.shown, lenP]
    rw [ascP] at h
    have h1 := tupleText_len_le (PyData.shownAll ps)
    have h2 := shownAll_len ps h
    rw [sums2] at h1
    omega
  | .dict _, h => by rw [ascP] at h; exact h.elim
theorem shownAll_len : ∀ ps : List PyData, ascPs ps → ((PyData.shownAll ps).map fun t => t.length + 2).sum ≤ lenPs ps
  | [], _ => by rw [PyData.shownAll]; exact Nat.zero_le _
  | p :: ps, h => by
    rw [ascPs] at h
    rw [PyData.shownAll, lenPs, List.map_cons, List.sum_cons]
    have h1 := shown_len p h.1
    have h2 := shownAll_len ps h.2
    omega
end
/-- repr of data -/
theorem repr_asc {d : D} {p : PyData} {S : Sto} (h : toP S d = some p) (ha : ascP p) (hd : p.depth ≤ 64) (hl : lenP p ≤ 1000000) : reprD [d] S = .ok (.str p.shown) S := by
  unfold reprD
  dsimp only
  rw [h]
  dsimp only
  rw [if_pos]
  refine ⟨showable_asc p ha, hd, ?_⟩
  have := shown_len p ha
  rw [sizeLine_eq]; omega
end Zd

set_option Elab.async false
set_option linter.all false
set_option maxRecDepth 100000
set_option maxHeartbeats 4000000
namespace Pr
open PySem PySem.Spec L2 Zd
open PyProof.Rows hiding St
def top (i : Nat) : Stmt := PySem.Challenge.pw_wheelchorus_k00_what_is_a_number.main.body.getD i (.Pass ⟨0, 0, 0, 0⟩)
/-- what the module's names hold -/
structure Txt (K : PySem.W.Frag) (mg : Str → Option Value) : Prop where
  b_ValueError : mg "ValueError" = none
  b_bool : mg "bool" = none
  b_int : mg "int" = none
  b_isinstance : mg "isinstance" = none
  b_len : mg "len" = none
  b_min : mg "min" = none
  b_range : mg "range" = none
  b_repr : mg "repr" = none
  b_str : mg "str" = none
  b_sum : mg "sum" = none
  b_tuple : mg "tuple" = none
  b_zip : mg "zip" = none
  c_DIGITS : ∃ u, mg "DIGITS" = some u ∧ RelV (.str "123456789") u
  c_MOST_DIGITS : ∃ u, mg "MOST_DIGITS" = some u ∧ RelV (.int 4) u
  c_MOST_STROKES : ∃ u, mg "MOST_STROKES" = some u ∧ RelV (.int 24) u
  n_BadNumber : ∃ H, mg "BadNumber" = some (.ref H) ∧ ∀ (c : Str) (b : Bool) (C : Addr), ([("BadNumber", true)] : List (Str × Bool)).lookup c = some b → mg c = some (.ref C) → PySem.W.exmOne K (.ref C) (.ref H) = some b
  i_BadOffset : ∃ H, mg "BadOffset" = some (.ref H) ∧ ∀ (c : Str) (b : Bool) (C : Addr), ([("BadNumber", false)] : List (Str × Bool)).lookup c = some b → mg c = some (.ref C) → L2.ExcC K C ∧ PySem.W.kitOne K (.ref C) (.ref H) = some b
  i_ValueError : ∀ (c : Str) (b : Bool) (C : Addr), ([("BadNumber", true)] : List (Str × Bool)).lookup c = some b → mg c = some (.ref C) → L2.ExcC K C ∧ PySem.W.kitOne K (.ref C) (.type "ValueError") = some b
  i_WheelError : ∃ H, mg "WheelError" = some (.ref H) ∧ ∀ (c : Str) (b : Bool) (C : Addr), ([("BadNumber", true)] : List (Str × Bool)).lookup c = some b → mg c = some (.ref C) → L2.ExcC K C ∧ PySem.W.kitOne K (.ref C) (.ref H) = some b
  f_number : ∀ (c : Str) (C : Addr), c ∈ (["BadNumber"] : List Str) → mg c = some (.ref C) → XfC K C ∧ PySem.W.findIn K (.ref C) "number" = some none
  bs_WheelError : ∃ B, mg "WheelError" = some (.ref B) ∧ Bas K B

/-! _law_bag: 0 script, 1 cells, 2 cell -/
abbrev st__law_bag : Stmt := top 15
theorem sc__law_bag : FnScope ["script", "cells", "cell"] ["script"] (defScope st__law_bag) := ⟨rfl, rfl, rfl, by decide +kernel, rfl, by decide +kernel, by decide +kernel⟩

/-! _law_draw: 0 bag, 1 limit, 2 digit -/
abbrev st__law_draw : Stmt := top 17
theorem sc__law_draw : FnScope ["bag", "limit", "digit"] ["bag", "limit"] (defScope st__law_draw) := ⟨rfl, rfl, rfl, by decide +kernel, rfl, by decide +kernel, by decide +kernel⟩

/-! _law_number: 0 bag, 1 many, 2 way, 3 top, 4 word, 5 left, 6 k, 7 digit -/
abbrev st__law_number : Stmt := top 18
theorem sc__law_number : FnScope ["bag", "many", "way", "top", "word", "left", "k", "digit"] ["bag"] (defScope st__law_number) := ⟨rfl, rfl, rfl, by decide +kernel, rfl, by decide +kernel, by decide +kernel⟩

/-! _law_other: 0 bag, 1 number, 2 way, 3 sign -/
abbrev st__law_other : Stmt := top 22
noncomputable def g__law_other : SF := (seqS (setS 1 (callF 1 F__law_number (consF (varE 0) nilF)))
  (seqS (setS 2 (callF 2 F__law_draw (consF (varE 0) (consF (cE (.int 8)) nilF))))
  (seqS (ifS (tstF (binF eqD (varE 2) (cE (.int 0)))) (retS (appF intD (consF (varE 1) nilF))) nxS)
  (seqS (ifS (tstF (binF eqD (varE 2) (cE (.int 1)))) (retS (compG finF [3] (itF anyI (varE 1)) (nmG 3) yesB (varE 3))) nxS)
  (seqS (ifS (tstF (binF eqD (varE 2) (cE (.int 2)))) (retS (tupF (consF (varE 1) nilF))) nxS)
  (seqS (ifS (tstF (binF eqD (varE 2) (cE (.int 3)))) (retS (callF 2 F__law_draw (consF (varE 0) (consF (cE (.int 10)) nilF)))) nxS)
  (retS (binF ixD (lstF (consF (cE .non) (consF (cE (.bl true)) (consF (cE (.bl false)) (consF (lstF (consF (varE 1) nilF)) nilF))))) (binF subD (varE 2) (cE (.int 4)))))))))))
noncomputable def F__law_other : DFun := fnF 4 g__law_other
theorem sc__law_other : FnScope ["bag", "number", "way", "sign"] ["bag"] (defScope st__law_other) := ⟨rfl, rfl, rfl, by decide +kernel, rfl, by decide +kernel, by decide +kernel⟩

/-! _law_near_sum: 0 bag, 1 total, 2 first, 3 second, 4 rest -/
abbrev st__law_near_sum : Stmt := top 20
noncomputable def g__law_near_sum : SF := (seqS (setS 1 (binF addD (cE (.int 24)) (callF 2 F__law_draw (consF (varE 0) (consF (cE (.int 2)) nilF)))))
  (seqS (setS 2 (binF addD (cE (.int 6)) (callF 2 F__law_draw (consF (varE 0) (consF (cE (.int 4)) nilF)))))
  (seqS (setS 3 (binF addD (cE (.int 6)) (callF 2 F__law_draw (consF (varE 0) (consF (cE (.int 4)) nilF)))))
  (seqS (setS 4 (binF subD (binF subD (varE 1) (varE 2)) (varE 3)))
  (seqS (ifS (tstF (binF leD (varE 4) (cE (.int 9)))) (retS (binF addD (binF addD (appF strD (consF (varE 2) nilF)) (appF strD (consF (varE 3) nilF))) (appF strD (consF (varE 4) nilF)))) nxS)
  (retS (binF addD (binF addD (binF addD (appF strD (consF (varE 2) nilF)) (appF strD (consF (binF fdivD (varE 4) (cE (.int 2))) nilF))) (appF strD (consF (binF subD (varE 4) (binF fdivD (varE 4) (cE (.int 2)))) nilF))) (appF strD (consF (varE 3) nilF)))))))))
noncomputable def F__law_near_sum : DFun := fnF 5 g__law_near_sum
theorem sc__law_near_sum : FnScope ["bag", "total", "first", "second", "rest"] ["bag"] (defScope st__law_near_sum) := ⟨rfl, rfl, rfl, by decide +kernel, rfl, by decide +kernel, by decide +kernel⟩

/-! _law_sign: 0 bag, 1 signs -/
abbrev st__law_sign : Stmt := top 19
noncomputable def g__law_sign : SF := (seqS (setS 1 (cE (.str " !\"#$&'()*+,-./0123456789:;<=>?@ABCDEFGHIJKLMNOPQRSTUVWXYZ[\\]^_`")))
  (seqS (setS 1 (binF addD (varE 1) (cE (.str "abcdefghijklmnopqrstuvwxyz{|}~\n0"))))
  (retS (binF ixD (varE 1) (callF 2 F__law_draw (consF (varE 0) (consF (appF lenD (consF (varE 1) nilF)) nilF)))))))
noncomputable def F__law_sign : DFun := fnF 2 g__law_sign
theorem sc__law_sign : FnScope ["bag", "signs"] ["bag"] (defScope st__law_sign) := ⟨rfl, rfl, rfl, by decide +kernel, rfl, by decide +kernel, by decide +kernel⟩

/-! _law_bent: 0 bag, 1 number, 2 at, 3 way -/
abbrev st__law_bent : Stmt := top 21
noncomputable def g__law_bent : SF := (seqS (setS 1 (callF 1 F__law_number (consF (varE 0) nilF)))
  (seqS (setS 2 (callF 2 F__law_draw (consF (varE 0) (consF (binF addD (appF lenD (consF (varE 1) nilF)) (cE (.int 1))) nilF))))
  (seqS (setS 3 (callF 2 F__law_draw (consF (varE 0) (consF (cE (.int 3)) nilF))))
  (seqS (ifS (tstF (binF eqD (varE 3) (cE (.int 0)))) (retS (binF addD (binF addD (slF (varE 1) noO (someO (varE 2))) (callF 1 F__law_sign (consF (varE 0) nilF))) (slF (varE 1) (someO (varE 2)) noO))) nxS)
  (seqS (ifS (tstF (binF eqD (varE 3) (cE (.int 1)))) (retS (binF addD (binF addD (slF (varE 1) noO (someO (varE 2))) (callF 1 F__law_sign (consF (varE 0) nilF))) (slF (varE 1) (someO (binF addD (varE 2) (cE (.int 1)))) noO))) nxS)
  (retS (binF addD (slF (varE 1) noO (someO (varE 2))) (slF (varE 1) (someO (binF addD (varE 2) (cE (.int 1)))) noO))))))))
noncomputable def F__law_bent : DFun := fnF 4 g__law_bent
theorem sc__law_bent : FnScope ["bag", "number", "at", "way"] ["bag"] (defScope st__law_bent) := ⟨rfl, rfl, rfl, by decide +kernel, rfl, by decide +kernel, by decide +kernel⟩

/-! _law_thing: 0 bag, 1 way, 2 k -/
abbrev st__law_thing : Stmt := top 23
noncomputable def g__law_thing : SF := (seqS (setS 1 (callF 2 F__law_draw (consF (varE 0) (consF (cE (.int 8)) nilF))))
  (seqS (ifS (orB (tstF (binF eqD (varE 1) (cE (.int 0)))) (tstF (binF eqD (varE 1) (cE (.int 1))))) (retS (callF 1 F__law_number (consF (varE 0) nilF))) nxS)
  (seqS (ifS (tstF (binF eqD (varE 1) (cE (.int 2)))) (retS (mthF "str" joinD (cE (.str "")) (consF (compG finF [2] (itA rng1I (consF (callF 2 F__law_draw (consF (varE 0) (consF (cE (.int 7)) nilF))) nilF)) (nmG 2) yesB (appF strD (consF (callF 2 F__law_draw (consF (varE 0) (consF (cE (.int 10)) nilF))) nilF))) nilF))) nxS)
  (seqS (ifS (tstF (binF eqD (varE 1) (cE (.int 3)))) (retS (mthF "str" joinD (cE (.str "")) (consF (compG finF [2] (itA rng1I (consF (callF 2 F__law_draw (consF (varE 0) (consF (cE (.int 6)) nilF))) nilF)) (nmG 2) yesB (callF 1 F__law_sign (consF (varE 0) nilF))) nilF))) nxS)
  (seqS (ifS (tstF (binF eqD (varE 1) (cE (.int 4)))) (retS (callF 1 F__law_near_sum (consF (varE 0) nilF))) nxS)
  (seqS (ifS (tstF (binF eqD (varE 1) (cE (.int 5)))) (retS (callF 1 F__law_bent (consF (varE 0) nilF))) nxS)
  (seqS (ifS (tstF (binF eqD (varE 1) (cE (.int 6)))) (retS (binF mulD (cE (.str "1")) (binF addD (cE (.int 4)) (callF 2 F__law_draw (consF (varE 0) (consF (cE (.int 2)) nilF)))))) nxS)
  (retS (callF 1 F__law_other (consF (varE 0) nilF))))))))))
noncomputable def F__law_thing : DFun := fnF 3 g__law_thing
theorem sc__law_thing : FnScope ["bag", "way", "k"] ["bag"] (defScope st__law_thing) := ⟨rfl, rfl, rfl, by decide +kernel, rfl, by decide +kernel, by decide +kernel⟩

/-! _law_is_number: 0 thing, 1 total, 2 sign -/
abbrev st__law_is_number : Stmt := top 24
noncomputable def g__law_is_number : SF := (seqS (ifS (orB (notB (tstF (isiF "str" (varE 0)))) (orB (tstF (binF ltD (appF lenD (consF (varE 0) nilF)) (cE (.int 1)))) (tstF (binF gtD (appF lenD (consF (varE 0) nilF)) (cE (.int 4)))))) (retS (cE (.bl false))) nxS)
  (seqS (setS 1 (cE (.int 0)))
  (seqS (forS (itF anyI (varE 0)) (nmG 2) (seqS (ifS (tstF (binF notInD (varE 2) (cE (.str "123456789")))) (retS (cE (.bl false))) nxS)
  (setS 1 (binF addD (varE 1) (appF intD (consF (varE 2) nilF))))))
  (retS (binF leD (varE 1) (cE (.int 24)))))))
noncomputable def F__law_is_number : DFun := fnF 3 g__law_is_number
theorem sc__law_is_number : FnScope ["thing", "total", "sign"] ["thing"] (defScope st__law_is_number) := ⟨rfl, rfl, rfl, by decide +kernel, rfl, by decide +kernel, by decide +kernel⟩

/-! _law_says: 0 told, 1 due -/
abbrev st__law_says : Stmt := top 16
noncomputable def g__law_says : SF := (retS (andV (isiF "bool" (varE 0)) (binF eqD (varE 0) (varE 1))))
noncomputable def F__law_says : DFun := fnF 2 g__law_says
theorem sc__law_says : FnScope ["told", "due"] ["told", "due"] (defScope st__law_says) := ⟨rfl, rfl, rfl, by decide +kernel, rfl, by decide +kernel, by decide +kernel⟩

/-! is_number: 0 thing, 1 total, 2 sign -/
abbrev st_is_number : Stmt := top 8
theorem sc_is_number : FnScope ["thing", "total", "sign"] ["thing"] (defScope st_is_number) := ⟨rfl, rfl, rfl, by decide +kernel, rfl, by decide +kernel, by decide +kernel⟩

/-! check_number: 0 thing -/
abbrev st_check_number : Stmt := top 9
theorem sc_check_number : FnScope ["thing"] ["thing"] (defScope st_check_number) := ⟨rfl, rfl, rfl, by decide +kernel, rfl, by decide +kernel, by decide +kernel⟩

/-! blocks: 0 number, 1 sign -/
abbrev st_blocks : Stmt := top 10
theorem sc_blocks : FnScope ["number", "sign"] ["number"] (defScope st_blocks) := ⟨rfl, rfl, rfl, by decide +kernel, rfl, by decide +kernel, by decide +kernel⟩

/-! row_of: 0 number, 1 row, 2 size -/
abbrev st_row_of : Stmt := top 11
theorem sc_row_of : FnScope ["number", "row", "size"] ["number"] (defScope st_row_of) := ⟨rfl, rfl, rfl, by decide +kernel, rfl, by decide +kernel, by decide +kernel⟩

/-! length_of: 0 number, 1 sizes -/
abbrev st_length_of : Stmt := top 12
noncomputable def g_length_of : SF := (seqS (setS 1 (callF 1 F_blocks (consF (varE 0) nilF)))
  (retS (binF mulD (cE (.int 2)) (binF addD (binF addD (appF sumD (consF (varE 1) nilF)) (appF lenD (consF (varE 1) nilF))) (cE (.int 1))))))
noncomputable def F_length_of : DFun := fnF 2 g_length_of
theorem sc_length_of : FnScope ["number", "sizes"] ["number"] (defScope st_length_of) := ⟨rfl, rfl, rfl, by decide +kernel, rfl, by decide +kernel, by decide +kernel⟩

/-! goes_ahead: 0 one, 1 other, 2 first, 3 second, 4 mine, 5 its -/
abbrev st_goes_ahead : Stmt := top 13
theorem sc_goes_ahead : FnScope ["one", "other", "first", "second", "mine", "its"] ["one", "other"] (defScope st_goes_ahead) := ⟨rfl, rfl, rfl, by decide +kernel, rfl, by decide +kernel, by decide +kernel⟩

/-! _law_tried: 0 which, 1 thing, 2 other, 3 e, 4 kinds -/
abbrev st__law_tried : Stmt := top 25
noncomputable def g__law_tried : SF := (seqS (tryS [("BadNumber", true)] 3 (ifS (tstF (binF eqD (varE 0) (cE (.int 0)))) (dropS (callF 1 F_blocks (consF (varE 1) nilF))) (ifS (tstF (binF eqD (varE 0) (cE (.int 1)))) (dropS (callF 1 F_row_of (consF (varE 1) nilF))) (ifS (tstF (binF eqD (varE 0) (cE (.int 2)))) (dropS (callF 1 F_length_of (consF (varE 1) nilF))) (dropS (callF 2 F_goes_ahead (consF (varE 1) (consF (varE 2) nilF))))))) (seqS (setS 4 (andV (isXF [("BadNumber", true)] (varE 3)) (andV (isXF [("BadNumber", true)] (varE 3)) (notV (isXF [("BadNumber", false)] (varE 3))))))
  (retS (tupF (consF (varE 4) (consF (appF reprD (consF (xfF ["BadNumber"] "number" (varE 3)) nilF)) nilF))))))
  (retS (cE .non)))
noncomputable def F__law_tried : DFun := fnF 5 g__law_tried
theorem sc__law_tried : FnScope ["which", "thing", "other", "e", "kinds"] ["which", "thing", "other"] (defScope st__law_tried) := ⟨rfl, rfl, rfl, by decide +kernel, rfl, by decide +kernel, by decide +kernel⟩

/-! law: 0 script, 1 bag, 2 things, 3 kept, 4 good, 5 k, 6 thing, 7 due, 8 wanted, 9 which, 10 other -/
abbrev st_law : Stmt := top 26
noncomputable def g_law : SF := (seqS (setS 1 (callF 1 F__law_bag (consF (varE 0) nilF)))
  (seqS (setS 2 (compG finF [5] (itA rng1I (consF (cE (.int 6)) nilF)) (nmG 5) yesB (callF 1 F__law_thing (consF (varE 1) nilF))))
  (seqS (setS 3 (compG finF [6] (itF anyI (varE 2)) (nmG 6) yesB (appF reprD (consF (varE 6) nilF))))
  (seqS (setS 4 (callF 1 F__law_number (consF (varE 1) nilF)))
  (seqS (forS (itA rng1I (consF (cE (.int 6)) nilF)) (nmG 5) (seqS (setS 6 (binF ixD (varE 2) (varE 5)))
  (seqS (setS 7 (callF 1 F__law_is_number (consF (varE 6) nilF)))
  (seqS (ifS (notB (tstF (callF 2 F__law_says (consF (callF 1 F_is_number (consF (varE 6) nilF)) (consF (varE 7) nilF))))) (retS (cE (.bl false))) nxS)
  (seqS (setS 8 (cE .non))
  (seqS (ifS (notB (tstF (varE 7))) (setS 8 (tupF (consF (cE (.bl true)) (consF (binF ixD (varE 3) (varE 5)) nilF)))) nxS)
  (seqS (forS (itA rng1I (consF (cE (.int 4)) nilF)) (nmG 9) (ifS (tstF (binF neD (callF 3 F__law_tried (consF (varE 9) (consF (varE 6) (consF (varE 4) nilF)))) (varE 8))) (retS (cE (.bl false))) nxS))
  (seqS (ifS (tstF (binF neD (callF 3 F__law_tried (consF (cE (.int 3)) (consF (varE 4) (consF (varE 6) nilF)))) (varE 8))) (retS (cE (.bl false))) nxS)
  (seqS (setS 10 (binF ixD (varE 2) (binF subD (binF addD (varE 5) (cE (.int 1))) (binF mulD (cE (.int 6)) (appF intD (consF (binF eqD (varE 5) (cE (.int 5))) nilF))))))
  (seqS (ifS (andB (tstF (binF isND (varE 8) (cE .non))) (notB (tstF (callF 1 F__law_is_number (consF (varE 10) nilF))))) (setS 8 (tupF (consF (cE (.bl true)) (consF (appF reprD (consF (varE 10) nilF)) nilF)))) nxS)
  (ifS (tstF (binF neD (callF 3 F__law_tried (consF (cE (.int 3)) (consF (varE 6) (consF (varE 10) nilF)))) (varE 8))) (retS (cE (.bl false))) nxS)))))))))))
  (retS (binF eqD (compG finF [6] (itF anyI (varE 2)) (nmG 6) yesB (appF reprD (consF (varE 6) nilF))) (varE 3))))))))
noncomputable def F_law : DFun := fnF 11 g_law
theorem sc_law : FnScope ["script", "bag", "things", "kept", "good", "k", "thing", "due", "wanted", "which", "other"] ["script"] (defScope st_law) := ⟨rfl, rfl, rfl, by decide +kernel, rfl, by decide +kernel, by decide +kernel⟩

abbrev st_BadNumber : Stmt := inClass (top 2) 0
theorem sc_BadNumber : FnScope ["self", "number"] ["self", "number"] (defScope st_BadNumber) := ⟨rfl, rfl, rfl, by decide +kernel, rfl, by decide +kernel, by decide +kernel⟩
theorem xi_BadNumber {P : Program} {w : World} {K : PySem.W.Frag} {mg : Str → Option Value} {base : Heap} (T : Txt K mg) {f : Addr} {fd : FuncData} (F : Fun K "__init__" "BadNumber.__init__" st_BadNumber f fd) :
    FnOk P w K mg base (L2.CX P w) 1 f fd ["self", "number"] (spXi K ["number"]) :=
  F.okX sc_BadNumber (fun vs H Q E h => xi_len h) fun cdv A outer s H vs Q E hr h => ⟨_, (pss_cons (ps_expr (pe_baseinit rfl T.bs_WheelError.choose_spec.1 T.bs_WheelError.choose_spec.2 (pa_cons (pe_var (i := 0) rfl (by first | exact Or.inl rfl | exact Or.inr (Or.inl rfl) | exact Or.inr (Or.inr rfl))) (pa_cons pe_str pa_nil)))) (pss_one (ps_ost (pe_var (i := 0) rfl (by first | exact Or.inl rfl | exact Or.inr (Or.inl rfl) | exact Or.inr (Or.inr rfl))) (pe_var (i := 1) rfl (by first | exact Or.inl rfl | exact Or.inr (Or.inl rfl) | exact Or.inr (Or.inr rfl)))))), sh_b1 h⟩
theorem kd__law_bag {P : Program} {w : World} {K : PySem.W.Frag} {mg : Str → Option Value} {base : Heap} (T : Txt K mg) {f : Addr} {fd : FuncData} (F : Fun K "_law_bag" "_law_bag" st__law_bag f fd) (hm : mg "_law_bag" = some (.ref f)) (hb : Binds K fd ["script"] []) :
    KD P w K mg base "_law_bag" 1 F__law_bag 1 :=
  have sc := sc__law_bag
  kd_mk F sc (.inr rfl) hm hb fun cdv A outer s H E hr tk po => by
    unfold g__law_bag
    exact (dss_cons (ds_setC (i := 1) (own := [("cell", 2)]) (is := [2]) (fin_F _) rfl sc.nd rfl rfl (sw_true rfl rfl rfl (by decide +kernel)) (di_any (d_slice (dv 0) do_none (do_some d_int))) (blkOk_by (N := ["script", "cells", "cell"]) (sc := defScope st__law_bag) (by decide +kernel)) (by decide) (fun _ _ _ _ _ => (dg_name (i := 2) sc.nd rfl (by first | exact Or.inl rfl | exact Or.inr rfl))) (fun _ _ _ _ _ => dts_nil) (fun _ _ _ _ _ => (d_ifE (d_cmpT op_geD s_ge (dv 2) d_int (nomark _)) (dv 2) (d_op op_sub s_sub d_int (dv 2)))))
  (dss_one (ds_ret (d_own (da_cons d_int (da_cons (dv 1) (da_cons d_int (da_cons d_int (da_cons d_int da_nil)))))))))

theorem kd__law_draw {P : Program} {w : World} {K : PySem.W.Frag} {mg : Str → Option Value} {base : Heap} (T : Txt K mg) {f : Addr} {fd : FuncData} (F : Fun K "_law_draw" "_law_draw" st__law_draw f fd) (hm : mg "_law_draw" = some (.ref f)) (hb : Binds K fd ["bag", "limit"] []) :
    KD P w K mg base "_law_draw" 2 F__law_draw 1 :=
  have sc := sc__law_draw
  kd_mk F sc (.inl rfl) hm hb fun cdv A outer s H E hr tk po => by
    unfold g__law_draw
    exact (dss_cons (ds_if (dw_t (dw_and (d_cmpT op_ltD s_lt (d_ix (dv 0) d_int (fun _ _ => rfl)) (d_op op_pow s_pow d_int d_int) (nomark _)) (dw_and1 (d_cmpT op_ltD s_lt (d_ix (dv 0) d_int (fun _ _ => rfl)) (d_callB call_len s_len rfl T.b_len PySem.boot_len (da_cons (d_ix (dv 0) d_int (fun _ _ => rfl)) da_nil)) (nomark _))))) (dss_cons (ds_put (d_ix (d_ix (dv 0) d_int (fun _ _ => rfl)) (d_ix (dv 0) d_int (fun _ _ => rfl)) (fun _ _ => rfl)) (dv 0) d_int)
  (dss_one (ds_put (d_op op_addD s_add (d_ix (dv 0) d_int (fun _ _ => rfl)) d_int) (dv 0) d_int))) dss_nil)
  (dss_cons (ds_if (d_cmpT op_geD s_ge (d_ix (dv 0) d_int (fun _ _ => rfl)) (d_op op_pow s_pow d_int d_int) (nomark _)) (dss_cons (ds_set (i := 2) sc.nd rfl (by first | exact Or.inl rfl | exact Or.inr rfl) (d_op op_mod s_mod (d_callTy call_intD s_int rfl T.b_int PyProof.Rows.boot_int (da_cons (d_ix (dv 0) d_int (fun _ _ => rfl)) da_nil)) (dv 1)))
  (dss_cons (ds_put (d_op op_fdivW s_fdiv (d_callTy call_intD s_int rfl T.b_int PyProof.Rows.boot_int (da_cons (d_ix (dv 0) d_int (fun _ _ => rfl)) da_nil)) (dv 1)) (dv 0) d_int)
  (dss_one (ds_ret (dv 2))))) dss_nil)
  (dss_cons (ds_put (d_op op_addD s_add (d_ix (dv 0) d_int (fun _ _ => rfl)) d_int) (dv 0) d_int)
  (dss_cons (ds_put (d_op op_mod s_mod (d_callTy call_intD s_int rfl T.b_int PyProof.Rows.boot_int (da_cons (d_op op_addD s_add (d_op op_addD s_add (d_op op_mulD s_mul (d_ix (dv 0) d_int (fun _ _ => rfl)) d_int) (d_op op_mulD s_mul (d_op op_mod s_mod (d_callTy call_intD s_int rfl T.b_int PyProof.Rows.boot_int (da_cons (d_ix (dv 0) d_int (fun _ _ => rfl)) da_nil)) d_int) d_int)) (d_op op_mulD s_mul (d_ix (dv 0) d_int (fun _ _ => rfl)) d_int)) da_nil)) d_int) (dv 0) d_int)
  (dss_one (ds_ret (d_op op_mod s_mod (d_op op_fdivW s_fdiv (d_op op_mod s_mod (d_callTy call_intD s_int rfl T.b_int PyProof.Rows.boot_int (da_cons (d_op op_addD s_add (d_op op_mulD s_mul (d_ix (dv 0) d_int (fun _ _ => rfl)) d_int) (d_op op_mulD s_mul (d_ix (dv 0) d_int (fun _ _ => rfl)) (d_ix (dv 0) d_int (fun _ _ => rfl)))) da_nil)) d_int) d_int) (dv 1))))))))

theorem kd__law_number {P : Program} {w : World} {K : PySem.W.Frag} {mg : Str → Option Value} {base : Heap} (T : Txt K mg) {f : Addr} {fd : FuncData} (F : Fun K "_law_number" "_law_number" st__law_number f fd) (hm : mg "_law_number" = some (.ref f)) (hb : Binds K fd ["bag"] []) (h__law_draw : KD P w K mg base "_law_draw" 2 F__law_draw 1) :
    KD P w K mg base "_law_number" 1 F__law_number 2 :=
  have sc := sc__law_number
  kd_mk F sc (.inl rfl) hm hb fun cdv A outer s H E hr tk po => by
    unfold g__law_number
    exact (dss_cons (ds_set (i := 1) sc.nd rfl (by first | exact Or.inl rfl | exact Or.inr rfl) (d_op op_addD s_add d_int (d_call h__law_draw (hr.mono (by decide)) tk rfl (da_cons (dv 0) (da_cons d_int da_nil)))))
  (dss_cons (ds_set (i := 2) sc.nd rfl (by first | exact Or.inl rfl | exact Or.inr rfl) (d_call h__law_draw (hr.mono (by decide)) tk rfl (da_cons (dv 0) (da_cons d_int da_nil))))
  (dss_cons (ds_set (i := 3) sc.nd rfl (by first | exact Or.inl rfl | exact Or.inr rfl) (d_ix (d_lst (da_cons d_int (da_cons d_int (da_cons d_int (da_cons d_int (da_cons d_int (da_cons d_int da_nil))))))) (dv 2) (fun _ _ => rfl)))
  (dss_cons (ds_set (i := 4) sc.nd rfl (by first | exact Or.inl rfl | exact Or.inr rfl) d_str)
  (dss_cons (ds_set (i := 5) sc.nd rfl (by first | exact Or.inl rfl | exact Or.inr rfl) d_int)
  (dss_cons (ds_for po rfl (di_range1 rfl T.b_range (da_cons (dv 1) da_nil)) (dg_name (i := 6) sc.nd rfl (by first | exact Or.inl rfl | exact Or.inr rfl)) (dss_cons (ds_set (i := 7) sc.nd rfl (by first | exact Or.inl rfl | exact Or.inr rfl) (d_op op_addD s_add d_int (d_call h__law_draw (hr.mono (by decide)) tk rfl (da_cons (dv 0) (da_cons (d_callB (call_min2 rfl) s_min2 rfl T.b_min PyProof.Rows.boot_min (da_cons (dv 3) (da_cons (d_op op_sub s_sub (dv 5) (d_op op_sub s_sub (d_op op_sub s_sub (dv 1) d_int) (dv 6))) da_nil))) da_nil)))))
  (dss_cons (ds_if (dw_t (dw_and (d_cmpT (op_eqA hr.units) s_eq (dv 2) d_int (nomark _)) (dw_and1 (d_cmpT (op_eqA hr.units) s_eq (dv 6) (d_op op_sub s_sub (dv 1) d_int) (nomark _))))) (dss_one (ds_set (i := 7) sc.nd rfl (by first | exact Or.inl rfl | exact Or.inr rfl) (d_callB (call_min2 rfl) s_min2 rfl T.b_min PyProof.Rows.boot_min (da_cons d_int (da_cons (dv 5) da_nil))))) dss_nil)
  (dss_cons (ds_set (i := 4) sc.nd rfl (by first | exact Or.inl rfl | exact Or.inr rfl) (d_op op_addD s_add (dv 4) (d_callTy call_str_int s_str rfl T.b_str PyProof.Rows.boot_str (da_cons (dv 7) da_nil))))
  (dss_one (ds_set (i := 5) sc.nd rfl (by first | exact Or.inl rfl | exact Or.inr rfl) (d_op op_sub s_sub (dv 5) (dv 7))))))))
  (dss_one (ds_ret (dv 4)))))))))

theorem kd__law_other {P : Program} {w : World} {K : PySem.W.Frag} {mg : Str → Option Value} {base : Heap} (T : Txt K mg) {f : Addr} {fd : FuncData} (F : Fun K "_law_other" "_law_other" st__law_other f fd) (hm : mg "_law_other" = some (.ref f)) (hb : Binds K fd ["bag"] []) (h__law_number : KD P w K mg base "_law_number" 1 F__law_number 2) (h__law_draw : KD P w K mg base "_law_draw" 2 F__law_draw 1) :
    KD P w K mg base "_law_other" 1 F__law_other 3 :=
  have sc := sc__law_other
  kd_mk F sc (.inl rfl) hm hb fun cdv A outer s H E hr tk po => by
    unfold g__law_other
    exact (dss_cons (ds_set (i := 1) sc.nd rfl (by first | exact Or.inl rfl | exact Or.inr rfl) (d_call h__law_number (hr.mono (by decide)) tk rfl (da_cons (dv 0) da_nil)))
  (dss_cons (ds_set (i := 2) sc.nd rfl (by first | exact Or.inl rfl | exact Or.inr rfl) (d_call h__law_draw (hr.mono (by decide)) tk rfl (da_cons (dv 0) (da_cons d_int da_nil))))
  (dss_cons (ds_if (d_cmpT (op_eqA hr.units) s_eq (dv 2) d_int (nomark _)) (dss_one (ds_ret (d_callTy call_intD s_int rfl T.b_int PyProof.Rows.boot_int (da_cons (dv 1) da_nil)))) dss_nil)
  (dss_cons (ds_if (d_cmpT (op_eqA hr.units) s_eq (dv 2) d_int (nomark _)) (dss_one (ds_ret (d_comp (own := [("sign", 3)]) (is := [3]) (fin_F _) rfl sc.nd (di_any (dv 1)) (blkOk_by (N := ["bag", "number", "way", "sign"]) (sc := defScope st__law_other) (by decide +kernel)) (by decide) (fun _ _ _ _ _ => (dg_name (i := 3) sc.nd rfl (by first | exact Or.inl rfl | exact Or.inr rfl))) (fun _ _ _ _ _ => dts_nil) (fun _ _ _ _ _ => (dv 3))))) dss_nil)
  (dss_cons (ds_if (d_cmpT (op_eqA hr.units) s_eq (dv 2) d_int (nomark _)) (dss_one (ds_ret (d_tup (da_cons (dv 1) da_nil)))) dss_nil)
  (dss_cons (ds_if (d_cmpT (op_eqA hr.units) s_eq (dv 2) d_int (nomark _)) (dss_one (ds_ret (d_call h__law_draw (hr.mono (by decide)) tk rfl (da_cons (dv 0) (da_cons d_int da_nil))))) dss_nil)
  (dss_one (ds_ret (d_ix (d_lst (da_cons d_non (da_cons d_bl (da_cons d_bl (da_cons (d_lst (da_cons (dv 1) da_nil)) da_nil))))) (d_op op_sub s_sub (dv 2) d_int) (fun _ _ => rfl))))))))))

theorem kd__law_near_sum {P : Program} {w : World} {K : PySem.W.Frag} {mg : Str → Option Value} {base : Heap} (T : Txt K mg) {f : Addr} {fd : FuncData} (F : Fun K "_law_near_sum" "_law_near_sum" st__law_near_sum f fd) (hm : mg "_law_near_sum" = some (.ref f)) (hb : Binds K fd ["bag"] []) (h__law_draw : KD P w K mg base "_law_draw" 2 F__law_draw 1) :
    KD P w K mg base "_law_near_sum" 1 F__law_near_sum 2 :=
  have sc := sc__law_near_sum
  kd_mk F sc (.inl rfl) hm hb fun cdv A outer s H E hr tk po => by
    unfold g__law_near_sum
    exact (dss_cons (ds_set (i := 1) sc.nd rfl (by first | exact Or.inl rfl | exact Or.inr rfl) (d_op op_addD s_add d_int (d_call h__law_draw (hr.mono (by decide)) tk rfl (da_cons (dv 0) (da_cons d_int da_nil)))))
  (dss_cons (ds_set (i := 2) sc.nd rfl (by first | exact Or.inl rfl | exact Or.inr rfl) (d_op op_addD s_add d_int (d_call h__law_draw (hr.mono (by decide)) tk rfl (da_cons (dv 0) (da_cons d_int da_nil)))))
  (dss_cons (ds_set (i := 3) sc.nd rfl (by first | exact Or.inl rfl | exact Or.inr rfl) (d_op op_addD s_add d_int (d_call h__law_draw (hr.mono (by decide)) tk rfl (da_cons (dv 0) (da_cons d_int da_nil)))))
  (dss_cons (ds_set (i := 4) sc.nd rfl (by first | exact Or.inl rfl | exact Or.inr rfl) (d_op op_sub s_sub (d_op op_sub s_sub (dv 1) (dv 2)) (dv 3)))
  (dss_cons (ds_if (d_cmpT op_leD s_le (dv 4) d_int (nomark _)) (dss_one (ds_ret (d_op op_addD s_add (d_op op_addD s_add (d_callTy call_str_int s_str rfl T.b_str PyProof.Rows.boot_str (da_cons (dv 2) da_nil)) (d_callTy call_str_int s_str rfl T.b_str PyProof.Rows.boot_str (da_cons (dv 3) da_nil))) (d_callTy call_str_int s_str rfl T.b_str PyProof.Rows.boot_str (da_cons (dv 4) da_nil))))) dss_nil)
  (dss_one (ds_ret (d_op op_addD s_add (d_op op_addD s_add (d_op op_addD s_add (d_callTy call_str_int s_str rfl T.b_str PyProof.Rows.boot_str (da_cons (dv 2) da_nil)) (d_callTy call_str_int s_str rfl T.b_str PyProof.Rows.boot_str (da_cons (d_op op_fdivW s_fdiv (dv 4) d_int) da_nil))) (d_callTy call_str_int s_str rfl T.b_str PyProof.Rows.boot_str (da_cons (d_op op_sub s_sub (dv 4) (d_op op_fdivW s_fdiv (dv 4) d_int)) da_nil))) (d_callTy call_str_int s_str rfl T.b_str PyProof.Rows.boot_str (da_cons (dv 3) da_nil))))))))))

theorem kd__law_sign {P : Program} {w : World} {K : PySem.W.Frag} {mg : Str → Option Value} {base : Heap} (T : Txt K mg) {f : Addr} {fd : FuncData} (F : Fun K "_law_sign" "_law_sign" st__law_sign f fd) (hm : mg "_law_sign" = some (.ref f)) (hb : Binds K fd ["bag"] []) (h__law_draw : KD P w K mg base "_law_draw" 2 F__law_draw 1) :
    KD P w K mg base "_law_sign" 1 F__law_sign 2 :=
  have sc := sc__law_sign
  kd_mk F sc (.inl rfl) hm hb fun cdv A outer s H E hr tk po => by
    unfold g__law_sign
    exact (dss_cons (ds_set (i := 1) sc.nd rfl (by first | exact Or.inl rfl | exact Or.inr rfl) d_str)
  (dss_cons (ds_set (i := 1) sc.nd rfl (by first | exact Or.inl rfl | exact Or.inr rfl) (d_op op_addD s_add (dv 1) d_str))
  (dss_one (ds_ret (d_ix (dv 1) (d_call h__law_draw (hr.mono (by decide)) tk rfl (da_cons (dv 0) (da_cons (d_callB call_len s_len rfl T.b_len PySem.boot_len (da_cons (dv 1) da_nil)) da_nil))) (fun _ _ => rfl))))))

theorem kd__law_bent {P : Program} {w : World} {K : PySem.W.Frag} {mg : Str → Option Value} {base : Heap} (T : Txt K mg) {f : Addr} {fd : FuncData} (F : Fun K "_law_bent" "_law_bent" st__law_bent f fd) (hm : mg "_law_bent" = some (.ref f)) (hb : Binds K fd ["bag"] []) (h__law_number : KD P w K mg base "_law_number" 1 F__law_number 2) (h__law_draw : KD P w K mg base "_law_draw" 2 F__law_draw 1) (h__law_sign : KD P w K mg base "_law_sign" 1 F__law_sign 2) :
    KD P w K mg base "_law_bent" 1 F__law_bent 3 :=
  have sc := sc__law_bent
  kd_mk F sc (.inl rfl) hm hb fun cdv A outer s H E hr tk po => by
    unfold g__law_bent
    exact (dss_cons (ds_set (i := 1) sc.nd rfl (by first | exact Or.inl rfl | exact Or.inr rfl) (d_call h__law_number (hr.mono (by decide)) tk rfl (da_cons (dv 0) da_nil)))
  (dss_cons (ds_set (i := 2) sc.nd rfl (by first | exact Or.inl rfl | exact Or.inr rfl) (d_call h__law_draw (hr.mono (by decide)) tk rfl (da_cons (dv 0) (da_cons (d_op op_addD s_add (d_callB call_len s_len rfl T.b_len PySem.boot_len (da_cons (dv 1) da_nil)) d_int) da_nil))))
  (dss_cons (ds_set (i := 3) sc.nd rfl (by first | exact Or.inl rfl | exact Or.inr rfl) (d_call h__law_draw (hr.mono (by decide)) tk rfl (da_cons (dv 0) (da_cons d_int da_nil))))
  (dss_cons (ds_if (d_cmpT (op_eqA hr.units) s_eq (dv 3) d_int (nomark _)) (dss_one (ds_ret (d_op op_addD s_add (d_op op_addD s_add (d_slice (dv 1) do_none (do_some (dv 2))) (d_call h__law_sign (hr.mono (by decide)) tk rfl (da_cons (dv 0) da_nil))) (d_slice (dv 1) (do_some (dv 2)) do_none)))) dss_nil)
  (dss_cons (ds_if (d_cmpT (op_eqA hr.units) s_eq (dv 3) d_int (nomark _)) (dss_one (ds_ret (d_op op_addD s_add (d_op op_addD s_add (d_slice (dv 1) do_none (do_some (dv 2))) (d_call h__law_sign (hr.mono (by decide)) tk rfl (da_cons (dv 0) da_nil))) (d_slice (dv 1) (do_some (d_op op_addD s_add (dv 2) d_int)) do_none)))) dss_nil)
  (dss_one (ds_ret (d_op op_addD s_add (d_slice (dv 1) do_none (do_some (dv 2))) (d_slice (dv 1) (do_some (d_op op_addD s_add (dv 2) d_int)) do_none)))))))))

theorem kd__law_thing {P : Program} {w : World} {K : PySem.W.Frag} {mg : Str → Option Value} {base : Heap} (T : Txt K mg) {f : Addr} {fd : FuncData} (F : Fun K "_law_thing" "_law_thing" st__law_thing f fd) (hm : mg "_law_thing" = some (.ref f)) (hb : Binds K fd ["bag"] []) (h__law_draw : KD P w K mg base "_law_draw" 2 F__law_draw 1) (h__law_other : KD P w K mg base "_law_other" 1 F__law_other 3) (h__law_number : KD P w K mg base "_law_number" 1 F__law_number 2) (h__law_near_sum : KD P w K mg base "_law_near_sum" 1 F__law_near_sum 2) (h__law_bent : KD P w K mg base "_law_bent" 1 F__law_bent 3) (h__law_sign : KD P w K mg base "_law_sign" 1 F__law_sign 2) :
    KD P w K mg base "_law_thing" 1 F__law_thing 4 :=
  have sc := sc__law_thing
  kd_mk F sc (.inl rfl) hm hb fun cdv A outer s H E hr tk po => by
    unfold g__law_thing
    exact (dss_cons (ds_set (i := 1) sc.nd rfl (by first | exact Or.inl rfl | exact Or.inr rfl) (d_call h__law_draw (hr.mono (by decide)) tk rfl (da_cons (dv 0) (da_cons d_int da_nil))))
  (dss_cons (ds_if (dw_t (dw_or (d_cmpT (op_eqA hr.units) s_eq (dv 1) d_int (nomark _)) (dw_or1 (d_cmpT (op_eqA hr.units) s_eq (dv 1) d_int (nomark _))))) (dss_one (ds_ret (d_call h__law_number (hr.mono (by decide)) tk rfl (da_cons (dv 0) da_nil)))) dss_nil)
  (dss_cons (ds_if (d_cmpT (op_eqA hr.units) s_eq (dv 1) d_int (nomark _)) (dss_one (ds_ret (d_bm PySem.F.plainAttrs_str PySem.F.slot_str_join PySem.F.type_str_join mt_join s_join d_str (da_cons (d_comp (own := [("k", 2)]) (is := [2]) (fin_F _) rfl sc.nd (di_range1 rfl T.b_range (da_cons (d_call h__law_draw (hr.mono (by decide)) tk rfl (da_cons (dv 0) (da_cons d_int da_nil))) da_nil)) (blkOk_by (N := ["bag", "way", "k"]) (sc := defScope st__law_thing) (by decide +kernel)) (by decide) (fun _ _ _ _ _ => (dg_name (i := 2) sc.nd rfl (by first | exact Or.inl rfl | exact Or.inr rfl))) (fun _ _ _ _ _ => dts_nil) (fun _ _ _ _ _ => (d_callTy call_str_int s_str rfl T.b_str PyProof.Rows.boot_str (da_cons (d_call h__law_draw (hr.mono (by decide)) takes0 rfl (da_cons (dv 0) (da_cons d_int da_nil))) da_nil)))) da_nil)))) dss_nil)
  (dss_cons (ds_if (d_cmpT (op_eqA hr.units) s_eq (dv 1) d_int (nomark _)) (dss_one (ds_ret (d_bm PySem.F.plainAttrs_str PySem.F.slot_str_join PySem.F.type_str_join mt_join s_join d_str (da_cons (d_comp (own := [("k", 2)]) (is := [2]) (fin_F _) rfl sc.nd (di_range1 rfl T.b_range (da_cons (d_call h__law_draw (hr.mono (by decide)) tk rfl (da_cons (dv 0) (da_cons d_int da_nil))) da_nil)) (blkOk_by (N := ["bag", "way", "k"]) (sc := defScope st__law_thing) (by decide +kernel)) (by decide) (fun _ _ _ _ _ => (dg_name (i := 2) sc.nd rfl (by first | exact Or.inl rfl | exact Or.inr rfl))) (fun _ _ _ _ _ => dts_nil) (fun _ _ _ _ _ => (d_call h__law_sign (hr.mono (by decide)) takes0 rfl (da_cons (dv 0) da_nil)))) da_nil)))) dss_nil)
  (dss_cons (ds_if (d_cmpT (op_eqA hr.units) s_eq (dv 1) d_int (nomark _)) (dss_one (ds_ret (d_call h__law_near_sum (hr.mono (by decide)) tk rfl (da_cons (dv 0) da_nil)))) dss_nil)
  (dss_cons (ds_if (d_cmpT (op_eqA hr.units) s_eq (dv 1) d_int (nomark _)) (dss_one (ds_ret (d_call h__law_bent (hr.mono (by decide)) tk rfl (da_cons (dv 0) da_nil)))) dss_nil)
  (dss_cons (ds_if (d_cmpT (op_eqA hr.units) s_eq (dv 1) d_int (nomark _)) (dss_one (ds_ret (d_op op_mulD s_mul d_str (d_op op_addD s_add d_int (d_call h__law_draw (hr.mono (by decide)) tk rfl (da_cons (dv 0) (da_cons d_int da_nil))))))) dss_nil)
  (dss_one (ds_ret (d_call h__law_other (hr.mono (by decide)) tk rfl (da_cons (dv 0) da_nil)))))))))))

theorem kd__law_is_number {P : Program} {w : World} {K : PySem.W.Frag} {mg : Str → Option Value} {base : Heap} (T : Txt K mg) {f : Addr} {fd : FuncData} (F : Fun K "_law_is_number" "_law_is_number" st__law_is_number f fd) (hm : mg "_law_is_number" = some (.ref f)) (hb : Binds K fd ["thing"] []) :
    KD P w K mg base "_law_is_number" 1 F__law_is_number 1 :=
  have sc := sc__law_is_number
  kd_mk F sc (.inl rfl) hm hb fun cdv A outer s H E hr tk po => by
    unfold g__law_is_number
    exact (dss_cons (ds_if (dw_t (dw_or (d_not (d_val (d_isi rfl T.b_isinstance (dv 0) rfl T.b_str PyProof.Rows.boot_str))) (dw_or (d_cmpT op_ltD s_lt (d_callB call_len s_len rfl T.b_len PySem.boot_len (da_cons (dv 0) da_nil)) d_int (nomark _)) (dw_or1 (d_cmpT op_gtD s_gt (d_callB call_len s_len rfl T.b_len PySem.boot_len (da_cons (dv 0) da_nil)) d_int (nomark _)))))) (dss_one (ds_ret d_bl)) dss_nil)
  (dss_cons (ds_set (i := 1) sc.nd rfl (by first | exact Or.inl rfl | exact Or.inr rfl) d_int)
  (dss_cons (ds_for po rfl (di_any (dv 0)) (dg_name (i := 2) sc.nd rfl (by first | exact Or.inl rfl | exact Or.inr rfl)) (dss_cons (ds_if (d_cmpT op_notInD s_notIn (dv 2) d_str (by rfl)) (dss_one (ds_ret d_bl)) dss_nil)
  (dss_one (ds_set (i := 1) sc.nd rfl (by first | exact Or.inl rfl | exact Or.inr rfl) (d_op op_addD s_add (dv 1) (d_callTy call_intD s_int rfl T.b_int PyProof.Rows.boot_int (da_cons (dv 2) da_nil)))))))
  (dss_one (ds_ret (d_cmp op_leD s_le (dv 1) d_int (nomark _)))))))

theorem kd__law_says {P : Program} {w : World} {K : PySem.W.Frag} {mg : Str → Option Value} {base : Heap} (T : Txt K mg) {f : Addr} {fd : FuncData} (F : Fun K "_law_says" "_law_says" st__law_says f fd) (hm : mg "_law_says" = some (.ref f)) (hb : Binds K fd ["told", "due"] []) :
    KD P w K mg base "_law_says" 2 F__law_says 1 :=
  have sc := sc__law_says
  kd_mk F sc (.inl rfl) hm hb fun cdv A outer s H E hr tk po => by
    unfold g__law_says
    exact (dss_one (ds_ret (d_andV (d_isi rfl T.b_isinstance (dv 0) rfl T.b_bool PyProof.Rows.boot_bool) (d_one (d_cmp (op_eqA hr.units) s_eq (dv 0) (dv 1) (nomark _))))))

theorem kd_is_number {P : Program} {w : World} {K : PySem.W.Frag} {mg : Str → Option Value} {base : Heap} (T : Txt K mg) {f : Addr} {fd : FuncData} (F : Fun K "is_number" "is_number" st_is_number f fd) (hm : mg "is_number" = some (.ref f)) (hb : Binds K fd ["thing"] []) :
    KD P w K mg base "is_number" 1 F_is_number 1 :=
  have sc := sc_is_number
  kd_mk F sc (.inl rfl) hm hb fun cdv A outer s H E hr tk po => by
    unfold g_is_number
    exact (dss_cons (ds_if (dw_t (dw_or (d_not (d_val (d_isi rfl T.b_isinstance (dv 0) rfl T.b_str PyProof.Rows.boot_str))) (dw_or1 (d_not (d_chnT op_leD op_leD s_le s_le d_int (d_callB call_len s_len rfl T.b_len PySem.boot_len (da_cons (dv 0) da_nil)) (d_globE T.c_MOST_DIGITS rfl fun _ _ _ => .int _)))))) (dss_one (ds_ret d_bl)) dss_nil)
  (dss_cons (ds_set (i := 1) sc.nd rfl (by first | exact Or.inl rfl | exact Or.inr rfl) d_int)
  (dss_cons (ds_for po rfl (di_any (dv 0)) (dg_name (i := 2) sc.nd rfl (by first | exact Or.inl rfl | exact Or.inr rfl)) (dss_cons (ds_if (d_cmpT op_notInD s_notIn (dv 2) (d_globE T.c_DIGITS rfl fun _ _ _ => .str _) (by rfl)) (dss_one (ds_ret d_bl)) dss_nil)
  (dss_one (ds_aug (i := 1) sc.nd rfl (by first | exact Or.inl rfl | exact Or.inr rfl) (d_op op_addD s_add (d_sindex rfl tk (d_globE T.c_DIGITS rfl fun _ _ _ => .str _) (da_cons (dv 2) da_nil)) d_int) op_iaddD s_iadd))))
  (dss_one (ds_ret (d_cmp op_leD s_le (dv 1) (d_globE T.c_MOST_STROKES rfl fun _ _ _ => .int _) (nomark _)))))))

theorem kd_check_number {P : Program} {w : World} {K : PySem.W.Frag} {mg : Str → Option Value} {base : Heap} (T : Txt K mg) {f : Addr} {fd : FuncData} (F : Fun K "check_number" "check_number" st_check_number f fd) (hm : mg "check_number" = some (.ref f)) (hb : Binds K fd ["thing"] []) (h_is_number : KD P w K mg base "is_number" 1 F_is_number 1) (x_BadNumber : XK' P w K mg base "BadNumber" ["number"] 1) :
    KD P w K mg base "check_number" 1 F_check_number 3 :=
  have sc := sc_check_number
  kd_mk F sc (.inl rfl) hm hb fun cdv A outer s H E hr tk po => by
    unfold g_check_number
    exact (dss_one (ds_if (d_not (d_val (d_call h_is_number (hr.mono (by decide)) tk rfl (da_cons (dv 0) da_nil)))) (dss_one (ds_raise rfl x_BadNumber (hr.mono (by decide)) tk rfl (da_cons (dv 0) da_nil))) dss_nil))

theorem kd_blocks {P : Program} {w : World} {K : PySem.W.Frag} {mg : Str → Option Value} {base : Heap} (T : Txt K mg) {f : Addr} {fd : FuncData} (F : Fun K "blocks" "blocks" st_blocks f fd) (hm : mg "blocks" = some (.ref f)) (hb : Binds K fd ["number"] []) (h_check_number : KD P w K mg base "check_number" 1 F_check_number 3) :
    KD P w K mg base "blocks" 1 F_blocks 4 :=
  have sc := sc_blocks
  kd_mk F sc (.inl rfl) hm hb fun cdv A outer s H E hr tk po => by
    unfold g_blocks
    exact (dss_cons (ds_expr (d_call h_check_number (hr.mono (by decide)) tk rfl (da_cons (dv 0) da_nil)))
  (dss_one (ds_ret (d_callTy call_tuple_of s_tuple rfl T.b_tuple PyProof.Rows.boot_tuple (da_cons (d_comp (own := [("sign", 1)]) (is := [1]) (fin_F _) rfl sc.nd (di_any (dv 0)) (blkOk_by (N := ["number", "sign"]) (sc := defScope st_blocks) (by decide +kernel)) (by decide) (fun _ _ _ _ _ => (dg_name (i := 1) sc.nd rfl (by first | exact Or.inl rfl | exact Or.inr rfl))) (fun _ _ _ _ _ => dts_nil) (fun _ _ _ _ _ => (d_callTy call_intD s_int rfl T.b_int PyProof.Rows.boot_int (da_cons (dv 1) da_nil)))) da_nil)))))

theorem kd_row_of {P : Program} {w : World} {K : PySem.W.Frag} {mg : Str → Option Value} {base : Heap} (T : Txt K mg) {f : Addr} {fd : FuncData} (F : Fun K "row_of" "row_of" st_row_of f fd) (hm : mg "row_of" = some (.ref f)) (hb : Binds K fd ["number"] []) (h_blocks : KD P w K mg base "blocks" 1 F_blocks 4) :
    KD P w K mg base "row_of" 1 F_row_of 5 :=
  have sc := sc_row_of
  kd_mk F sc (.inl rfl) hm hb fun cdv A outer s H E hr tk po => by
    unfold g_row_of
    exact (dss_cons (ds_set (i := 1) sc.nd rfl (by first | exact Or.inl rfl | exact Or.inr rfl) (d_own da_nil))
  (dss_cons (ds_for po rfl (di_any (d_call h_blocks (hr.mono (by decide)) tk rfl (da_cons (dv 0) da_nil))) (dg_name (i := 2) sc.nd rfl (by first | exact Or.inl rfl | exact Or.inr rfl)) (dss_cons (ds_expr (d_bm PySem.F.plainAttrs_list PySem.F.slot_list_extend PySem.F.type_list_extend mt_extend s_extend (dv 1) (da_cons (d_op op_mulD s_mul (d_lst (da_cons d_int (da_cons d_int da_nil))) (dv 2)) da_nil)))
  (dss_one (ds_expr (d_bm PySem.F.plainAttrs_list PySem.F.slot_list_extend PySem.F.type_list_extend mt_extend s_extend (dv 1) (da_cons (d_lst (da_cons d_int (da_cons d_int da_nil))) da_nil))))))
  (dss_cons (ds_expr (d_bm PySem.F.plainAttrs_list PySem.F.slot_list_extend PySem.F.type_list_extend mt_extend s_extend (dv 1) (da_cons (d_lst (da_cons d_int (da_cons d_int da_nil))) da_nil)))
  (dss_one (ds_ret (d_callTy call_tuple_of s_tuple rfl T.b_tuple PyProof.Rows.boot_tuple (da_cons (dv 1) da_nil)))))))

theorem kd_length_of {P : Program} {w : World} {K : PySem.W.Frag} {mg : Str → Option Value} {base : Heap} (T : Txt K mg) {f : Addr} {fd : FuncData} (F : Fun K "length_of" "length_of" st_length_of f fd) (hm : mg "length_of" = some (.ref f)) (hb : Binds K fd ["number"] []) (h_blocks : KD P w K mg base "blocks" 1 F_blocks 4) :
    KD P w K mg base "length_of" 1 F_length_of 5 :=
  have sc := sc_length_of
  kd_mk F sc (.inl rfl) hm hb fun cdv A outer s H E hr tk po => by
    unfold g_length_of
    exact (dss_cons (ds_set (i := 1) sc.nd rfl (by first | exact Or.inl rfl | exact Or.inr rfl) (d_call h_blocks (hr.mono (by decide)) tk rfl (da_cons (dv 0) da_nil)))
  (dss_one (ds_ret (d_op op_mulD s_mul d_int (d_op op_addD s_add (d_op op_addD s_add (d_callB (call_sumA rfl) s_sum rfl T.b_sum PyProof.Rows.boot_sum (da_cons (dv 1) da_nil)) (d_callB call_len s_len rfl T.b_len PySem.boot_len (da_cons (dv 1) da_nil))) d_int)))))

theorem kd_goes_ahead {P : Program} {w : World} {K : PySem.W.Frag} {mg : Str → Option Value} {base : Heap} (T : Txt K mg) {f : Addr} {fd : FuncData} (F : Fun K "goes_ahead" "goes_ahead" st_goes_ahead f fd) (hm : mg "goes_ahead" = some (.ref f)) (hb : Binds K fd ["one", "other"] []) (h_row_of : KD P w K mg base "row_of" 1 F_row_of 5) :
    KD P w K mg base "goes_ahead" 2 F_goes_ahead 6 :=
  have sc := sc_goes_ahead
  kd_mk F sc (.inl rfl) hm hb fun cdv A outer s H E hr tk po => by
    unfold g_goes_ahead
    exact (dss_cons (ds_set (i := 2) sc.nd rfl (by first | exact Or.inl rfl | exact Or.inr rfl) (d_call h_row_of (hr.mono (by decide)) tk rfl (da_cons (dv 0) da_nil)))
  (dss_cons (ds_set (i := 3) sc.nd rfl (by first | exact Or.inl rfl | exact Or.inr rfl) (d_call h_row_of (hr.mono (by decide)) tk rfl (da_cons (dv 1) da_nil)))
  (dss_cons (ds_for po rfl (di_zip rfl T.b_zip (da_cons (dv 2) (da_cons (dv 3) da_nil))) (dg_tup rfl (dgs_cons (dg_name (i := 4) sc.nd rfl (by first | exact Or.inl rfl | exact Or.inr rfl)) (dgs_cons (dg_name (i := 5) sc.nd rfl (by first | exact Or.inl rfl | exact Or.inr rfl)) dgs_nil))) (dss_one (ds_if (d_cmpT (op_neA hr.units) s_ne (dv 4) (dv 5) (nomark _)) (dss_one (ds_ret (d_cmp (op_eqA hr.units) s_eq (dv 4) d_int (nomark _)))) dss_nil)))
  (dss_one (ds_ret d_bl)))))

theorem kd__law_tried {P : Program} {w : World} {K : PySem.W.Frag} {mg : Str → Option Value} {base : Heap} (T : Txt K mg) {f : Addr} {fd : FuncData} (F : Fun K "_law_tried" "_law_tried" st__law_tried f fd) (hm : mg "_law_tried" = some (.ref f)) (hb : Binds K fd ["which", "thing", "other"] []) (h_blocks : KD P w K mg base "blocks" 1 F_blocks 4) (h_row_of : KD P w K mg base "row_of" 1 F_row_of 5) (h_length_of : KD P w K mg base "length_of" 1 F_length_of 5) (h_goes_ahead : KD P w K mg base "goes_ahead" 2 F_goes_ahead 6) :
    KG P w K mg base "_law_tried" 3 F__law_tried 7 :=
  have sc := sc__law_tried
  kg_mk F sc (.inl rfl) hm hb fun cdv A outer s H E hr tk po gd => by
    unfold g__law_tried
    exact (dss_cons (ds_try (i := 3) rfl rfl sc.nd rfl rfl ⟨rfl, by decide, .inl T.n_BadNumber.choose_spec.1⟩ tk T.n_BadNumber.choose_spec.2 (fun Wb pn xe tk po => (dss_one (ds_if (d_cmpT (op_eqA hr.units) s_eq (dv 0) d_int (nomark _)) (dss_one (ds_expr (d_call h_blocks (hr.mono (by decide)) tk rfl (da_cons (dv 1) da_nil)))) (dss_one (ds_if (d_cmpT (op_eqA hr.units) s_eq (dv 0) d_int (nomark _)) (dss_one (ds_expr (d_call h_row_of (hr.mono (by decide)) tk rfl (da_cons (dv 1) da_nil)))) (dss_one (ds_if (d_cmpT (op_eqA hr.units) s_eq (dv 0) d_int (nomark _)) (dss_one (ds_expr (d_call h_length_of (hr.mono (by decide)) tk rfl (da_cons (dv 1) da_nil)))) (dss_one (ds_expr (d_call h_goes_ahead (hr.mono (by decide)) tk rfl (da_cons (dv 1) (da_cons (dv 2) da_nil)))))))))))) (fun a oe cls d pn hz hf => (dss_cons (ds_set (i := 4) sc.nd rfl (by first | exact Or.inl rfl | exact Or.inr rfl) (d_andV (d_isX hz hf (pe_glob (v := .ref T.i_WheelError.choose) rfl T.i_WheelError.choose_spec.1 rfl) (fun _ r => r) T.i_WheelError.choose_spec.2 rfl T.b_isinstance (dv 3)) (d_andV (d_isX hz hf (pe_bltn (v := .ty "ValueError") rfl T.b_ValueError PyProof.Rows.Boot.«ValueError» rfl) (fun _ r => r) T.i_ValueError rfl T.b_isinstance (dv 3)) (d_one (d_notV (d_isX hz hf (pe_glob (v := .ref T.i_BadOffset.choose) rfl T.i_BadOffset.choose_spec.1 rfl) (fun _ r => r) T.i_BadOffset.choose_spec.2 rfl T.b_isinstance (dv 3)))))))
  (dss_one (ds_ret (d_tup (da_cons (dv 4) (da_cons (d_callB (call_reprD gd (have q := hu100 hr; q)) s_repr rfl T.b_repr PyProof.Rows.boot_repr (da_cons (d_xf T.f_number hz hf (dv 3)) da_nil)) da_nil))))))))
  (dss_one (ds_ret d_non)))

theorem fn_law {P : Program} {w : World} {K : PySem.W.Frag} {mg : Str → Option Value} {base : Heap} (T : Txt K mg) {f : Addr} {fd : FuncData} (F : Fun K "law" "law" st_law f fd) (hb : Binds K fd ["script"] []) (h__law_bag : KD P w K mg base "_law_bag" 1 F__law_bag 1) (h__law_number : KD P w K mg base "_law_number" 1 F__law_number 2) (h__law_thing : KD P w K mg base "_law_thing" 1 F__law_thing 4) (h__law_is_number : KD P w K mg base "_law_is_number" 1 F__law_is_number 1) (h__law_says : KD P w K mg base "_law_says" 2 F__law_says 1) (h__law_tried : KG P w K mg base "_law_tried" 3 F__law_tried 7) (h_is_number : KD P w K mg base "is_number" 1 F_is_number 1) :
    FnG P w K mg base 8 f fd ["script"] (spD ⟨K, mg, none⟩ F_law 1) :=
  have sc := sc_law
  fn_okG (ps := ["script"]) F sc (.inl rfl) fun cdv A outer s H E hr tk po gd => by
    unfold g_law
    exact (dss_cons (ds_set (i := 1) sc.nd rfl (by first | exact Or.inl rfl | exact Or.inr rfl) (d_call h__law_bag (hr.mono (by decide)) tk rfl (da_cons (dv 0) da_nil)))
  (dss_cons (ds_setC (i := 2) (own := [("k", 5)]) (is := [5]) (fin_F _) rfl sc.nd rfl rfl (sw_true rfl rfl rfl (by decide +kernel)) (di_range1 rfl T.b_range (da_cons d_int da_nil)) (blkOk_by (N := ["script", "bag", "things", "kept", "good", "k", "thing", "due", "wanted", "which", "other"]) (sc := defScope st_law) (by decide +kernel)) (by decide) (fun _ _ _ _ _ => (dg_name (i := 5) sc.nd rfl (by first | exact Or.inl rfl | exact Or.inr rfl))) (fun _ _ _ _ _ => dts_nil) (fun _ _ _ _ _ => (d_call h__law_thing (hr.mono (by decide)) takes0 rfl (da_cons (dv 1) da_nil))))
  (dss_cons (ds_setC (i := 3) (own := [("thing", 6)]) (is := [6]) (fin_F _) rfl sc.nd rfl rfl (sw_true rfl rfl rfl (by decide +kernel)) (di_any (dv 2)) (blkOk_by (N := ["script", "bag", "things", "kept", "good", "k", "thing", "due", "wanted", "which", "other"]) (sc := defScope st_law) (by decide +kernel)) (by decide) (fun _ _ _ _ _ => (dg_name (i := 6) sc.nd rfl (by first | exact Or.inl rfl | exact Or.inr rfl))) (fun _ _ _ _ _ => dts_nil) (fun _ _ _ _ _ => (d_callB (call_reprD gd (have q := hu100 hr; q)) s_repr rfl T.b_repr PyProof.Rows.boot_repr (da_cons (dv 6) da_nil))))
  (dss_cons (ds_set (i := 4) sc.nd rfl (by first | exact Or.inl rfl | exact Or.inr rfl) (d_call h__law_number (hr.mono (by decide)) tk rfl (da_cons (dv 1) da_nil)))
  (dss_cons (ds_for po rfl (di_range1 rfl T.b_range (da_cons d_int da_nil)) (dg_name (i := 5) sc.nd rfl (by first | exact Or.inl rfl | exact Or.inr rfl)) (dss_cons (ds_set (i := 6) sc.nd rfl (by first | exact Or.inl rfl | exact Or.inr rfl) (d_ix (dv 2) (dv 5) (fun _ _ => rfl)))
  (dss_cons (ds_set (i := 7) sc.nd rfl (by first | exact Or.inl rfl | exact Or.inr rfl) (d_call h__law_is_number (hr.mono (by decide)) tk rfl (da_cons (dv 6) da_nil)))
  (dss_cons (ds_if (d_not (d_val (d_call h__law_says (hr.mono (by decide)) tk rfl (da_cons (d_call h_is_number (hr.mono (by decide)) tk rfl (da_cons (dv 6) da_nil)) (da_cons (dv 7) da_nil))))) (dss_one (ds_ret d_bl)) dss_nil)
  (dss_cons (ds_set (i := 8) sc.nd rfl (by first | exact Or.inl rfl | exact Or.inr rfl) d_non)
  (dss_cons (ds_if (d_not (d_val (dv 7))) (dss_one (ds_set (i := 8) sc.nd rfl (by first | exact Or.inl rfl | exact Or.inr rfl) (d_tup (da_cons d_bl (da_cons (d_ix (dv 3) (dv 5) (fun _ _ => rfl)) da_nil))))) dss_nil)
  (dss_cons (ds_for po rfl (di_range1 rfl T.b_range (da_cons d_int da_nil)) (dg_name (i := 9) sc.nd rfl (by first | exact Or.inl rfl | exact Or.inr rfl)) (dss_one (ds_if (d_cmpT (op_neA hr.units) s_ne (d_callG h__law_tried (hr.mono (by decide)) gd tk rfl (da_cons (dv 9) (da_cons (dv 6) (da_cons (dv 4) da_nil)))) (dv 8) (nomark _)) (dss_one (ds_ret d_bl)) dss_nil)))
  (dss_cons (ds_if (d_cmpT (op_neA hr.units) s_ne (d_callG h__law_tried (hr.mono (by decide)) gd tk rfl (da_cons d_int (da_cons (dv 4) (da_cons (dv 6) da_nil)))) (dv 8) (nomark _)) (dss_one (ds_ret d_bl)) dss_nil)
  (dss_cons (ds_set (i := 10) sc.nd rfl (by first | exact Or.inl rfl | exact Or.inr rfl) (d_ix (dv 2) (d_op op_sub s_sub (d_op op_addD s_add (dv 5) d_int) (d_op op_mulD s_mul d_int (d_callTy call_intD s_int rfl T.b_int PyProof.Rows.boot_int (da_cons (d_cmp (op_eqA hr.units) s_eq (dv 5) d_int (nomark _)) da_nil)))) (fun _ _ => rfl)))
  (dss_cons (ds_if (dw_t (dw_and (d_cmpT op_isN s_isN (dv 8) d_non (nomark _)) (dw_and1 (d_not (d_val (d_call h__law_is_number (hr.mono (by decide)) tk rfl (da_cons (dv 10) da_nil))))))) (dss_one (ds_set (i := 8) sc.nd rfl (by first | exact Or.inl rfl | exact Or.inr rfl) (d_tup (da_cons d_bl (da_cons (d_callB (call_reprD gd (have q := hu100 hr; q)) s_repr rfl T.b_repr PyProof.Rows.boot_repr (da_cons (dv 10) da_nil)) da_nil))))) dss_nil)
  (dss_one (ds_if (d_cmpT (op_neA hr.units) s_ne (d_callG h__law_tried (hr.mono (by decide)) gd tk rfl (da_cons d_int (da_cons (dv 6) (da_cons (dv 10) da_nil)))) (dv 8) (nomark _)) (dss_one (ds_ret d_bl)) dss_nil))))))))))))
  (dss_one (ds_ret (d_cmp (op_eqA hr.units) s_eq (d_comp (own := [("thing", 6)]) (is := [6]) (fin_F _) rfl sc.nd (di_any (dv 2)) (blkOk_by (N := ["script", "bag", "things", "kept", "good", "k", "thing", "due", "wanted", "which", "other"]) (sc := defScope st_law) (by decide +kernel)) (by decide) (fun _ _ _ _ _ => (dg_name (i := 6) sc.nd rfl (by first | exact Or.inl rfl | exact Or.inr rfl))) (fun _ _ _ _ _ => dts_nil) (fun _ _ _ _ _ => (d_callB (call_reprD gd (have q := hu100 hr; q)) s_repr rfl T.b_repr PyProof.Rows.boot_repr (da_cons (dv 6) da_nil)))) (dv 3) (nomark _)))))))))

/-! ### the end -/
def spLaw (K : PySem.W.Frag) : Sp := fun vs H Q _ => ∃ (a : Addr) (ns : List Int), vs = [.ref a] ∧ SqL K H a (ns.map V.int) ∧ ns.length ≤ 63 ∧ ∀ H', Q (.bl true) H'
theorem sp_law (law_true : ∀ (ns : List Int), ns.length ≤ 63 → ∃ S, F_law [.rol (ns.map D.int)] [] = .ok (.bl true) S) {K : PySem.W.Frag} {mg : Str → Option Value} {vs : List V} {H : Hp} {Q : VK} {E : XK} (h : spLaw K vs H Q E) : spD ⟨K, mg, none⟩ F_law 1 vs H Q E := by
  obtain ⟨a, ns, rfl, hs, hl, q⟩ := h
  obtain ⟨S, e⟩ := law_true ns hl
  refine ⟨rfl, [], [], [.rol (ns.map D.int)], .cons (.rol (by rw [era_nil]; exact hs) (RpL.map (fun i => .int i) ns)) .nil, ⟨.nil, rfl, fun n a c h => by simp at h⟩, ?_⟩
  rw [e]
  intro v ms' H' f s r
  cases r
  exact q H'
theorem all_mk (law_true : ∀ (ns : List Int), ns.length ≤ 63 → ∃ S, F_law [.rol (ns.map D.int)] [] = .ok (.bl true) S) {l : PySem.W.OpenLaw} {w : World} {K : PySem.W.Frag} {h : Heap} {mg : Str → Option Value} {fa : Addr} {f0 f1 f2 f3 f4 f5 f6 f7 f8 f9 f10 f11 f12 f13 f14 f15 f16 f17 : Addr} {od0 an0 od1 an1 od2 an2 od3 an3 od4 an4 od5 an5 od6 an6 od7 an7 od8 an8 od9 an9 od10 an10 od11 an11 od12 an12 od13 an13 od14 an14 od15 an15 od16 an16 od17 an17 : Option Addr} {sl0 sl1 sl2 sl3 sl4 sl5 sl6 sl7 sl8 sl9 sl10 sl11 sl12 sl13 sl14 sl15 sl16 sl17 : Array (Option Value)} {oc0 kV0 dc0 pm0 cd0 ct0 oc1 kV1 dc1 pm1 cd1 ct1 oc2 kV2 dc2 pm2 cd2 ct2 oc3 kV3 dc3 pm3 cd3 ct3 oc4 kV4 dc4 pm4 cd4 ct4 oc5 kV5 dc5 pm5 cd5 ct5 oc6 kV6 dc6 pm6 cd6 ct6 oc7 kV7 dc7 pm7 cd7 ct7 oc8 kV8 dc8 pm8 cd8 ct8 oc9 kV9 dc9 pm9 cd9 ct9 oc10 kV10 dc10 pm10 cd10 ct10 oc11 kV11 dc11 pm11 cd11 ct11 oc12 kV12 dc12 pm12 cd12 ct12 oc13 kV13 dc13 pm13 cd13 ct13 oc14 kV14 dc14 pm14 cd14 ct14 oc15 kV15 dc15 pm15 cd15 ct15 oc16 kV16 dc16 pm16 cd16 ct16 oc17 kV17 dc17 pm17 cd17 ct17 : Value} {tk_DIGITS tk_MOST_DIGITS tk_MOST_STROKES : Tok} {C_WheelError N_WheelError : Addr} {q_WheelError : Str} {bs_WheelError bm_WheelError sub_WheelError : List Value} {sn_WheelError : List Str} {ab_WheelError : Bool} {col_WheelError : Option Bool} {dd_WheelError : Option Addr} {k0_WheelError k1_WheelError k2_WheelError k3_WheelError k5_WheelError : Option Value} {C_BadNumber N_BadNumber : Addr} {q_BadNumber : Str} {bs_BadNumber bm_BadNumber sub_BadNumber : List Value} {sn_BadNumber : List Str} {ab_BadNumber : Bool} {col_BadNumber : Option Bool} {dd_BadNumber : Option Addr} {k0_BadNumber k1_BadNumber k2_BadNumber k3_BadNumber k5_BadNumber : Option Value} {fI_BadNumber : Addr} {od_BadNumber an_BadNumber : Option Addr} {sl_BadNumber : Array (Option Value)} {oc_BadNumber kV_BadNumber dc_BadNumber pm_BadNumber cd_BadNumber ct_BadNumber : Value} {C_BadOffset N_BadOffset : Addr} {q_BadOffset : Str} {bs_BadOffset bm_BadOffset sub_BadOffset : List Value} {sn_BadOffset : List Str} {ab_BadOffset : Bool} {col_BadOffset : Option Bool} {dd_BadOffset : Option Addr} {k0_BadOffset k1_BadOffset k2_BadOffset k3_BadOffset k5_BadOffset : Option Value} (X : K.In h) (G : h.Ns mainGlobals mg) (hfa : mg "law" = some (.ref fa))
    (a0 : PySem.W.nsIn K mainGlobals "_law_bag" = some (some (.ref f0))) (l0 : K.lookup f0 = some ⟨oc0, od0, .func (PySem.W.fnOf "_law_bag" "_law_bag" (defArgs st__law_bag) (defBody st__law_bag) (defScope st__law_bag) .none kV0 dc0 pm0 an0 cd0 ct0), sl0⟩) (c0 : PySem.W.codeIn K cd0 "_law_bag" = true) (k0 : PySem.W.keepIn K (.ref f0) = true)
    (a1 : PySem.W.nsIn K mainGlobals "_law_draw" = some (some (.ref f1))) (l1 : K.lookup f1 = some ⟨oc1, od1, .func (PySem.W.fnOf "_law_draw" "_law_draw" (defArgs st__law_draw) (defBody st__law_draw) (defScope st__law_draw) .none kV1 dc1 pm1 an1 cd1 ct1), sl1⟩) (c1 : PySem.W.codeIn K cd1 "_law_draw" = true) (k1 : PySem.W.keepIn K (.ref f1) = true)
    (a2 : PySem.W.nsIn K mainGlobals "_law_number" = some (some (.ref f2))) (l2 : K.lookup f2 = some ⟨oc2, od2, .func (PySem.W.fnOf "_law_number" "_law_number" (defArgs st__law_number) (defBody st__law_number) (defScope st__law_number) .none kV2 dc2 pm2 an2 cd2 ct2), sl2⟩) (c2 : PySem.W.codeIn K cd2 "_law_number" = true) (k2 : PySem.W.keepIn K (.ref f2) = true)
    (a3 : PySem.W.nsIn K mainGlobals "_law_other" = some (some (.ref f3))) (l3 : K.lookup f3 = some ⟨oc3, od3, .func (PySem.W.fnOf "_law_other" "_law_other" (defArgs st__law_other) (defBody st__law_other) (defScope st__law_other) .none kV3 dc3 pm3 an3 cd3 ct3), sl3⟩) (c3 : PySem.W.codeIn K cd3 "_law_other" = true) (k3 : PySem.W.keepIn K (.ref f3) = true)
    (a4 : PySem.W.nsIn K mainGlobals "_law_near_sum" = some (some (.ref f4))) (l4 : K.lookup f4 = some ⟨oc4, od4, .func (PySem.W.fnOf "_law_near_sum" "_law_near_sum" (defArgs st__law_near_sum) (defBody st__law_near_sum) (defScope st__law_near_sum) .none kV4 dc4 pm4 an4 cd4 ct4), sl4⟩) (c4 : PySem.W.codeIn K cd4 "_law_near_sum" = true) (k4 : PySem.W.keepIn K (.ref f4) = true)
    (a5 : PySem.W.nsIn K mainGlobals "_law_sign" = some (some (.ref f5))) (l5 : K.lookup f5 = some ⟨oc5, od5, .func (PySem.W.fnOf "_law_sign" "_law_sign" (defArgs st__law_sign) (defBody st__law_sign) (defScope st__law_sign) .none kV5 dc5 pm5 an5 cd5 ct5), sl5⟩) (c5 : PySem.W.codeIn K cd5 "_law_sign" = true) (k5 : PySem.W.keepIn K (.ref f5) = true)
    (a6 : PySem.W.nsIn K mainGlobals "_law_bent" = some (some (.ref f6))) (l6 : K.lookup f6 = some ⟨oc6, od6, .func (PySem.W.fnOf "_law_bent" "_law_bent" (defArgs st__law_bent) (defBody st__law_bent) (defScope st__law_bent) .none kV6 dc6 pm6 an6 cd6 ct6), sl6⟩) (c6 : PySem.W.codeIn K cd6 "_law_bent" = true) (k6 : PySem.W.keepIn K (.ref f6) = true)
    (a7 : PySem.W.nsIn K mainGlobals "_law_thing" = some (some (.ref f7))) (l7 : K.lookup f7 = some ⟨oc7, od7, .func (PySem.W.fnOf "_law_thing" "_law_thing" (defArgs st__law_thing) (defBody st__law_thing) (defScope st__law_thing) .none kV7 dc7 pm7 an7 cd7 ct7), sl7⟩) (c7 : PySem.W.codeIn K cd7 "_law_thing" = true) (k7 : PySem.W.keepIn K (.ref f7) = true)
    (a8 : PySem.W.nsIn K mainGlobals "_law_is_number" = some (some (.ref f8))) (l8 : K.lookup f8 = some ⟨oc8, od8, .func (PySem.W.fnOf "_law_is_number" "_law_is_number" (defArgs st__law_is_number) (defBody st__law_is_number) (defScope st__law_is_number) .none kV8 dc8 pm8 an8 cd8 ct8), sl8⟩) (c8 : PySem.W.codeIn K cd8 "_law_is_number" = true) (k8 : PySem.W.keepIn K (.ref f8) = true)
    (a9 : PySem.W.nsIn K mainGlobals "_law_says" = some (some (.ref f9))) (l9 : K.lookup f9 = some ⟨oc9, od9, .func (PySem.W.fnOf "_law_says" "_law_says" (defArgs st__law_says) (defBody st__law_says) (defScope st__law_says) .none kV9 dc9 pm9 an9 cd9 ct9), sl9⟩) (c9 : PySem.W.codeIn K cd9 "_law_says" = true) (k9 : PySem.W.keepIn K (.ref f9) = true)
    (a10 : PySem.W.nsIn K mainGlobals "is_number" = some (some (.ref f10))) (l10 : K.lookup f10 = some ⟨oc10, od10, .func (PySem.W.fnOf "is_number" "is_number" (defArgs st_is_number) (defBody st_is_number) (defScope st_is_number) .none kV10 dc10 pm10 an10 cd10 ct10), sl10⟩) (c10 : PySem.W.codeIn K cd10 "is_number" = true) (k10 : PySem.W.keepIn K (.ref f10) = true)
    (a11 : PySem.W.nsIn K mainGlobals "check_number" = some (some (.ref f11))) (l11 : K.lookup f11 = some ⟨oc11, od11, .func (PySem.W.fnOf "check_number" "check_number" (defArgs st_check_number) (defBody st_check_number) (defScope st_check_number) .none kV11 dc11 pm11 an11 cd11 ct11), sl11⟩) (c11 : PySem.W.codeIn K cd11 "check_number" = true) (k11 : PySem.W.keepIn K (.ref f11) = true)
    (a12 : PySem.W.nsIn K mainGlobals "blocks" = some (some (.ref f12))) (l12 : K.lookup f12 = some ⟨oc12, od12, .func (PySem.W.fnOf "blocks" "blocks" (defArgs st_blocks) (defBody st_blocks) (defScope st_blocks) .none kV12 dc12 pm12 an12 cd12 ct12), sl12⟩) (c12 : PySem.W.codeIn K cd12 "blocks" = true) (k12 : PySem.W.keepIn K (.ref f12) = true)
    (a13 : PySem.W.nsIn K mainGlobals "row_of" = some (some (.ref f13))) (l13 : K.lookup f13 = some ⟨oc13, od13, .func (PySem.W.fnOf "row_of" "row_of" (defArgs st_row_of) (defBody st_row_of) (defScope st_row_of) .none kV13 dc13 pm13 an13 cd13 ct13), sl13⟩) (c13 : PySem.W.codeIn K cd13 "row_of" = true) (k13 : PySem.W.keepIn K (.ref f13) = true)
    (a14 : PySem.W.nsIn K mainGlobals "length_of" = some (some (.ref f14))) (l14 : K.lookup f14 = some ⟨oc14, od14, .func (PySem.W.fnOf "length_of" "length_of" (defArgs st_length_of) (defBody st_length_of) (defScope st_length_of) .none kV14 dc14 pm14 an14 cd14 ct14), sl14⟩) (c14 : PySem.W.codeIn K cd14 "length_of" = true) (k14 : PySem.W.keepIn K (.ref f14) = true)
    (a15 : PySem.W.nsIn K mainGlobals "goes_ahead" = some (some (.ref f15))) (l15 : K.lookup f15 = some ⟨oc15, od15, .func (PySem.W.fnOf "goes_ahead" "goes_ahead" (defArgs st_goes_ahead) (defBody st_goes_ahead) (defScope st_goes_ahead) .none kV15 dc15 pm15 an15 cd15 ct15), sl15⟩) (c15 : PySem.W.codeIn K cd15 "goes_ahead" = true) (k15 : PySem.W.keepIn K (.ref f15) = true)
    (a16 : PySem.W.nsIn K mainGlobals "_law_tried" = some (some (.ref f16))) (l16 : K.lookup f16 = some ⟨oc16, od16, .func (PySem.W.fnOf "_law_tried" "_law_tried" (defArgs st__law_tried) (defBody st__law_tried) (defScope st__law_tried) .none kV16 dc16 pm16 an16 cd16 ct16), sl16⟩) (c16 : PySem.W.codeIn K cd16 "_law_tried" = true) (k16 : PySem.W.keepIn K (.ref f16) = true)
    (a17 : PySem.W.nsIn K mainGlobals "law" = some (some (.ref f17))) (l17 : K.lookup f17 = some ⟨oc17, od17, .func (PySem.W.fnOf "law" "law" (defArgs st_law) (defBody st_law) (defScope st_law) .none kV17 dc17 pm17 an17 cd17 ct17), sl17⟩) (c17 : PySem.W.codeIn K cd17 "law" = true) (k17 : PySem.W.keepIn K (.ref f17) = true)
    (z_ValueError : PySem.W.nsIn K mainGlobals "ValueError" = some none)
    (z_bool : PySem.W.nsIn K mainGlobals "bool" = some none)
    (z_int : PySem.W.nsIn K mainGlobals "int" = some none)
    (z_isinstance : PySem.W.nsIn K mainGlobals "isinstance" = some none)
    (z_len : PySem.W.nsIn K mainGlobals "len" = some none)
    (z_min : PySem.W.nsIn K mainGlobals "min" = some none)
    (z_range : PySem.W.nsIn K mainGlobals "range" = some none)
    (z_repr : PySem.W.nsIn K mainGlobals "repr" = some none)
    (z_str : PySem.W.nsIn K mainGlobals "str" = some none)
    (z_sum : PySem.W.nsIn K mainGlobals "sum" = some none)
    (z_tuple : PySem.W.nsIn K mainGlobals "tuple" = some none)
    (z_zip : PySem.W.nsIn K mainGlobals "zip" = some none)
    (y_DIGITS : PySem.W.nsIn K mainGlobals "DIGITS" = some (some (.str "123456789" tk_DIGITS)))
    (y_MOST_DIGITS : PySem.W.nsIn K mainGlobals "MOST_DIGITS" = some (some (.int 4 tk_MOST_DIGITS)))
    (y_MOST_STROKES : PySem.W.nsIn K mainGlobals "MOST_STROKES" = some (some (.int 24 tk_MOST_STROKES)))
    (qc_WheelError : PySem.W.nsIn K mainGlobals "WheelError" = some (some (.ref C_WheelError)))
    (lc_WheelError : K.lookup C_WheelError = some (excClassObj "WheelError" q_WheelError C_WheelError N_WheelError bs_WheelError bm_WheelError true sn_WheelError sub_WheelError ab_WheelError col_WheelError dd_WheelError k0_WheelError k1_WheelError k2_WheelError k3_WheelError k5_WheelError "ValueError.__new__"))
    (vc_WheelError : PySem.HandSPX.refsVE bm_WheelError = true)
    (sa_WheelError : PySem.W.findIn K (.ref C_WheelError) "__setattr__" = some (some (.builtin "object.__setattr__")))
    (sx_WheelError : PySem.W.subIn K (.ref C_WheelError) (.type "BaseException") = some true)
    (ty_WheelError : PySem.W.typeIn K (.ref C_WheelError) = some (.type "type"))
    (kx_WheelError : PySem.W.keepIn K (.ref C_WheelError) = true)
    (ga_WheelError : PySem.W.findIn K (.ref C_WheelError) "__getattribute__" = some (some (.builtin "BaseException.__getattribute__")))
    (gg_WheelError : PySem.W.findIn K (.ref C_WheelError) "__getattr__" = some none)
    (hd_WheelError : PySem.W.hasDictIn K C_WheelError = true)
    (ca_WheelError : PySem.W.findIn K (.ref C_WheelError) "__class__" = some (some (.builtin "object.__class__")))
    (mo_WheelError : PySem.W.mroIn K C_WheelError (.type "object") = some true)
    (rb_WheelError : PySem.W.readsIn K C_WheelError (.type "type") = true)
    (gb_WheelError : PySem.W.specialIn K (.ref C_WheelError) "__getattribute__" = some (some (.builtin "type.__getattribute__")))
    (vb_WheelError : PySem.W.findCls K (.ref C_WheelError) (.type "type") "__init__" = some (.val (.builtin "ValueError.__init__")))
    (qc_BadNumber : PySem.W.nsIn K mainGlobals "BadNumber" = some (some (.ref C_BadNumber)))
    (lc_BadNumber : K.lookup C_BadNumber = some (excClassObj "BadNumber" q_BadNumber C_BadNumber N_BadNumber bs_BadNumber bm_BadNumber true sn_BadNumber sub_BadNumber ab_BadNumber col_BadNumber dd_BadNumber k0_BadNumber k1_BadNumber k2_BadNumber k3_BadNumber k5_BadNumber "ValueError.__new__"))
    (vc_BadNumber : PySem.HandSPX.refsVE bm_BadNumber = true)
    (sa_BadNumber : PySem.W.findIn K (.ref C_BadNumber) "__setattr__" = some (some (.builtin "object.__setattr__")))
    (sx_BadNumber : PySem.W.subIn K (.ref C_BadNumber) (.type "BaseException") = some true)
    (ty_BadNumber : PySem.W.typeIn K (.ref C_BadNumber) = some (.type "type"))
    (kx_BadNumber : PySem.W.keepIn K (.ref C_BadNumber) = true)
    (ga_BadNumber : PySem.W.findIn K (.ref C_BadNumber) "__getattribute__" = some (some (.builtin "BaseException.__getattribute__")))
    (gg_BadNumber : PySem.W.findIn K (.ref C_BadNumber) "__getattr__" = some none)
    (hd_BadNumber : PySem.W.hasDictIn K C_BadNumber = true)
    (ca_BadNumber : PySem.W.findIn K (.ref C_BadNumber) "__class__" = some (some (.builtin "object.__class__")))
    (mo_BadNumber : PySem.W.mroIn K C_BadNumber (.type "object") = some true)
    (fi_BadNumber : PySem.W.findIn K (.ref C_BadNumber) "__init__" = some (some (.ref fI_BadNumber)))
    (ti_BadNumber : PySem.W.typeIn K (.ref fI_BadNumber) = some (.type "function"))
    (li_BadNumber : K.lookup fI_BadNumber = some ⟨oc_BadNumber, od_BadNumber, .func (PySem.W.fnOf "__init__" "BadNumber.__init__" (defArgs st_BadNumber) (defBody st_BadNumber) (defScope st_BadNumber) .none kV_BadNumber dc_BadNumber pm_BadNumber an_BadNumber cd_BadNumber ct_BadNumber), sl_BadNumber⟩)
    (ci_BadNumber : PySem.W.codeIn K cd_BadNumber "BadNumber.__init__" = true)
    (ki_BadNumber : PySem.W.keepIn K (.ref fI_BadNumber) = true)
    (ff_BadNumber_number : PySem.W.findIn K (.ref C_BadNumber) "number" = some none)
    (sv_BadNumber : PySem.W.subIn K (.ref C_BadNumber) (.type "ValueError") = some true)
    (qc_BadOffset : PySem.W.nsIn K mainGlobals "BadOffset" = some (some (.ref C_BadOffset)))
    (lc_BadOffset : K.lookup C_BadOffset = some (excClassObj "BadOffset" q_BadOffset C_BadOffset N_BadOffset bs_BadOffset bm_BadOffset true sn_BadOffset sub_BadOffset ab_BadOffset col_BadOffset dd_BadOffset k0_BadOffset k1_BadOffset k2_BadOffset k3_BadOffset k5_BadOffset "ValueError.__new__"))
    (vc_BadOffset : PySem.HandSPX.refsVE bm_BadOffset = true)
    (sa_BadOffset : PySem.W.findIn K (.ref C_BadOffset) "__setattr__" = some (some (.builtin "object.__setattr__")))
    (sx_BadOffset : PySem.W.subIn K (.ref C_BadOffset) (.type "BaseException") = some true)
    (ty_BadOffset : PySem.W.typeIn K (.ref C_BadOffset) = some (.type "type"))
    (kx_BadOffset : PySem.W.keepIn K (.ref C_BadOffset) = true)
    (ga_BadOffset : PySem.W.findIn K (.ref C_BadOffset) "__getattribute__" = some (some (.builtin "BaseException.__getattribute__")))
    (gg_BadOffset : PySem.W.findIn K (.ref C_BadOffset) "__getattr__" = some none)
    (hd_BadOffset : PySem.W.hasDictIn K C_BadOffset = true)
    (ca_BadOffset : PySem.W.findIn K (.ref C_BadOffset) "__class__" = some (some (.builtin "object.__class__")))
    (mo_BadOffset : PySem.W.mroIn K C_BadOffset (.type "object") = some true)
    (su_BadNumber_BadNumber : PySem.W.subIn K (.ref C_BadNumber) (.ref C_BadNumber) = some true)
    (su_BadNumber_BadOffset : PySem.W.subIn K (.ref C_BadNumber) (.ref C_BadOffset) = some false)
    (su_BadNumber_WheelError : PySem.W.subIn K (.ref C_BadNumber) (.ref C_WheelError) = some true)
    (on_ : PySem.W.specialIn K (.builtin "object.__class__") "__get__" = some (some (.builtin "getset_descriptor.__get__")))
    (ot_ : PySem.W.takesIn K (.builtin "object.__class__") = some true) :
    ∃ fd : FuncData, (∀ (s : Shared) (v : Value), BindsTo s fd ⟨[v], []⟩ [("script", v)]) ∧ ∀ base : Heap, K.In base → base.Ns mainGlobals mg → FnG l.prog w K mg base 8 fa fd ["script"] (spLaw K) := by
  have e := hfa.symm.trans (PySem.W.mg_of X G a17)
  cases e
  have mg_WheelError := PySem.W.mg_of X G qc_WheelError
  have R_WheelError : XRaw K "WheelError" C_WheelError := ⟨⟨_, _, _, _, _, _, _, _, _, _, _, _, _, _, lc_WheelError, vc_WheelError⟩, sa_WheelError, sx_WheelError, ty_WheelError, kx_WheelError, ga_WheelError, gg_WheelError, hd_WheelError, ca_WheelError, mo_WheelError⟩
  have mg_BadNumber := PySem.W.mg_of X G qc_BadNumber
  have R_BadNumber : XRaw K "BadNumber" C_BadNumber := ⟨⟨_, _, _, _, _, _, _, _, _, _, _, _, _, _, lc_BadNumber, vc_BadNumber⟩, sa_BadNumber, sx_BadNumber, ty_BadNumber, kx_BadNumber, ga_BadNumber, gg_BadNumber, hd_BadNumber, ca_BadNumber, mo_BadNumber⟩
  have mg_BadOffset := PySem.W.mg_of X G qc_BadOffset
  have R_BadOffset : XRaw K "BadOffset" C_BadOffset := ⟨⟨_, _, _, _, _, _, _, _, _, _, _, _, _, _, lc_BadOffset, vc_BadOffset⟩, sa_BadOffset, sx_BadOffset, ty_BadOffset, kx_BadOffset, ga_BadOffset, gg_BadOffset, hd_BadOffset, ca_BadOffset, mo_BadOffset⟩
  have T : Txt K mg := ⟨PySem.W.mg_none_of X G z_ValueError, PySem.W.mg_none_of X G z_bool, PySem.W.mg_none_of X G z_int, PySem.W.mg_none_of X G z_isinstance, PySem.W.mg_none_of X G z_len, PySem.W.mg_none_of X G z_min, PySem.W.mg_none_of X G z_range, PySem.W.mg_none_of X G z_repr, PySem.W.mg_none_of X G z_str, PySem.W.mg_none_of X G z_sum, PySem.W.mg_none_of X G z_tuple, PySem.W.mg_none_of X G z_zip, ⟨_, PySem.W.mg_of X G y_DIGITS, _, rfl⟩, ⟨_, PySem.W.mg_of X G y_MOST_DIGITS, _, rfl⟩, ⟨_, PySem.W.mg_of X G y_MOST_STROKES, _, rfl⟩, ⟨C_BadNumber, mg_BadNumber, (tab_cons mg_BadNumber (R_BadNumber.exm su_BadNumber_BadNumber) tab_nil)⟩, ⟨C_BadOffset, mg_BadOffset, (tab_cons mg_BadNumber ⟨R_BadNumber.exc ⟨on_, ot_⟩, R_BadNumber.kit R_BadOffset (.inr (by decide)) su_BadNumber_BadOffset⟩ tab_nil)⟩, (tab_cons mg_BadNumber ⟨R_BadNumber.exc ⟨on_, ot_⟩, kit_ve sv_BadNumber⟩ tab_nil), ⟨C_WheelError, mg_WheelError, (tab_cons mg_BadNumber ⟨R_BadNumber.exc ⟨on_, ot_⟩, R_BadNumber.kit R_WheelError (.inl rfl) su_BadNumber_WheelError⟩ tab_nil)⟩, (mem_cons mg_BadNumber ⟨R_BadNumber.xf, ff_BadNumber_number⟩ mem_nil), ⟨C_WheelError, mg_WheelError, rb_WheelError, gb_WheelError, vb_WheelError⟩⟩
  have F0 := fun_mk (st := st__law_bag) l0 c0 k0
  have b0 := F0.binds (ps := ["script"]) fun _ _ _ _ _ _ us hl => match us, hl with | [_], _ => rfl
  have F1 := fun_mk (st := st__law_draw) l1 c1 k1
  have b1 := F1.binds (ps := ["bag", "limit"]) fun _ _ _ _ _ _ us hl => match us, hl with | [_, _], _ => rfl
  have F2 := fun_mk (st := st__law_number) l2 c2 k2
  have b2 := F2.binds (ps := ["bag"]) fun _ _ _ _ _ _ us hl => match us, hl with | [_], _ => rfl
  have F3 := fun_mk (st := st__law_other) l3 c3 k3
  have b3 := F3.binds (ps := ["bag"]) fun _ _ _ _ _ _ us hl => match us, hl with | [_], _ => rfl
  have F4 := fun_mk (st := st__law_near_sum) l4 c4 k4
  have b4 := F4.binds (ps := ["bag"]) fun _ _ _ _ _ _ us hl => match us, hl with | [_], _ => rfl
  have F5 := fun_mk (st := st__law_sign) l5 c5 k5
  have b5 := F5.binds (ps := ["bag"]) fun _ _ _ _ _ _ us hl => match us, hl with | [_], _ => rfl
  have F6 := fun_mk (st := st__law_bent) l6 c6 k6
  have b6 := F6.binds (ps := ["bag"]) fun _ _ _ _ _ _ us hl => match us, hl with | [_], _ => rfl
  have F7 := fun_mk (st := st__law_thing) l7 c7 k7
  have b7 := F7.binds (ps := ["bag"]) fun _ _ _ _ _ _ us hl => match us, hl with | [_], _ => rfl
  have F8 := fun_mk (st := st__law_is_number) l8 c8 k8
  have b8 := F8.binds (ps := ["thing"]) fun _ _ _ _ _ _ us hl => match us, hl with | [_], _ => rfl
  have F9 := fun_mk (st := st__law_says) l9 c9 k9
  have b9 := F9.binds (ps := ["told", "due"]) fun _ _ _ _ _ _ us hl => match us, hl with | [_, _], _ => rfl
  have F10 := fun_mk (st := st_is_number) l10 c10 k10
  have b10 := F10.binds (ps := ["thing"]) fun _ _ _ _ _ _ us hl => match us, hl with | [_], _ => rfl
  have F11 := fun_mk (st := st_check_number) l11 c11 k11
  have b11 := F11.binds (ps := ["thing"]) fun _ _ _ _ _ _ us hl => match us, hl with | [_], _ => rfl
  have F12 := fun_mk (st := st_blocks) l12 c12 k12
  have b12 := F12.binds (ps := ["number"]) fun _ _ _ _ _ _ us hl => match us, hl with | [_], _ => rfl
  have F13 := fun_mk (st := st_row_of) l13 c13 k13
  have b13 := F13.binds (ps := ["number"]) fun _ _ _ _ _ _ us hl => match us, hl with | [_], _ => rfl
  have F14 := fun_mk (st := st_length_of) l14 c14 k14
  have b14 := F14.binds (ps := ["number"]) fun _ _ _ _ _ _ us hl => match us, hl with | [_], _ => rfl
  have F15 := fun_mk (st := st_goes_ahead) l15 c15 k15
  have b15 := F15.binds (ps := ["one", "other"]) fun _ _ _ _ _ _ us hl => match us, hl with | [_, _], _ => rfl
  have F16 := fun_mk (st := st__law_tried) l16 c16 k16
  have b16 := F16.binds (ps := ["which", "thing", "other"]) fun _ _ _ _ _ _ us hl => match us, hl with | [_, _, _], _ => rfl
  have F17 := fun_mk (st := st_law) l17 c17 k17
  have b17 := F17.binds (ps := ["script"]) fun _ _ _ _ _ _ us hl => match us, hl with | [_], _ => rfl
  refine ⟨PySem.W.fnOf "law" "law" (defArgs st_law) (defBody st_law) (defScope st_law) .none kV17 dc17 pm17 an17 cd17 ct17, fun s v => .of_eq rfl, fun base _ _ => ?_⟩
  have FX_BadNumber := fun_mk (st := st_BadNumber) li_BadNumber ci_BadNumber ki_BadNumber
  have bX_BadNumber := FX_BadNumber.binds (ps := ["self", "number"]) fun _ _ _ _ _ _ us hl => match us, hl with | [_, _], _ => rfl
  have x_BadNumber : XK' l.prog w K mg base "BadNumber" ["number"] 1 := ⟨C_BadNumber, fI_BadNumber, _, ["self", "number"], mg_BadNumber, R_BadNumber.oex, (List.forall_mem_cons.mpr ⟨ff_BadNumber_number, (by simp)⟩), fi_BadNumber, ti_BadNumber, xi_BadNumber T FX_BadNumber, bX_BadNumber⟩
  have h__law_bag := kd__law_bag (P := l.prog) (w := w) (base := base) T F0 (PySem.W.mg_of X G a0) b0 
  have h__law_draw := kd__law_draw (P := l.prog) (w := w) (base := base) T F1 (PySem.W.mg_of X G a1) b1 
  have h__law_number := kd__law_number (P := l.prog) (w := w) (base := base) T F2 (PySem.W.mg_of X G a2) b2 h__law_draw
  have h__law_other := kd__law_other (P := l.prog) (w := w) (base := base) T F3 (PySem.W.mg_of X G a3) b3 h__law_number h__law_draw
  have h__law_near_sum := kd__law_near_sum (P := l.prog) (w := w) (base := base) T F4 (PySem.W.mg_of X G a4) b4 h__law_draw
  have h__law_sign := kd__law_sign (P := l.prog) (w := w) (base := base) T F5 (PySem.W.mg_of X G a5) b5 h__law_draw
  have h__law_bent := kd__law_bent (P := l.prog) (w := w) (base := base) T F6 (PySem.W.mg_of X G a6) b6 h__law_number h__law_draw h__law_sign
  have h__law_thing := kd__law_thing (P := l.prog) (w := w) (base := base) T F7 (PySem.W.mg_of X G a7) b7 h__law_draw h__law_other h__law_number h__law_near_sum h__law_bent h__law_sign
  have h__law_is_number := kd__law_is_number (P := l.prog) (w := w) (base := base) T F8 (PySem.W.mg_of X G a8) b8 
  have h__law_says := kd__law_says (P := l.prog) (w := w) (base := base) T F9 (PySem.W.mg_of X G a9) b9 
  have h_is_number := kd_is_number (P := l.prog) (w := w) (base := base) T F10 (PySem.W.mg_of X G a10) b10 
  have h_check_number := kd_check_number (P := l.prog) (w := w) (base := base) T F11 (PySem.W.mg_of X G a11) b11 h_is_number x_BadNumber
  have h_blocks := kd_blocks (P := l.prog) (w := w) (base := base) T F12 (PySem.W.mg_of X G a12) b12 h_check_number
  have h_row_of := kd_row_of (P := l.prog) (w := w) (base := base) T F13 (PySem.W.mg_of X G a13) b13 h_blocks
  have h_length_of := kd_length_of (P := l.prog) (w := w) (base := base) T F14 (PySem.W.mg_of X G a14) b14 h_blocks
  have h_goes_ahead := kd_goes_ahead (P := l.prog) (w := w) (base := base) T F15 (PySem.W.mg_of X G a15) b15 h_row_of
  have h__law_tried := kd__law_tried (P := l.prog) (w := w) (base := base) T F16 (PySem.W.mg_of X G a16) b16 h_blocks h_row_of h_length_of h_goes_ahead
  exact (fn_law T F17 b17 h__law_bag h__law_number h__law_thing h__law_is_number h__law_says h__law_tried h_is_number).weak fun vs H Q E h => sp_law law_true h
theorem walk {l : PySem.W.OpenLaw} {q : Program} {loose : List Str} {XP : (Str → Option Value) → Heap → Prop} {YP : World → Heap → Prop} {d : DefRec} {K : Params → PySem.W.Frag} (hn : l.most = some 63) (hdf : d.params.defaults = [])
    (hY : ∀ (w : World) (h : Heap), YP w h → (K w.params).In h)
    (F : ∀ (w : World) (mg : Str → Option Value) (fa : Addr) (h : Heap), (K w.params).In h → h.Ns mainGlobals mg → mg d.name = some (.ref fa) →
      ∃ fd : FuncData, (∀ (s : Shared) (u : Value), BindsTo s fd ⟨[u], []⟩ [("script", u)]) ∧ ∀ base : Heap, (K w.params).In base → base.Ns mainGlobals mg → FnG l.prog w (K w.params) mg base 8 fa fd ["script"] (spLaw (K w.params))) :
    PySem.W.WalkO q loose XP YP l.row.toRowW d [] (fun f vs => PySem.call f vs) :=
  walkG (n := 63) (k := 8) (x := "script") (sp := fun w => spLaw (K w.params)) hn (by decide) hdf ⟨rfl, by decide, by decide⟩ hY F (fun _ _ a ns hl hS => ⟨a, ns, rfl, hS, hl, fun _ => rfl⟩)

/-! ### a thing that is handed over -/
structure IsTh (d : D) (due : Bool) (z : Str) : Prop where
  isn : ∀ S, F_is_number [d] S = .ok (.bl due) S
  lis : ∀ S, F__law_is_number [d] S = .ok (.bl due) S
  asc : Asc z
  rep : ∀ S, reprD [d] S = .ok (.str z) S
  fr : ∀ n0 S k, fz n0 S k d = d
  lo : ∀ n, low n d = true
  nox : noX d = true
  num : due = true → ∃ ds, d = .str (numS ds) ∧ IsNum ds
noncomputable def lisB : SF := (seqS (ifS (tstF (binF notInD (varE 2) (cE (.str "123456789")))) (retS (cE (.bl false))) nxS)
  (setS 1 (binF addD (varE 1) (appF intD (consF (varE 2) nilF)))))
theorem lis_loop (z : D) (S : Sto) : ∀ (cs : List Nat) (t : Int) (u : Option D),
    (cs.all okSign = true ∧ ∃ v, forL (nmG 2) lisB (cs.map fun c => D.str ⟨#[c]⟩) [some z, some (.int t), u] S = .nx [some z, some (.int (t + (cs.map fun (c : Nat) => (c : Int) - 48).sum)), v] S) ∨
    (cs.all okSign = false ∧ forL (nmG 2) lisB (cs.map fun c => D.str ⟨#[c]⟩) [some z, some (.int t), u] S = .rt (.bl false) S)
  | [], t, u => .inl ⟨rfl, u, by simp [forL]⟩
  | c :: cs, t, u => by
    cases hc : okSign c with
    | false =>
      right
      refine ⟨by simp [hc], ?_⟩
      have hm : ¬ c ∈ (("123456789" : Str).cps.toList) := by rw [mem_digits, hc]; simp
      rw [List.map_cons, forL_cons (ρ1 := [some z, some (.int t), some (.str ⟨#[c]⟩)]) rfl]
      simp only [Bd, seqS, setS, retS, retN, dropS, ifS, forS, putS, augS, nxS, bkS, ctS, SR.seq_nx, SR.seq_rt, SR.seq_exc, SR.seq_bk, SR.seq_ct, SR.turn_nx, SR.turn_ct, SR.turn_bk, SR.turn_rt, SR.turn_exc, R.bind_ok, R.bind_bad, R.bind_exc, R.bindN_ok, R.st_ok, R.st_exc,
 varE, cE, binF, tstF, chnF, andB, orB, notB, andV, orV, notV, ifE, nilF, consF, tupF, lstF, ownF, negF, noO, someO, slF, callF, appF, isiF, mthF, itF, itA, nmG, nilG, consG, tupG, yesB, wipeD,
 addD_ii, addD_ss, addD_ll, subD_ii, mulD_ii, mulD_li, mulD_si, fdivD_ii, modD_ii, powD_10_18, ltD_ii, leD_ii, gtD_ii, geD_ii, gtD_ss, ltD_ss, eqD_ii, eqD_ss, eqD_bb, neD_ii, neD_ss, isBD_bb, isND_non, isND_int, isND_str, notND_non, notND_int, notND_str, lenD_s, lenD_l, lenD_r, lenD_t, lenD_c, min2D_ii, max2D_ii, intD_i, intD_b, strD_i, sumD_l, sumD_c, sumD_t, maxD_c, tupleD_l, tupleD_t, tupleD_c, listD_l, listD_t,
 ixD_l, ixD_r, ixD_t, ixD_s, ixD_c, slD_s, slD_l, slD_r, putIx_c, appendD_c, extendD_cl, isTy_c, isTy_s, isTy_l, iaddD, atI_0, atI_1, atI_2, atI_3, atI_4, low_int, low_str, low_bl, low_non, anyI_l, anyI_r, anyI_t, anyI_s, rng1I_i, rng2I_ii, ixN5, set_concat, get_concat, take_concat, len_concat, notInD_cs, inD_cs, sindexD_s, intD_s, tyN_s, tyN_i, tyN_b, tyN_n, tyN_t, tyN_l, tyIs_t, zipI_tt,
 startD, List.map_cons, List.map_nil, List.length_cons, List.length_nil, List.cons_append, List.nil_append, List.getElem?_cons_zero, List.getElem?_cons_succ, List.set_cons_zero, List.set_cons_succ, List.replicate_succ, List.replicate_zero, Option.bind_some, if_true, if_false, Bool.true_and, Bool.false_and, Bool.and_true, Bool.not_true, Bool.not_false, decide_true, decide_false, eq_self, Nat.zero_add, Nat.reduceAdd, Nat.reduceSub, reduceIte, reduceCtorEq, Int.reduceEq, Bool.false_eq_true, true_and, and_true, true_or, or_true, decide_eq_true_eq, lisB, hm]
    | true =>
      have hm : c ∈ (("123456789" : Str).cps.toList) := by rw [mem_digits, hc]
      have hz : NLe (⟨#[c]⟩ : Str).length 640 := by show (⟨#[c]⟩ : Str).length ≤ 640; simp [Str.length]
      have e1 : forL (nmG 2) lisB ((c :: cs).map fun c => D.str ⟨#[c]⟩) [some z, some (.int t), u] S = forL (nmG 2) lisB (cs.map fun c => D.str ⟨#[c]⟩) [some z, some (.int (t + ((c : Int) - 48))), some (.str ⟨#[c]⟩)] S := by
        rw [List.map_cons, forL_cons (ρ1 := [some z, some (.int t), some (.str ⟨#[c]⟩)]) rfl]
        simp only [Bd, seqS, setS, retS, retN, dropS, ifS, forS, putS, augS, nxS, bkS, ctS, SR.seq_nx, SR.seq_rt, SR.seq_exc, SR.seq_bk, SR.seq_ct, SR.turn_nx, SR.turn_ct, SR.turn_bk, SR.turn_rt, SR.turn_exc, R.bind_ok, R.bind_bad, R.bind_exc, R.bindN_ok, R.st_ok, R.st_exc,
 varE, cE, binF, tstF, chnF, andB, orB, notB, andV, orV, notV, ifE, nilF, consF, tupF, lstF, ownF, negF, noO, someO, slF, callF, appF, isiF, mthF, itF, itA, nmG, nilG, consG, tupG, yesB, wipeD,
 addD_ii, addD_ss, addD_ll, subD_ii, mulD_ii, mulD_li, mulD_si, fdivD_ii, modD_ii, powD_10_18, ltD_ii, leD_ii, gtD_ii, geD_ii, gtD_ss, ltD_ss, eqD_ii, eqD_ss, eqD_bb, neD_ii, neD_ss, isBD_bb, isND_non, isND_int, isND_str, notND_non, notND_int, notND_str, lenD_s, lenD_l, lenD_r, lenD_t, lenD_c, min2D_ii, max2D_ii, intD_i, intD_b, strD_i, sumD_l, sumD_c, sumD_t, maxD_c, tupleD_l, tupleD_t, tupleD_c, listD_l, listD_t,
 ixD_l, ixD_r, ixD_t, ixD_s, ixD_c, slD_s, slD_l, slD_r, putIx_c, appendD_c, extendD_cl, isTy_c, isTy_s, isTy_l, iaddD, atI_0, atI_1, atI_2, atI_3, atI_4, low_int, low_str, low_bl, low_non, anyI_l, anyI_r, anyI_t, anyI_s, rng1I_i, rng2I_ii, ixN5, set_concat, get_concat, take_concat, len_concat, notInD_cs, inD_cs, sindexD_s, intD_s, tyN_s, tyN_i, tyN_b, tyN_n, tyN_t, tyN_l, tyIs_t, zipI_tt,
 startD, List.map_cons, List.map_nil, List.length_cons, List.length_nil, List.cons_append, List.nil_append, List.getElem?_cons_zero, List.getElem?_cons_succ, List.set_cons_zero, List.set_cons_succ, List.replicate_succ, List.replicate_zero, Option.bind_some, if_true, if_false, Bool.true_and, Bool.false_and, Bool.and_true, Bool.not_true, Bool.not_false, decide_true, decide_false, eq_self, Nat.zero_add, Nat.reduceAdd, Nat.reduceSub, reduceIte, reduceCtorEq, Int.reduceEq, Bool.false_eq_true, true_and, and_true, true_or, or_true, decide_eq_true_eq, lisB, hm, int_digit hc, hz]
      rw [e1]
      rcases lis_loop z S cs (t + ((c : Int) - 48)) (some (.str ⟨#[c]⟩)) with ⟨h1, v, h2⟩ | ⟨h1, h2⟩
      · refine .inl ⟨by simp [hc, h1], v, ?_⟩
        rw [h2]
        congr 5
        rw [List.map_cons, List.sum_cons]
        omega
      · exact .inr ⟨by simp [hc, h1], h2⟩
theorem lis_str (z : Str) (S : Sto) (hz : NLe z.length sizeLine) : F__law_is_number [.str z] S = .ok (.bl (numB z)) S := by
  unfold F__law_is_number fnF g__law_is_number
  by_cases h1 : ((z.length : Nat) : Int) < 1
  · have e : numB z = false := by unfold numB; rw [decide_eq_false (show ¬ 1 ≤ z.length by omega)]; simp
    simp only [Bd, seqS, setS, retS, retN, dropS, ifS, forS, putS, augS, nxS, bkS, ctS, SR.seq_nx, SR.seq_rt, SR.seq_exc, SR.seq_bk, SR.seq_ct, SR.turn_nx, SR.turn_ct, SR.turn_bk, SR.turn_rt, SR.turn_exc, R.bind_ok, R.bind_bad, R.bind_exc, R.bindN_ok, R.st_ok, R.st_exc,
 varE, cE, binF, tstF, chnF, andB, orB, notB, andV, orV, notV, ifE, nilF, consF, tupF, lstF, ownF, negF, noO, someO, slF, callF, appF, isiF, mthF, itF, itA, nmG, nilG, consG, tupG, yesB, wipeD,
 addD_ii, addD_ss, addD_ll, subD_ii, mulD_ii, mulD_li, mulD_si, fdivD_ii, modD_ii, powD_10_18, ltD_ii, leD_ii, gtD_ii, geD_ii, gtD_ss, ltD_ss, eqD_ii, eqD_ss, eqD_bb, neD_ii, neD_ss, isBD_bb, isND_non, isND_int, isND_str, notND_non, notND_int, notND_str, lenD_s, lenD_l, lenD_r, lenD_t, lenD_c, min2D_ii, max2D_ii, intD_i, intD_b, strD_i, sumD_l, sumD_c, sumD_t, maxD_c, tupleD_l, tupleD_t, tupleD_c, listD_l, listD_t,
 ixD_l, ixD_r, ixD_t, ixD_s, ixD_c, slD_s, slD_l, slD_r, putIx_c, appendD_c, extendD_cl, isTy_c, isTy_s, isTy_l, iaddD, atI_0, atI_1, atI_2, atI_3, atI_4, low_int, low_str, low_bl, low_non, anyI_l, anyI_r, anyI_t, anyI_s, rng1I_i, rng2I_ii, ixN5, set_concat, get_concat, take_concat, len_concat, notInD_cs, inD_cs, sindexD_s, intD_s, tyN_s, tyN_i, tyN_b, tyN_n, tyN_t, tyN_l, tyIs_t, zipI_tt,
 startD, List.map_cons, List.map_nil, List.length_cons, List.length_nil, List.cons_append, List.nil_append, List.getElem?_cons_zero, List.getElem?_cons_succ, List.set_cons_zero, List.set_cons_succ, List.replicate_succ, List.replicate_zero, Option.bind_some, if_true, if_false, Bool.true_and, Bool.false_and, Bool.and_true, Bool.not_true, Bool.not_false, decide_true, decide_false, eq_self, Nat.zero_add, Nat.reduceAdd, Nat.reduceSub, reduceIte, reduceCtorEq, Int.reduceEq, Bool.false_eq_true, true_and, and_true, true_or, or_true, decide_eq_true_eq, hz, h1, leave_rt, fz_bl, List.take_length, e]
  · by_cases h4 : (4 : Int) < ((z.length : Nat) : Int)
    · have e : numB z = false := by unfold numB; rw [decide_eq_false (show ¬ z.length ≤ 4 by omega)]; simp
      simp only [Bd, seqS, setS, retS, retN, dropS, ifS, forS, putS, augS, nxS, bkS, ctS, SR.seq_nx, SR.seq_rt, SR.seq_exc, SR.seq_bk, SR.seq_ct, SR.turn_nx, SR.turn_ct, SR.turn_bk, SR.turn_rt, SR.turn_exc, R.bind_ok, R.bind_bad, R.bind_exc, R.bindN_ok, R.st_ok, R.st_exc,
 varE, cE, binF, tstF, chnF, andB, orB, notB, andV, orV, notV, ifE, nilF, consF, tupF, lstF, ownF, negF, noO, someO, slF, callF, appF, isiF, mthF, itF, itA, nmG, nilG, consG, tupG, yesB, wipeD,
 addD_ii, addD_ss, addD_ll, subD_ii, mulD_ii, mulD_li, mulD_si, fdivD_ii, modD_ii, powD_10_18, ltD_ii, leD_ii, gtD_ii, geD_ii, gtD_ss, ltD_ss, eqD_ii, eqD_ss, eqD_bb, neD_ii, neD_ss, isBD_bb, isND_non, isND_int, isND_str, notND_non, notND_int, notND_str, lenD_s, lenD_l, lenD_r, lenD_t, lenD_c, min2D_ii, max2D_ii, intD_i, intD_b, strD_i, sumD_l, sumD_c, sumD_t, maxD_c, tupleD_l, tupleD_t, tupleD_c, listD_l, listD_t,
 ixD_l, ixD_r, ixD_t, ixD_s, ixD_c, slD_s, slD_l, slD_r, putIx_c, appendD_c, extendD_cl, isTy_c, isTy_s, isTy_l, iaddD, atI_0, atI_1, atI_2, atI_3, atI_4, low_int, low_str, low_bl, low_non, anyI_l, anyI_r, anyI_t, anyI_s, rng1I_i, rng2I_ii, ixN5, set_concat, get_concat, take_concat, len_concat, notInD_cs, inD_cs, sindexD_s, intD_s, tyN_s, tyN_i, tyN_b, tyN_n, tyN_t, tyN_l, tyIs_t, zipI_tt,
 startD, List.map_cons, List.map_nil, List.length_cons, List.length_nil, List.cons_append, List.nil_append, List.getElem?_cons_zero, List.getElem?_cons_succ, List.set_cons_zero, List.set_cons_succ, List.replicate_succ, List.replicate_zero, Option.bind_some, if_true, if_false, Bool.true_and, Bool.false_and, Bool.and_true, Bool.not_true, Bool.not_false, decide_true, decide_false, eq_self, Nat.zero_add, Nat.reduceAdd, Nat.reduceSub, reduceIte, reduceCtorEq, Int.reduceEq, Bool.false_eq_true, true_and, and_true, true_or, or_true, decide_eq_true_eq, hz, h1, h4, leave_rt, fz_bl, List.take_length, e]
    · rcases lis_loop (.str z) S z.cps.toList 0 none with ⟨h5, v, h6⟩ | ⟨h5, h6⟩
      · have e : numB z = decide ((z.cps.toList.map fun (c : Nat) => (c : Int) - 48).sum ≤ 24) := by
          unfold numB; rw [decide_eq_true (show 1 ≤ z.length by omega), decide_eq_true (show z.length ≤ 4 by omega), h5]; rfl
        unfold lisB at h6
        simp only [Bd, seqS, setS, retS, retN, dropS, ifS, forS, putS, augS, nxS, bkS, ctS, SR.seq_nx, SR.seq_rt, SR.seq_exc, SR.seq_bk, SR.seq_ct, SR.turn_nx, SR.turn_ct, SR.turn_bk, SR.turn_rt, SR.turn_exc, R.bind_ok, R.bind_bad, R.bind_exc, R.bindN_ok, R.st_ok, R.st_exc,
 varE, cE, binF, tstF, chnF, andB, orB, notB, andV, orV, notV, ifE, nilF, consF, tupF, lstF, ownF, negF, noO, someO, slF, callF, appF, isiF, mthF, itF, itA, nmG, nilG, consG, tupG, yesB, wipeD,
 addD_ii, addD_ss, addD_ll, subD_ii, mulD_ii, mulD_li, mulD_si, fdivD_ii, modD_ii, powD_10_18, ltD_ii, leD_ii, gtD_ii, geD_ii, gtD_ss, ltD_ss, eqD_ii, eqD_ss, eqD_bb, neD_ii, neD_ss, isBD_bb, isND_non, isND_int, isND_str, notND_non, notND_int, notND_str, lenD_s, lenD_l, lenD_r, lenD_t, lenD_c, min2D_ii, max2D_ii, intD_i, intD_b, strD_i, sumD_l, sumD_c, sumD_t, maxD_c, tupleD_l, tupleD_t, tupleD_c, listD_l, listD_t,
 ixD_l, ixD_r, ixD_t, ixD_s, ixD_c, slD_s, slD_l, slD_r, putIx_c, appendD_c, extendD_cl, isTy_c, isTy_s, isTy_l, iaddD, atI_0, atI_1, atI_2, atI_3, atI_4, low_int, low_str, low_bl, low_non, anyI_l, anyI_r, anyI_t, anyI_s, rng1I_i, rng2I_ii, ixN5, set_concat, get_concat, take_concat, len_concat, notInD_cs, inD_cs, sindexD_s, intD_s, tyN_s, tyN_i, tyN_b, tyN_n, tyN_t, tyN_l, tyIs_t, zipI_tt,
 startD, List.map_cons, List.map_nil, List.length_cons, List.length_nil, List.cons_append, List.nil_append, List.getElem?_cons_zero, List.getElem?_cons_succ, List.set_cons_zero, List.set_cons_succ, List.replicate_succ, List.replicate_zero, Option.bind_some, if_true, if_false, Bool.true_and, Bool.false_and, Bool.and_true, Bool.not_true, Bool.not_false, decide_true, decide_false, eq_self, Nat.zero_add, Nat.reduceAdd, Nat.reduceSub, reduceIte, reduceCtorEq, Int.reduceEq, Bool.false_eq_true, true_and, and_true, true_or, or_true, decide_eq_true_eq, hz, h1, h4, h6, leave_rt, fz_bl, List.take_length, e, Int.zero_add]
      · have e : numB z = false := by unfold numB; rw [h5]; simp
        unfold lisB at h6
        simp only [Bd, seqS, setS, retS, retN, dropS, ifS, forS, putS, augS, nxS, bkS, ctS, SR.seq_nx, SR.seq_rt, SR.seq_exc, SR.seq_bk, SR.seq_ct, SR.turn_nx, SR.turn_ct, SR.turn_bk, SR.turn_rt, SR.turn_exc, R.bind_ok, R.bind_bad, R.bind_exc, R.bindN_ok, R.st_ok, R.st_exc,
 varE, cE, binF, tstF, chnF, andB, orB, notB, andV, orV, notV, ifE, nilF, consF, tupF, lstF, ownF, negF, noO, someO, slF, callF, appF, isiF, mthF, itF, itA, nmG, nilG, consG, tupG, yesB, wipeD,
 addD_ii, addD_ss, addD_ll, subD_ii, mulD_ii, mulD_li, mulD_si, fdivD_ii, modD_ii, powD_10_18, ltD_ii, leD_ii, gtD_ii, geD_ii, gtD_ss, ltD_ss, eqD_ii, eqD_ss, eqD_bb, neD_ii, neD_ss, isBD_bb, isND_non, isND_int, isND_str, notND_non, notND_int, notND_str, lenD_s, lenD_l, lenD_r, lenD_t, lenD_c, min2D_ii, max2D_ii, intD_i, intD_b, strD_i, sumD_l, sumD_c, sumD_t, maxD_c, tupleD_l, tupleD_t, tupleD_c, listD_l, listD_t,
 ixD_l, ixD_r, ixD_t, ixD_s, ixD_c, slD_s, slD_l, slD_r, putIx_c, appendD_c, extendD_cl, isTy_c, isTy_s, isTy_l, iaddD, atI_0, atI_1, atI_2, atI_3, atI_4, low_int, low_str, low_bl, low_non, anyI_l, anyI_r, anyI_t, anyI_s, rng1I_i, rng2I_ii, ixN5, set_concat, get_concat, take_concat, len_concat, notInD_cs, inD_cs, sindexD_s, intD_s, tyN_s, tyN_i, tyN_b, tyN_n, tyN_t, tyN_l, tyIs_t, zipI_tt,
 startD, List.map_cons, List.map_nil, List.length_cons, List.length_nil, List.cons_append, List.nil_append, List.getElem?_cons_zero, List.getElem?_cons_succ, List.set_cons_zero, List.set_cons_succ, List.replicate_succ, List.replicate_zero, Option.bind_some, if_true, if_false, Bool.true_and, Bool.false_and, Bool.and_true, Bool.not_true, Bool.not_false, decide_true, decide_false, eq_self, Nat.zero_add, Nat.reduceAdd, Nat.reduceSub, reduceIte, reduceCtorEq, Int.reduceEq, Bool.false_eq_true, true_and, and_true, true_or, or_true, decide_eq_true_eq, hz, h1, h4, h6, leave_rt, fz_bl, List.take_length, e]
theorem numB_dig' {w : List Nat} (h : ∀ d ∈ w, 1 ≤ d ∧ d ≤ 9) : numB (numS w) = true ↔ IsNum w := by
  constructor
  · intro e
    unfold numB at e
    rw [numS_len, numS_list, numS_okSign h, numS_vals, sum_cast] at e
    simp only [Bool.and_eq_true, decide_eq_true_eq] at e
    exact ⟨h, e.1.1.1, e.1.1.2, by omega⟩
  · exact numB_num
theorem num_of_B {z : Str} (h : numB z = true) : ∃ ds, z = numS ds ∧ IsNum ds := by
  have h0 := h
  unfold numB at h
  simp only [Bool.and_eq_true, decide_eq_true_eq] at h
  obtain ⟨⟨⟨h1, h4⟩, ok⟩, _⟩ := h
  have ok := List.all_eq_true.mp ok
  have e : z = numS (z.cps.toList.map fun c => c - 48) := by
    apply str_ext
    rw [numS_list, List.map_map]
    refine (List.map_id' _).symm.trans (List.map_congr_left fun c hc => ?_)
    have := ok c hc
    simp [okSign] at this
    show c = 48 + (c - 48)
    omega
  refine ⟨_, e, ?_⟩
  refine (numB_dig' fun d hd => ?_).mp (by rw [← e]; exact h0)
  obtain ⟨c, hc, rfl⟩ := List.mem_map.mp hd
  have := ok c hc
  simp [okSign] at this
  omega
/-! ### the kinds of things -/
theorem rep_str (z : Str) (h : Asc z) (hl : z.length ≤ 1000) (S : Sto) : reprD [.str z] S = .ok (.str (PyData.str z).shown) S :=
  repr_asc rfl (by rw [ascP]; exact h) (by simp [PyData.depth]) (by rw [lenP]; omega)
theorem th_str {z : Str} (h : Asc z) (hl : z.length ≤ 1000) : IsTh (.str z) (numB z) (PyData.str z).shown where
  isn S := is_number_str z S (sizeLine_big (by omega))
  lis S := lis_str z S (sizeLine_big (by omega))
  asc := shown_asc _ (by rw [ascP]; exact h)
  rep := rep_str z h hl
  fr _ _ _ := fz_str
  lo _ := rfl
  nox := rfl
  num e := by obtain ⟨ds, rfl, hd⟩ := num_of_B e; exact ⟨ds, rfl, hd⟩
theorem no_num {d : D} (ht : ∀ S, (tyN d S).bind (fun t => tyIs t "str") = some false) (S : Sto) : F_is_number [d] S = .ok (.bl false) S := by
  unfold F_is_number fnF g_is_number
  simp only [seqS, ifS, orB, notB, tstF, isiF, varE, startD, List.map_cons, List.map_nil, List.cons_append, List.nil_append, List.getElem?_cons_zero, R.bind_ok, R.st_ok, ht, Bool.not_false, if_true, retS, cE, SR.seq_rt, leave_rt, fz_bl, List.take_length]
theorem no_lis {d : D} (ht : ∀ S, (tyN d S).bind (fun t => tyIs t "str") = some false) (S : Sto) : F__law_is_number [d] S = .ok (.bl false) S := by
  unfold F__law_is_number fnF g__law_is_number
  simp only [seqS, ifS, orB, notB, tstF, isiF, varE, startD, List.map_cons, List.map_nil, List.cons_append, List.nil_append, List.getElem?_cons_zero, R.bind_ok, R.st_ok, ht, Bool.not_false, if_true, retS, cE, SR.seq_rt, leave_rt, fz_bl, List.take_length]
/-- a thing that is no text -/
theorem th_other {d : D} {p : PyData} (ht : ∀ S, (tyN d S).bind (fun t => tyIs t "str") = some false) (hp : ∀ S, toP S d = some p) (ha : ascP p) (hd : p.depth ≤ 64) (hl : lenP p ≤ 1000000) (fr : ∀ n0 S k, fz n0 S k d = d) (lo : ∀ n, low n d = true) (nox : noX d = true) : IsTh d false p.shown :=
  ⟨no_num ht, no_lis ht, shown_asc p ha, fun S => repr_asc (hp S) ha hd hl, fr, lo, nox, fun h => by cases h⟩
theorem th_int {i : Int} (h0 : 0 ≤ i) (h1 : i < 100000) : IsTh (.int i) false (PyData.int i).shown := by
  refine th_other (fun _ => rfl) (fun _ => rfl) ?_ (by simp [PyData.depth]) ?_ (fun _ _ _ => fz_int) (fun _ => rfl) rfl
  · rw [ascP]
    by_cases hz : i.natAbs = 0
    · rw [hz]; decide
    · rw [Nat.log2_lt hz]
      exact Nat.lt_of_lt_of_le (show i.natAbs < 2 ^ 17 by omega) (Nat.pow_le_pow_right (by decide) (by decide))
  · rw [lenP]
    have := len_str_of_int i
    omega
theorem th_non : IsTh .non false PyData.none.shown := th_other (fun _ => rfl) (fun _ => rfl) (by rw [ascP]; trivial) (by decide) (by decide) (fun _ _ _ => fz_non) (fun _ => rfl) rfl
theorem th_bl (b : Bool) : IsTh (.bl b) false (PyData.bool b).shown := th_other (fun _ => rfl) (fun _ => rfl) (by rw [ascP]; trivial) (by cases b <;> decide) (by rw [lenP]; decide) (fun _ _ _ => fz_bl) (fun _ => rfl) rfl
theorem ascPs_strs (l : List Str) (h : ∀ z ∈ l, Asc z) : ascPs (l.map PyData.str) := by
  induction l with
  | nil => rw [List.map_nil, ascPs]; trivial
  | cons z l ih => rw [List.map_cons, ascPs, ascP]; exact ⟨h z List.mem_cons_self, ih fun y hy => h y (List.mem_cons_of_mem _ hy)⟩
theorem lenPs_strs (l : List Str) (m : Nat) (h : ∀ z ∈ l, z.length ≤ m) : lenPs (l.map PyData.str) ≤ l.length * (10 * m + 4) := by
  induction l with
  | nil => rw [List.map_nil, lenPs]; exact Nat.zero_le _
  | cons z l ih =>
    have h1 := h z List.mem_cons_self
    have h2 := ih fun y hy => h y (List.mem_cons_of_mem _ hy)
    rw [List.map_cons, lenPs, lenP, List.length_cons, Nat.add_mul]
    omega
theorem depth_strs (l : List Str) : PyData.depthAll (l.map PyData.str) ≤ 1 := by
  induction l with
  | nil => exact Nat.zero_le _
  | cons z l ih => rw [List.map_cons, PyData.depthAll]; exact Nat.max_le.mpr ⟨by simp [PyData.depth], ih⟩
theorem toPDs_strs (S : Sto) (l : List Str) : toPDs S (l.map D.str) = some (l.map PyData.str) := by
  induction l with
  | nil => rfl
  | cons a l ih => show (toPD S (D.str a)).bind (fun p => (toPDs S (l.map D.str)).map fun ps => p :: ps) = _; rw [ih]; rfl
theorem lowL_strs (n : Nat) (l : List Str) : lowL n (l.map D.str) = true := by rw [lowL_all, List.all_map]; exact List.all_eq_true.mpr fun _ _ => rfl
theorem noXL_strs (l : List Str) : noXL (l.map D.str) = true := by
  induction l with
  | nil => rfl
  | cons a l ih => rw [List.map_cons, noXL, ih]; rfl
theorem th_lst {l : List Str} (h : ∀ z ∈ l, Asc z) (hz : ∀ z ∈ l, z.length ≤ 100) (hl : l.length ≤ 100) : IsTh (.lst (l.map D.str)) false (PyData.list (l.map PyData.str)).shown := by
  refine th_other (fun _ => rfl) (fun S => by show (toPDs S (l.map D.str)).map PyData.list = _; rw [toPDs_strs]; rfl) (by rw [ascP]; exact ascPs_strs l h) ?_ ?_ (fun _ _ _ => by rw [fz_lst, fz_mapstr]) (fun n => lowL_strs n l) (noXL_strs l)
  · have := depth_strs l
    rw [PyData.depth]; omega
  · have := lenPs_strs l 100 hz
    rw [lenP]
    have : l.length * (10 * 100 + 4) ≤ 100 * (10 * 100 + 4) := Nat.mul_le_mul_right _ hl
    omega
theorem th_tup {l : List Str} (h : ∀ z ∈ l, Asc z) (hz : ∀ z ∈ l, z.length ≤ 100) (hl : l.length ≤ 100) : IsTh (.tup (l.map D.str)) false (PyData.tuple (l.map PyData.str)).shown := by
  refine th_other (fun _ => rfl) (fun S => by show (toPDs S (l.map D.str)).map PyData.tuple = _; rw [toPDs_strs]; rfl) (by rw [ascP]; exact ascPs_strs l h) ?_ ?_ (fun _ _ _ => by rw [fz_tup, fz_mapstr]) (fun n => lowL_strs n l) (noXL_strs l)
  · have := depth_strs l
    rw [PyData.depth]; omega
  · have := lenPs_strs l 100 hz
    rw [lenP]
    have : l.length * (10 * 100 + 4) ≤ 100 * (10 * 100 + 4) := Nat.mul_le_mul_right _ hl
    omega

/-! ### the functions of numbers, asked of a thing -/
section
variable {d e : D} {b c : Bool} {y z : Str}
theorem leave_exc {n : Nat} {k : Str} {ks : List Str} {ds : List D} {ρ : Nv} {S : Sto} : leave n (.exc k ks ds ρ S) = .exc k ks (ds.map (fz n S S.length)) (S.take n) := rfl
theorem check_no (h : IsTh d false z) (S : Sto) : F_check_number [d] S = .exc "BadNumber" ["number"] [d] S := by
  unfold F_check_number fnF g_check_number raiseS
  simp only [Bd, seqS, setS, retS, retN, dropS, ifS, forS, putS, augS, nxS, bkS, ctS, SR.seq_nx, SR.seq_rt, SR.seq_exc, SR.seq_bk, SR.seq_ct, SR.turn_nx, SR.turn_ct, SR.turn_bk, SR.turn_rt, SR.turn_exc, R.bind_ok, R.bind_bad, R.bind_exc, R.bindN_ok, R.st_ok, R.st_exc,
 varE, cE, binF, tstF, chnF, andB, orB, notB, andV, orV, notV, ifE, nilF, consF, tupF, lstF, ownF, negF, noO, someO, slF, callF, appF, isiF, mthF, itF, itA, nmG, nilG, consG, tupG, yesB, wipeD,
 addD_ii, addD_ss, addD_ll, subD_ii, mulD_ii, mulD_li, mulD_si, fdivD_ii, modD_ii, powD_10_18, ltD_ii, leD_ii, gtD_ii, geD_ii, gtD_ss, ltD_ss, eqD_ii, eqD_ss, eqD_bb, neD_ii, neD_ss, isBD_bb, isND_non, isND_int, isND_str, notND_non, notND_int, notND_str, lenD_s, lenD_l, lenD_r, lenD_t, lenD_c, min2D_ii, max2D_ii, intD_i, intD_b, strD_i, sumD_l, sumD_c, sumD_t, maxD_c, tupleD_l, tupleD_t, tupleD_c, listD_l, listD_t,
 ixD_l, ixD_r, ixD_t, ixD_s, ixD_c, slD_s, slD_l, slD_r, putIx_c, appendD_c, extendD_cl, isTy_c, isTy_s, isTy_l, iaddD, atI_0, atI_1, atI_2, atI_3, atI_4, low_int, low_str, low_bl, low_non, anyI_l, anyI_r, anyI_t, anyI_s, rng1I_i, rng2I_ii, ixN5, set_concat, get_concat, take_concat, len_concat, notInD_cs, inD_cs, sindexD_s, intD_s, tyN_s, tyN_i, tyN_b, tyN_n, tyN_t, tyN_l, tyIs_t, zipI_tt,
 startD, List.map_cons, List.map_nil, List.length_cons, List.length_nil, List.cons_append, List.nil_append, List.getElem?_cons_zero, List.getElem?_cons_succ, List.set_cons_zero, List.set_cons_succ, List.replicate_succ, List.replicate_zero, Option.bind_some, if_true, if_false, Bool.true_and, Bool.false_and, Bool.and_true, Bool.not_true, Bool.not_false, decide_true, decide_false, eq_self, Nat.zero_add, Nat.reduceAdd, Nat.reduceSub, reduceIte, reduceCtorEq, Int.reduceEq, Bool.false_eq_true, true_and, and_true, true_or, or_true, decide_eq_true_eq, h.isn, List.reverse_cons, List.reverse_nil, leave_exc, h.fr, List.take_length]
theorem blocks_no (h : IsTh d false z) (S : Sto) : F_blocks [d] S = .exc "BadNumber" ["number"] [d] S := by
  unfold F_blocks fnF g_blocks
  simp only [Bd, seqS, setS, retS, retN, dropS, ifS, forS, putS, augS, nxS, bkS, ctS, SR.seq_nx, SR.seq_rt, SR.seq_exc, SR.seq_bk, SR.seq_ct, SR.turn_nx, SR.turn_ct, SR.turn_bk, SR.turn_rt, SR.turn_exc, R.bind_ok, R.bind_bad, R.bind_exc, R.bindN_ok, R.st_ok, R.st_exc,
 varE, cE, binF, tstF, chnF, andB, orB, notB, andV, orV, notV, ifE, nilF, consF, tupF, lstF, ownF, negF, noO, someO, slF, callF, appF, isiF, mthF, itF, itA, nmG, nilG, consG, tupG, yesB, wipeD,
 addD_ii, addD_ss, addD_ll, subD_ii, mulD_ii, mulD_li, mulD_si, fdivD_ii, modD_ii, powD_10_18, ltD_ii, leD_ii, gtD_ii, geD_ii, gtD_ss, ltD_ss, eqD_ii, eqD_ss, eqD_bb, neD_ii, neD_ss, isBD_bb, isND_non, isND_int, isND_str, notND_non, notND_int, notND_str, lenD_s, lenD_l, lenD_r, lenD_t, lenD_c, min2D_ii, max2D_ii, intD_i, intD_b, strD_i, sumD_l, sumD_c, sumD_t, maxD_c, tupleD_l, tupleD_t, tupleD_c, listD_l, listD_t,
 ixD_l, ixD_r, ixD_t, ixD_s, ixD_c, slD_s, slD_l, slD_r, putIx_c, appendD_c, extendD_cl, isTy_c, isTy_s, isTy_l, iaddD, atI_0, atI_1, atI_2, atI_3, atI_4, low_int, low_str, low_bl, low_non, anyI_l, anyI_r, anyI_t, anyI_s, rng1I_i, rng2I_ii, ixN5, set_concat, get_concat, take_concat, len_concat, notInD_cs, inD_cs, sindexD_s, intD_s, tyN_s, tyN_i, tyN_b, tyN_n, tyN_t, tyN_l, tyIs_t, zipI_tt,
 startD, List.map_cons, List.map_nil, List.length_cons, List.length_nil, List.cons_append, List.nil_append, List.getElem?_cons_zero, List.getElem?_cons_succ, List.set_cons_zero, List.set_cons_succ, List.replicate_succ, List.replicate_zero, Option.bind_some, if_true, if_false, Bool.true_and, Bool.false_and, Bool.and_true, Bool.not_true, Bool.not_false, decide_true, decide_false, eq_self, Nat.zero_add, Nat.reduceAdd, Nat.reduceSub, reduceIte, reduceCtorEq, Int.reduceEq, Bool.false_eq_true, true_and, and_true, true_or, or_true, decide_eq_true_eq, check_no h, leave_exc, h.fr, List.take_length]
theorem row_no (h : IsTh d false z) (S : Sto) : F_row_of [d] S = .exc "BadNumber" ["number"] [d] S := by
  unfold F_row_of fnF g_row_of
  have s0 : NLe 0 sizeLine := Nat.zero_le _
  simp only [Bd, seqS, setS, retS, retN, dropS, ifS, forS, putS, augS, nxS, bkS, ctS, SR.seq_nx, SR.seq_rt, SR.seq_exc, SR.seq_bk, SR.seq_ct, SR.turn_nx, SR.turn_ct, SR.turn_bk, SR.turn_rt, SR.turn_exc, R.bind_ok, R.bind_bad, R.bind_exc, R.bindN_ok, R.st_ok, R.st_exc,
 varE, cE, binF, tstF, chnF, andB, orB, notB, andV, orV, notV, ifE, nilF, consF, tupF, lstF, ownF, negF, noO, someO, slF, callF, appF, isiF, mthF, itF, itA, nmG, nilG, consG, tupG, yesB, wipeD,
 addD_ii, addD_ss, addD_ll, subD_ii, mulD_ii, mulD_li, mulD_si, fdivD_ii, modD_ii, powD_10_18, ltD_ii, leD_ii, gtD_ii, geD_ii, gtD_ss, ltD_ss, eqD_ii, eqD_ss, eqD_bb, neD_ii, neD_ss, isBD_bb, isND_non, isND_int, isND_str, notND_non, notND_int, notND_str, lenD_s, lenD_l, lenD_r, lenD_t, lenD_c, min2D_ii, max2D_ii, intD_i, intD_b, strD_i, sumD_l, sumD_c, sumD_t, maxD_c, tupleD_l, tupleD_t, tupleD_c, listD_l, listD_t,
 ixD_l, ixD_r, ixD_t, ixD_s, ixD_c, slD_s, slD_l, slD_r, putIx_c, appendD_c, extendD_cl, isTy_c, isTy_s, isTy_l, iaddD, atI_0, atI_1, atI_2, atI_3, atI_4, low_int, low_str, low_bl, low_non, anyI_l, anyI_r, anyI_t, anyI_s, rng1I_i, rng2I_ii, ixN5, set_concat, get_concat, take_concat, len_concat, notInD_cs, inD_cs, sindexD_s, intD_s, tyN_s, tyN_i, tyN_b, tyN_n, tyN_t, tyN_l, tyIs_t, zipI_tt,
 startD, List.map_cons, List.map_nil, List.length_cons, List.length_nil, List.cons_append, List.nil_append, List.getElem?_cons_zero, List.getElem?_cons_succ, List.set_cons_zero, List.set_cons_succ, List.replicate_succ, List.replicate_zero, Option.bind_some, if_true, if_false, Bool.true_and, Bool.false_and, Bool.and_true, Bool.not_true, Bool.not_false, decide_true, decide_false, eq_self, Nat.zero_add, Nat.reduceAdd, Nat.reduceSub, reduceIte, reduceCtorEq, Int.reduceEq, Bool.false_eq_true, true_and, and_true, true_or, or_true, decide_eq_true_eq, s0, blocks_no h, leave_exc, h.fr]
theorem length_no (h : IsTh d false z) (S : Sto) : F_length_of [d] S = .exc "BadNumber" ["number"] [d] S := by
  unfold F_length_of fnF g_length_of
  simp only [Bd, seqS, setS, retS, retN, dropS, ifS, forS, putS, augS, nxS, bkS, ctS, SR.seq_nx, SR.seq_rt, SR.seq_exc, SR.seq_bk, SR.seq_ct, SR.turn_nx, SR.turn_ct, SR.turn_bk, SR.turn_rt, SR.turn_exc, R.bind_ok, R.bind_bad, R.bind_exc, R.bindN_ok, R.st_ok, R.st_exc,
 varE, cE, binF, tstF, chnF, andB, orB, notB, andV, orV, notV, ifE, nilF, consF, tupF, lstF, ownF, negF, noO, someO, slF, callF, appF, isiF, mthF, itF, itA, nmG, nilG, consG, tupG, yesB, wipeD,
 addD_ii, addD_ss, addD_ll, subD_ii, mulD_ii, mulD_li, mulD_si, fdivD_ii, modD_ii, powD_10_18, ltD_ii, leD_ii, gtD_ii, geD_ii, gtD_ss, ltD_ss, eqD_ii, eqD_ss, eqD_bb, neD_ii, neD_ss, isBD_bb, isND_non, isND_int, isND_str, notND_non, notND_int, notND_str, lenD_s, lenD_l, lenD_r, lenD_t, lenD_c, min2D_ii, max2D_ii, intD_i, intD_b, strD_i, sumD_l, sumD_c, sumD_t, maxD_c, tupleD_l, tupleD_t, tupleD_c, listD_l, listD_t,
 ixD_l, ixD_r, ixD_t, ixD_s, ixD_c, slD_s, slD_l, slD_r, putIx_c, appendD_c, extendD_cl, isTy_c, isTy_s, isTy_l, iaddD, atI_0, atI_1, atI_2, atI_3, atI_4, low_int, low_str, low_bl, low_non, anyI_l, anyI_r, anyI_t, anyI_s, rng1I_i, rng2I_ii, ixN5, set_concat, get_concat, take_concat, len_concat, notInD_cs, inD_cs, sindexD_s, intD_s, tyN_s, tyN_i, tyN_b, tyN_n, tyN_t, tyN_l, tyIs_t, zipI_tt,
 startD, List.map_cons, List.map_nil, List.length_cons, List.length_nil, List.cons_append, List.nil_append, List.getElem?_cons_zero, List.getElem?_cons_succ, List.set_cons_zero, List.set_cons_succ, List.replicate_succ, List.replicate_zero, Option.bind_some, if_true, if_false, Bool.true_and, Bool.false_and, Bool.and_true, Bool.not_true, Bool.not_false, decide_true, decide_false, eq_self, Nat.zero_add, Nat.reduceAdd, Nat.reduceSub, reduceIte, reduceCtorEq, Int.reduceEq, Bool.false_eq_true, true_and, and_true, true_or, or_true, decide_eq_true_eq, blocks_no h, leave_exc, h.fr, List.take_length]
theorem ahead_no1 (h : IsTh d false z) (S : Sto) : F_goes_ahead [d, e] S = .exc "BadNumber" ["number"] [d] S := by
  unfold F_goes_ahead fnF g_goes_ahead
  simp only [Bd, seqS, setS, retS, retN, dropS, ifS, forS, putS, augS, nxS, bkS, ctS, SR.seq_nx, SR.seq_rt, SR.seq_exc, SR.seq_bk, SR.seq_ct, SR.turn_nx, SR.turn_ct, SR.turn_bk, SR.turn_rt, SR.turn_exc, R.bind_ok, R.bind_bad, R.bind_exc, R.bindN_ok, R.st_ok, R.st_exc,
 varE, cE, binF, tstF, chnF, andB, orB, notB, andV, orV, notV, ifE, nilF, consF, tupF, lstF, ownF, negF, noO, someO, slF, callF, appF, isiF, mthF, itF, itA, nmG, nilG, consG, tupG, yesB, wipeD,
 addD_ii, addD_ss, addD_ll, subD_ii, mulD_ii, mulD_li, mulD_si, fdivD_ii, modD_ii, powD_10_18, ltD_ii, leD_ii, gtD_ii, geD_ii, gtD_ss, ltD_ss, eqD_ii, eqD_ss, eqD_bb, neD_ii, neD_ss, isBD_bb, isND_non, isND_int, isND_str, notND_non, notND_int, notND_str, lenD_s, lenD_l, lenD_r, lenD_t, lenD_c, min2D_ii, max2D_ii, intD_i, intD_b, strD_i, sumD_l, sumD_c, sumD_t, maxD_c, tupleD_l, tupleD_t, tupleD_c, listD_l, listD_t,
 ixD_l, ixD_r, ixD_t, ixD_s, ixD_c, slD_s, slD_l, slD_r, putIx_c, appendD_c, extendD_cl, isTy_c, isTy_s, isTy_l, iaddD, atI_0, atI_1, atI_2, atI_3, atI_4, low_int, low_str, low_bl, low_non, anyI_l, anyI_r, anyI_t, anyI_s, rng1I_i, rng2I_ii, ixN5, set_concat, get_concat, take_concat, len_concat, notInD_cs, inD_cs, sindexD_s, intD_s, tyN_s, tyN_i, tyN_b, tyN_n, tyN_t, tyN_l, tyIs_t, zipI_tt,
 startD, List.map_cons, List.map_nil, List.length_cons, List.length_nil, List.cons_append, List.nil_append, List.getElem?_cons_zero, List.getElem?_cons_succ, List.set_cons_zero, List.set_cons_succ, List.replicate_succ, List.replicate_zero, Option.bind_some, if_true, if_false, Bool.true_and, Bool.false_and, Bool.and_true, Bool.not_true, Bool.not_false, decide_true, decide_false, eq_self, Nat.zero_add, Nat.reduceAdd, Nat.reduceSub, reduceIte, reduceCtorEq, Int.reduceEq, Bool.false_eq_true, true_and, and_true, true_or, or_true, decide_eq_true_eq, row_no h, leave_exc, h.fr, List.take_length]
theorem row_yes (h : IsTh d true z) (S : Sto) : ∃ r, F_row_of [d] S = .ok r S := by
  obtain ⟨ds, rfl, n⟩ := h.num rfl
  exact ⟨_, row_of_num n S⟩
theorem ahead_no2 (h : IsTh d true z) (h2 : IsTh e false y) (S : Sto) : F_goes_ahead [d, e] S = .exc "BadNumber" ["number"] [e] S := by
  obtain ⟨r, hr⟩ := row_yes h S
  unfold F_goes_ahead fnF g_goes_ahead
  simp only [Bd, seqS, setS, retS, retN, dropS, ifS, forS, putS, augS, nxS, bkS, ctS, SR.seq_nx, SR.seq_rt, SR.seq_exc, SR.seq_bk, SR.seq_ct, SR.turn_nx, SR.turn_ct, SR.turn_bk, SR.turn_rt, SR.turn_exc, R.bind_ok, R.bind_bad, R.bind_exc, R.bindN_ok, R.st_ok, R.st_exc,
 varE, cE, binF, tstF, chnF, andB, orB, notB, andV, orV, notV, ifE, nilF, consF, tupF, lstF, ownF, negF, noO, someO, slF, callF, appF, isiF, mthF, itF, itA, nmG, nilG, consG, tupG, yesB, wipeD,
 addD_ii, addD_ss, addD_ll, subD_ii, mulD_ii, mulD_li, mulD_si, fdivD_ii, modD_ii, powD_10_18, ltD_ii, leD_ii, gtD_ii, geD_ii, gtD_ss, ltD_ss, eqD_ii, eqD_ss, eqD_bb, neD_ii, neD_ss, isBD_bb, isND_non, isND_int, isND_str, notND_non, notND_int, notND_str, lenD_s, lenD_l, lenD_r, lenD_t, lenD_c, min2D_ii, max2D_ii, intD_i, intD_b, strD_i, sumD_l, sumD_c, sumD_t, maxD_c, tupleD_l, tupleD_t, tupleD_c, listD_l, listD_t,
 ixD_l, ixD_r, ixD_t, ixD_s, ixD_c, slD_s, slD_l, slD_r, putIx_c, appendD_c, extendD_cl, isTy_c, isTy_s, isTy_l, iaddD, atI_0, atI_1, atI_2, atI_3, atI_4, low_int, low_str, low_bl, low_non, anyI_l, anyI_r, anyI_t, anyI_s, rng1I_i, rng2I_ii, ixN5, set_concat, get_concat, take_concat, len_concat, notInD_cs, inD_cs, sindexD_s, intD_s, tyN_s, tyN_i, tyN_b, tyN_n, tyN_t, tyN_l, tyIs_t, zipI_tt,
 startD, List.map_cons, List.map_nil, List.length_cons, List.length_nil, List.cons_append, List.nil_append, List.getElem?_cons_zero, List.getElem?_cons_succ, List.set_cons_zero, List.set_cons_succ, List.replicate_succ, List.replicate_zero, Option.bind_some, if_true, if_false, Bool.true_and, Bool.false_and, Bool.and_true, Bool.not_true, Bool.not_false, decide_true, decide_false, eq_self, Nat.zero_add, Nat.reduceAdd, Nat.reduceSub, reduceIte, reduceCtorEq, Int.reduceEq, Bool.false_eq_true, true_and, and_true, true_or, or_true, decide_eq_true_eq, hr, row_no h2, leave_exc, h2.fr, List.take_length]
theorem ahead_yes (h : IsTh d true z) (h2 : IsTh e true y) (S : Sto) : ∃ r, F_goes_ahead [d, e] S = .ok r S := by
  obtain ⟨a, rfl, n⟩ := h.num rfl
  obtain ⟨c, rfl, m⟩ := h2.num rfl
  rcases rows_apart a c (fun d h => (n.dig d h).1) (fun d h => (m.dig d h).1) with rfl | ⟨h, _⟩ | ⟨h, _⟩
  · exact ⟨_, ahead_same n S⟩
  · generalize e1 : rowN a = ra at h
    generalize e2 : rowN c = rc at h
    cases h with | le => exact ⟨_, ahead_apart n m S (by decide) e1 e2⟩
  · generalize e1 : rowN a = ra at h
    generalize e2 : rowN c = rc at h
    cases h with | le => exact ⟨_, ahead_apart n m S (by decide) e1 e2⟩
theorem length_yes (h : IsTh d true z) (S : Sto) : ∃ r, F_length_of [d] S = .ok r S := by
  obtain ⟨w, rfl, n⟩ := h.num rfl
  refine ⟨.int (2 * ((w.sum : Nat) + (w.length : Nat) + 1)), ?_⟩
  unfold F_length_of fnF g_length_of
  have hb := blocks_num n S
  have i1 : intsOf (w.map fun d => D.int (d : Nat)) = some (w.map fun (d : Nat) => (d : Int)) := by rw [map_ints, intsOf_ints]
  have c2 : (-(2 ^ 64) < (2 : Int) ∧ (2 : Int) < 2 ^ 64) := by decide
  simp only [Bd, seqS, setS, retS, retN, dropS, ifS, forS, putS, augS, nxS, bkS, ctS, SR.seq_nx, SR.seq_rt, SR.seq_exc, SR.seq_bk, SR.seq_ct, SR.turn_nx, SR.turn_ct, SR.turn_bk, SR.turn_rt, SR.turn_exc, R.bind_ok, R.bind_bad, R.bind_exc, R.bindN_ok, R.st_ok, R.st_exc,
 varE, cE, binF, tstF, chnF, andB, orB, notB, andV, orV, notV, ifE, nilF, consF, tupF, lstF, ownF, negF, noO, someO, slF, callF, appF, isiF, mthF, itF, itA, nmG, nilG, consG, tupG, yesB, wipeD,
 addD_ii, addD_ss, addD_ll, subD_ii, mulD_ii, mulD_li, mulD_si, fdivD_ii, modD_ii, powD_10_18, ltD_ii, leD_ii, gtD_ii, geD_ii, gtD_ss, ltD_ss, eqD_ii, eqD_ss, eqD_bb, neD_ii, neD_ss, isBD_bb, isND_non, isND_int, isND_str, notND_non, notND_int, notND_str, lenD_s, lenD_l, lenD_r, lenD_t, lenD_c, min2D_ii, max2D_ii, intD_i, intD_b, strD_i, sumD_l, sumD_c, sumD_t, maxD_c, tupleD_l, tupleD_t, tupleD_c, listD_l, listD_t,
 ixD_l, ixD_r, ixD_t, ixD_s, ixD_c, slD_s, slD_l, slD_r, putIx_c, appendD_c, extendD_cl, isTy_c, isTy_s, isTy_l, iaddD, atI_0, atI_1, atI_2, atI_3, atI_4, low_int, low_str, low_bl, low_non, anyI_l, anyI_r, anyI_t, anyI_s, rng1I_i, rng2I_ii, ixN5, set_concat, get_concat, take_concat, len_concat, notInD_cs, inD_cs, sindexD_s, intD_s, tyN_s, tyN_i, tyN_b, tyN_n, tyN_t, tyN_l, tyIs_t, zipI_tt,
 startD, List.map_cons, List.map_nil, List.length_cons, List.length_nil, List.cons_append, List.nil_append, List.getElem?_cons_zero, List.getElem?_cons_succ, List.set_cons_zero, List.set_cons_succ, List.replicate_succ, List.replicate_zero, Option.bind_some, if_true, if_false, Bool.true_and, Bool.false_and, Bool.and_true, Bool.not_true, Bool.not_false, decide_true, decide_false, eq_self, Nat.zero_add, Nat.reduceAdd, Nat.reduceSub, reduceIte, reduceCtorEq, Int.reduceEq, Bool.false_eq_true, true_and, and_true, true_or, or_true, decide_eq_true_eq, hb, i1, sum_cast, List.length_map, c2, leave_rt, fz_int, List.take_length]
theorem blocks_yes (h : IsTh d true z) (S : Sto) : ∃ r, F_blocks [d] S = .ok r S := by
  obtain ⟨w, rfl, n⟩ := h.num rfl
  exact ⟨_, blocks_num n S⟩
end
/-! ### _law_tried -/
def resT (b : Bool) (z : Str) : D := if b then .non else .tup [.bl true, .str z]
noncomputable def trH : SF := (seqS (setS 4 (andV (isXF [("BadNumber", true)] (varE 3)) (andV (isXF [("BadNumber", true)] (varE 3)) (notV (isXF [("BadNumber", false)] (varE 3))))))
  (retS (tupF (consF (varE 4) (consF (appF reprD (consF (xfF ["BadNumber"] "number" (varE 3)) nilF)) nilF)))))
theorem handler_ok {x : D} {z : Str} {due : Bool} (h : IsTh x due z) (r0 r1 r2 : Option D) (S : Sto) : trH [r0, r1, r2, some (.exn "BadNumber" ["number"] [x]), none] S = .rt (.tup [.bl true, .str z]) S := by
  have s2 : NLe 2 sizeLine := sizeLine_big (by decide)
  have l1 : List.lookup ("BadNumber" : Str) [(("BadNumber" : Str), true)] = some true := by rw [List.lookup_cons, beq_self_eq_true]
  have l2 : List.lookup ("BadNumber" : Str) [(("BadNumber" : Str), false)] = some false := by rw [List.lookup_cons, beq_self_eq_true]
  have l3 : List.lookup ("number" : Str) ([("number" : Str)].zip [x]) = some x := by rw [List.zip_cons_cons, List.lookup_cons, beq_self_eq_true]
  have m : ("BadNumber" : Str) ∈ [("BadNumber" : Str)] := List.mem_cons_self
  simp only [Bd, seqS, setS, retS, retN, dropS, ifS, forS, putS, augS, nxS, bkS, ctS, SR.seq_nx, SR.seq_rt, SR.seq_exc, SR.seq_bk, SR.seq_ct, SR.turn_nx, SR.turn_ct, SR.turn_bk, SR.turn_rt, SR.turn_exc, R.bind_ok, R.bind_bad, R.bind_exc, R.bindN_ok, R.st_ok, R.st_exc,
 varE, cE, binF, tstF, chnF, andB, orB, notB, andV, orV, notV, ifE, nilF, consF, tupF, lstF, ownF, negF, noO, someO, slF, callF, appF, isiF, mthF, itF, itA, nmG, nilG, consG, tupG, yesB, wipeD,
 addD_ii, addD_ss, addD_ll, subD_ii, mulD_ii, mulD_li, mulD_si, fdivD_ii, modD_ii, powD_10_18, ltD_ii, leD_ii, gtD_ii, geD_ii, gtD_ss, ltD_ss, eqD_ii, eqD_ss, eqD_bb, neD_ii, neD_ss, isBD_bb, isND_non, isND_int, isND_str, notND_non, notND_int, notND_str, lenD_s, lenD_l, lenD_r, lenD_t, lenD_c, min2D_ii, max2D_ii, intD_i, intD_b, strD_i, sumD_l, sumD_c, sumD_t, maxD_c, tupleD_l, tupleD_t, tupleD_c, listD_l, listD_t,
 ixD_l, ixD_r, ixD_t, ixD_s, ixD_c, slD_s, slD_l, slD_r, putIx_c, appendD_c, extendD_cl, isTy_c, isTy_s, isTy_l, iaddD, atI_0, atI_1, atI_2, atI_3, atI_4, low_int, low_str, low_bl, low_non, anyI_l, anyI_r, anyI_t, anyI_s, rng1I_i, rng2I_ii, ixN5, set_concat, get_concat, take_concat, len_concat, notInD_cs, inD_cs, sindexD_s, intD_s, tyN_s, tyN_i, tyN_b, tyN_n, tyN_t, tyN_l, tyIs_t, zipI_tt,
 startD, List.map_cons, List.map_nil, List.length_cons, List.length_nil, List.cons_append, List.nil_append, List.getElem?_cons_zero, List.getElem?_cons_succ, List.set_cons_zero, List.set_cons_succ, List.replicate_succ, List.replicate_zero, Option.bind_some, if_true, if_false, Bool.true_and, Bool.false_and, Bool.and_true, Bool.not_true, Bool.not_false, decide_true, decide_false, eq_self, Nat.zero_add, Nat.reduceAdd, Nat.reduceSub, reduceIte, reduceCtorEq, Int.reduceEq, Bool.false_eq_true, true_and, and_true, true_or, or_true, decide_eq_true_eq, trH, isXF, xfF, l1, l2, l3, m, h.rep, s2]
theorem try_no {x : D} {z : Str} {due : Bool} (h : IsTh x due z) {g : SF} {r0 r1 r2 : Option D} {S : Sto} (hg : g [r0, r1, r2, none, none] S = .exc "BadNumber" ["number"] [x] [r0, r1, r2, none, none] S) : tryS [("BadNumber", true)] 3 g trH [r0, r1, r2, none, none] S = .rt (.tup [.bl true, .str z]) S := by
  have l1 : List.lookup ("BadNumber" : Str) [(("BadNumber" : Str), true)] = some true := by rw [List.lookup_cons, beq_self_eq_true]
  unfold tryS
  rw [hg]
  dsimp only
  rw [l1]
  dsimp only
  rw [show ([r0, r1, r2, none, none] : Nv).set 3 (some (.exn "BadNumber" ["number"] [x])) = [r0, r1, r2, some (.exn "BadNumber" ["number"] [x]), none] from rfl, handler_ok h]
  dsimp only
  rw [if_pos ⟨rfl, rfl⟩]
theorem try_yes {g : SF} {ρ : Nv} {S : Sto} (hg : g ρ S = .nx ρ S) : tryS [("BadNumber", true)] 3 g trH ρ S = .nx ρ S := by
  unfold tryS
  rw [hg]
noncomputable def trG : SF := (ifS (tstF (binF eqD (varE 0) (cE (.int 0)))) (dropS (callF 1 F_blocks (consF (varE 1) nilF))) (ifS (tstF (binF eqD (varE 0) (cE (.int 1)))) (dropS (callF 1 F_row_of (consF (varE 1) nilF))) (ifS (tstF (binF eqD (varE 0) (cE (.int 2)))) (dropS (callF 1 F_length_of (consF (varE 1) nilF))) (dropS (callF 2 F_goes_ahead (consF (varE 1) (consF (varE 2) nilF)))))))
theorem tried_of {r : D} {which d e : D} {S : Sto} (h : (trG [some which, some d, some e, none, none] S = .nx [some which, some d, some e, none, none] S ∧ r = .non) ∨
    ∃ x due z, IsTh x due z ∧ trG [some which, some d, some e, none, none] S = .exc "BadNumber" ["number"] [x] [some which, some d, some e, none, none] S ∧ r = .tup [.bl true, .str z]) : F__law_tried [which, d, e] S = .ok r S := by
  show leave S.length (seqS (tryS [("BadNumber", true)] 3 trG trH) (retS (cE .non)) [some which, some d, some e, none, none] S) = _
  rcases h with ⟨hg, rfl⟩ | ⟨x, due, z, hx, hg, rfl⟩
  · unfold seqS
    rw [try_yes hg, SR.seq_nx]
    simp only [retS, cE, R.st_ok, leave_rt, fz_non, List.take_length]
  · unfold seqS
    rw [try_no hx hg, SR.seq_rt]
    simp only [leave_rt, fz_tup, List.map_cons, List.map_nil, fz_bl, fz_str, List.take_length]
theorem tried_one {which : Int} (hw : which = 0 ∨ which = 1 ∨ which = 2) {d e : D} {b : Bool} {z : Str} (h : IsTh d b z) (S : Sto) : F__law_tried [.int which, d, e] S = .ok (resT b z) S := by
  apply tried_of
  cases b with
  | true =>
    left
    refine ⟨?_, rfl⟩
    obtain ⟨u1, e1⟩ := blocks_yes h S
    obtain ⟨u2, e2⟩ := row_yes h S
    obtain ⟨u3, e3⟩ := length_yes h S
    rcases hw with rfl | rfl | rfl
    · simp only [Bd, seqS, setS, retS, retN, dropS, ifS, forS, putS, augS, nxS, bkS, ctS, SR.seq_nx, SR.seq_rt, SR.seq_exc, SR.seq_bk, SR.seq_ct, SR.turn_nx, SR.turn_ct, SR.turn_bk, SR.turn_rt, SR.turn_exc, R.bind_ok, R.bind_bad, R.bind_exc, R.bindN_ok, R.st_ok, R.st_exc,
 varE, cE, binF, tstF, chnF, andB, orB, notB, andV, orV, notV, ifE, nilF, consF, tupF, lstF, ownF, negF, noO, someO, slF, callF, appF, isiF, mthF, itF, itA, nmG, nilG, consG, tupG, yesB, wipeD,
 addD_ii, addD_ss, addD_ll, subD_ii, mulD_ii, mulD_li, mulD_si, fdivD_ii, modD_ii, powD_10_18, ltD_ii, leD_ii, gtD_ii, geD_ii, gtD_ss, ltD_ss, eqD_ii, eqD_ss, eqD_bb, neD_ii, neD_ss, isBD_bb, isND_non, isND_int, isND_str, notND_non, notND_int, notND_str, lenD_s, lenD_l, lenD_r, lenD_t, lenD_c, min2D_ii, max2D_ii, intD_i, intD_b, strD_i, sumD_l, sumD_c, sumD_t, maxD_c, tupleD_l, tupleD_t, tupleD_c, listD_l, listD_t,
 ixD_l, ixD_r, ixD_t, ixD_s, ixD_c, slD_s, slD_l, slD_r, putIx_c, appendD_c, extendD_cl, isTy_c, isTy_s, isTy_l, iaddD, atI_0, atI_1, atI_2, atI_3, atI_4, low_int, low_str, low_bl, low_non, anyI_l, anyI_r, anyI_t, anyI_s, rng1I_i, rng2I_ii, ixN5, set_concat, get_concat, take_concat, len_concat, notInD_cs, inD_cs, sindexD_s, intD_s, tyN_s, tyN_i, tyN_b, tyN_n, tyN_t, tyN_l, tyIs_t, zipI_tt,
 startD, List.map_cons, List.map_nil, List.length_cons, List.length_nil, List.cons_append, List.nil_append, List.getElem?_cons_zero, List.getElem?_cons_succ, List.set_cons_zero, List.set_cons_succ, List.replicate_succ, List.replicate_zero, Option.bind_some, if_true, if_false, Bool.true_and, Bool.false_and, Bool.and_true, Bool.not_true, Bool.not_false, decide_true, decide_false, eq_self, Nat.zero_add, Nat.reduceAdd, Nat.reduceSub, reduceIte, reduceCtorEq, Int.reduceEq, Bool.false_eq_true, true_and, and_true, true_or, or_true, decide_eq_true_eq, trG, e1]
    · simp only [Bd, seqS, setS, retS, retN, dropS, ifS, forS, putS, augS, nxS, bkS, ctS, SR.seq_nx, SR.seq_rt, SR.seq_exc, SR.seq_bk, SR.seq_ct, SR.turn_nx, SR.turn_ct, SR.turn_bk, SR.turn_rt, SR.turn_exc, R.bind_ok, R.bind_bad, R.bind_exc, R.bindN_ok, R.st_ok, R.st_exc,
 varE, cE, binF, tstF, chnF, andB, orB, notB, andV, orV, notV, ifE, nilF, consF, tupF, lstF, ownF, negF, noO, someO, slF, callF, appF, isiF, mthF, itF, itA, nmG, nilG, consG, tupG, yesB, wipeD,
 addD_ii, addD_ss, addD_ll, subD_ii, mulD_ii, mulD_li, mulD_si, fdivD_ii, modD_ii, powD_10_18, ltD_ii, leD_ii, gtD_ii, geD_ii, gtD_ss, ltD_ss, eqD_ii, eqD_ss, eqD_bb, neD_ii, neD_ss, isBD_bb, isND_non, isND_int, isND_str, notND_non, notND_int, notND_str, lenD_s, lenD_l, lenD_r, lenD_t, lenD_c, min2D_ii, max2D_ii, intD_i, intD_b, strD_i, sumD_l, sumD_c, sumD_t, maxD_c, tupleD_l, tupleD_t, tupleD_c, listD_l, listD_t,
 ixD_l, ixD_r, ixD_t, ixD_s, ixD_c, slD_s, slD_l, slD_r, putIx_c, appendD_c, extendD_cl, isTy_c, isTy_s, isTy_l, iaddD, atI_0, atI_1, atI_2, atI_3, atI_4, low_int, low_str, low_bl, low_non, anyI_l, anyI_r, anyI_t, anyI_s, rng1I_i, rng2I_ii, ixN5, set_concat, get_concat, take_concat, len_concat, notInD_cs, inD_cs, sindexD_s, intD_s, tyN_s, tyN_i, tyN_b, tyN_n, tyN_t, tyN_l, tyIs_t, zipI_tt,
 startD, List.map_cons, List.map_nil, List.length_cons, List.length_nil, List.cons_append, List.nil_append, List.getElem?_cons_zero, List.getElem?_cons_succ, List.set_cons_zero, List.set_cons_succ, List.replicate_succ, List.replicate_zero, Option.bind_some, if_true, if_false, Bool.true_and, Bool.false_and, Bool.and_true, Bool.not_true, Bool.not_false, decide_true, decide_false, eq_self, Nat.zero_add, Nat.reduceAdd, Nat.reduceSub, reduceIte, reduceCtorEq, Int.reduceEq, Bool.false_eq_true, true_and, and_true, true_or, or_true, decide_eq_true_eq, trG, e2]
    · simp only [Bd, seqS, setS, retS, retN, dropS, ifS, forS, putS, augS, nxS, bkS, ctS, SR.seq_nx, SR.seq_rt, SR.seq_exc, SR.seq_bk, SR.seq_ct, SR.turn_nx, SR.turn_ct, SR.turn_bk, SR.turn_rt, SR.turn_exc, R.bind_ok, R.bind_bad, R.bind_exc, R.bindN_ok, R.st_ok, R.st_exc,
 varE, cE, binF, tstF, chnF, andB, orB, notB, andV, orV, notV, ifE, nilF, consF, tupF, lstF, ownF, negF, noO, someO, slF, callF, appF, isiF, mthF, itF, itA, nmG, nilG, consG, tupG, yesB, wipeD,
 addD_ii, addD_ss, addD_ll, subD_ii, mulD_ii, mulD_li, mulD_si, fdivD_ii, modD_ii, powD_10_18, ltD_ii, leD_ii, gtD_ii, geD_ii, gtD_ss, ltD_ss, eqD_ii, eqD_ss, eqD_bb, neD_ii, neD_ss, isBD_bb, isND_non, isND_int, isND_str, notND_non, notND_int, notND_str, lenD_s, lenD_l, lenD_r, lenD_t, lenD_c, min2D_ii, max2D_ii, intD_i, intD_b, strD_i, sumD_l, sumD_c, sumD_t, maxD_c, tupleD_l, tupleD_t, tupleD_c, listD_l, listD_t,
 ixD_l, ixD_r, ixD_t, ixD_s, ixD_c, slD_s, slD_l, slD_r, putIx_c, appendD_c, extendD_cl, isTy_c, isTy_s, isTy_l, iaddD, atI_0, atI_1, atI_2, atI_3, atI_4, low_int, low_str, low_bl, low_non, anyI_l, anyI_r, anyI_t, anyI_s, rng1I_i, rng2I_ii, ixN5, set_concat, get_concat, take_concat, len_concat, notInD_cs, inD_cs, sindexD_s, intD_s, tyN_s, tyN_i, tyN_b, tyN_n, tyN_t, tyN_l, tyIs_t, zipI_tt,
 startD, List.map_cons, List.map_nil, List.length_cons, List.length_nil, List.cons_append, List.nil_append, List.getElem?_cons_zero, List.getElem?_cons_succ, List.set_cons_zero, List.set_cons_succ, List.replicate_succ, List.replicate_zero, Option.bind_some, if_true, if_false, Bool.true_and, Bool.false_and, Bool.and_true, Bool.not_true, Bool.not_false, decide_true, decide_false, eq_self, Nat.zero_add, Nat.reduceAdd, Nat.reduceSub, reduceIte, reduceCtorEq, Int.reduceEq, Bool.false_eq_true, true_and, and_true, true_or, or_true, decide_eq_true_eq, trG, e3]
  | false =>
    right
    refine ⟨d, false, z, h, ?_, rfl⟩
    rcases hw with rfl | rfl | rfl
    · simp only [Bd, seqS, setS, retS, retN, dropS, ifS, forS, putS, augS, nxS, bkS, ctS, SR.seq_nx, SR.seq_rt, SR.seq_exc, SR.seq_bk, SR.seq_ct, SR.turn_nx, SR.turn_ct, SR.turn_bk, SR.turn_rt, SR.turn_exc, R.bind_ok, R.bind_bad, R.bind_exc, R.bindN_ok, R.st_ok, R.st_exc,
 varE, cE, binF, tstF, chnF, andB, orB, notB, andV, orV, notV, ifE, nilF, consF, tupF, lstF, ownF, negF, noO, someO, slF, callF, appF, isiF, mthF, itF, itA, nmG, nilG, consG, tupG, yesB, wipeD,
 addD_ii, addD_ss, addD_ll, subD_ii, mulD_ii, mulD_li, mulD_si, fdivD_ii, modD_ii, powD_10_18, ltD_ii, leD_ii, gtD_ii, geD_ii, gtD_ss, ltD_ss, eqD_ii, eqD_ss, eqD_bb, neD_ii, neD_ss, isBD_bb, isND_non, isND_int, isND_str, notND_non, notND_int, notND_str, lenD_s, lenD_l, lenD_r, lenD_t, lenD_c, min2D_ii, max2D_ii, intD_i, intD_b, strD_i, sumD_l, sumD_c, sumD_t, maxD_c, tupleD_l, tupleD_t, tupleD_c, listD_l, listD_t,
 ixD_l, ixD_r, ixD_t, ixD_s, ixD_c, slD_s, slD_l, slD_r, putIx_c, appendD_c, extendD_cl, isTy_c, isTy_s, isTy_l, iaddD, atI_0, atI_1, atI_2, atI_3, atI_4, low_int, low_str, low_bl, low_non, anyI_l, anyI_r, anyI_t, anyI_s, rng1I_i, rng2I_ii, ixN5, set_concat, get_concat, take_concat, len_concat, notInD_cs, inD_cs, sindexD_s, intD_s, tyN_s, tyN_i, tyN_b, tyN_n, tyN_t, tyN_l, tyIs_t, zipI_tt,
 startD, List.map_cons, List.map_nil, List.length_cons, List.length_nil, List.cons_append, List.nil_append, List.getElem?_cons_zero, List.getElem?_cons_succ, List.set_cons_zero, List.set_cons_succ, List.replicate_succ, List.replicate_zero, Option.bind_some, if_true, if_false, Bool.true_and, Bool.false_and, Bool.and_true, Bool.not_true, Bool.not_false, decide_true, decide_false, eq_self, Nat.zero_add, Nat.reduceAdd, Nat.reduceSub, reduceIte, reduceCtorEq, Int.reduceEq, Bool.false_eq_true, true_and, and_true, true_or, or_true, decide_eq_true_eq, trG, blocks_no h]
    · simp only [Bd, seqS, setS, retS, retN, dropS, ifS, forS, putS, augS, nxS, bkS, ctS, SR.seq_nx, SR.seq_rt, SR.seq_exc, SR.seq_bk, SR.seq_ct, SR.turn_nx, SR.turn_ct, SR.turn_bk, SR.turn_rt, SR.turn_exc, R.bind_ok, R.bind_bad, R.bind_exc, R.bindN_ok, R.st_ok, R.st_exc,
 varE, cE, binF, tstF, chnF, andB, orB, notB, andV, orV, notV, ifE, nilF, consF, tupF, lstF, ownF, negF, noO, someO, slF, callF, appF, isiF, mthF, itF, itA, nmG, nilG, consG, tupG, yesB, wipeD,
 addD_ii, addD_ss, addD_ll, subD_ii, mulD_ii, mulD_li, mulD_si, fdivD_ii, modD_ii, powD_10_18, ltD_ii, leD_ii, gtD_ii, geD_ii, gtD_ss, ltD_ss, eqD_ii, eqD_ss, eqD_bb, neD_ii, neD_ss, isBD_bb, isND_non, isND_int, isND_str, notND_non, notND_int, notND_str, lenD_s, lenD_l, lenD_r, lenD_t, lenD_c, min2D_ii, max2D_ii, intD_i, intD_b, strD_i, sumD_l, sumD_c, sumD_t, maxD_c, tupleD_l, tupleD_t, tupleD_c, listD_l, listD_t,
 ixD_l, ixD_r, ixD_t, ixD_s, ixD_c, slD_s, slD_l, slD_r, putIx_c, appendD_c, extendD_cl, isTy_c, isTy_s, isTy_l, iaddD, atI_0, atI_1, atI_2, atI_3, atI_4, low_int, low_str, low_bl, low_non, anyI_l, anyI_r, anyI_t, anyI_s, rng1I_i, rng2I_ii, ixN5, set_concat, get_concat, take_concat, len_concat, notInD_cs, inD_cs, sindexD_s, intD_s, tyN_s, tyN_i, tyN_b, tyN_n, tyN_t, tyN_l, tyIs_t, zipI_tt,
 startD, List.map_cons, List.map_nil, List.length_cons, List.length_nil, List.cons_append, List.nil_append, List.getElem?_cons_zero, List.getElem?_cons_succ, List.set_cons_zero, List.set_cons_succ, List.replicate_succ, List.replicate_zero, Option.bind_some, if_true, if_false, Bool.true_and, Bool.false_and, Bool.and_true, Bool.not_true, Bool.not_false, decide_true, decide_false, eq_self, Nat.zero_add, Nat.reduceAdd, Nat.reduceSub, reduceIte, reduceCtorEq, Int.reduceEq, Bool.false_eq_true, true_and, and_true, true_or, or_true, decide_eq_true_eq, trG, row_no h]
    · simp only [Bd, seqS, setS, retS, retN, dropS, ifS, forS, putS, augS, nxS, bkS, ctS, SR.seq_nx, SR.seq_rt, SR.seq_exc, SR.seq_bk, SR.seq_ct, SR.turn_nx, SR.turn_ct, SR.turn_bk, SR.turn_rt, SR.turn_exc, R.bind_ok, R.bind_bad, R.bind_exc, R.bindN_ok, R.st_ok, R.st_exc,
 varE, cE, binF, tstF, chnF, andB, orB, notB, andV, orV, notV, ifE, nilF, consF, tupF, lstF, ownF, negF, noO, someO, slF, callF, appF, isiF, mthF, itF, itA, nmG, nilG, consG, tupG, yesB, wipeD,
 addD_ii, addD_ss, addD_ll, subD_ii, mulD_ii, mulD_li, mulD_si, fdivD_ii, modD_ii, powD_10_18, ltD_ii, leD_ii, gtD_ii, geD_ii, gtD_ss, ltD_ss, eqD_ii, eqD_ss, eqD_bb, neD_ii, neD_ss, isBD_bb, isND_non, isND_int, isND_str, notND_non, notND_int, notND_str, lenD_s, lenD_l, lenD_r, lenD_t, lenD_c, min2D_ii, max2D_ii, intD_i, intD_b, strD_i, sumD_l, sumD_c, sumD_t, maxD_c, tupleD_l, tupleD_t, tupleD_c, listD_l, listD_t,
 ixD_l, ixD_r, ixD_t, ixD_s, ixD_c, slD_s, slD_l, slD_r, putIx_c, appendD_c, extendD_cl, isTy_c, isTy_s, isTy_l, iaddD, atI_0, atI_1, atI_2, atI_3, atI_4, low_int, low_str, low_bl, low_non, anyI_l, anyI_r, anyI_t, anyI_s, rng1I_i, rng2I_ii, ixN5, set_concat, get_concat, take_concat, len_concat, notInD_cs, inD_cs, sindexD_s, intD_s, tyN_s, tyN_i, tyN_b, tyN_n, tyN_t, tyN_l, tyIs_t, zipI_tt,
 startD, List.map_cons, List.map_nil, List.length_cons, List.length_nil, List.cons_append, List.nil_append, List.getElem?_cons_zero, List.getElem?_cons_succ, List.set_cons_zero, List.set_cons_succ, List.replicate_succ, List.replicate_zero, Option.bind_some, if_true, if_false, Bool.true_and, Bool.false_and, Bool.and_true, Bool.not_true, Bool.not_false, decide_true, decide_false, eq_self, Nat.zero_add, Nat.reduceAdd, Nat.reduceSub, reduceIte, reduceCtorEq, Int.reduceEq, Bool.false_eq_true, true_and, and_true, true_or, or_true, decide_eq_true_eq, trG, length_no h]
theorem tried_two {d e : D} {b c : Bool} {z y : Str} (h : IsTh d b z) (h2 : IsTh e c y) (S : Sto) : F__law_tried [.int 3, d, e] S = .ok (if b then resT c y else resT false z) S := by
  apply tried_of
  cases b with
  | true =>
    cases c with
    | true =>
      left
      refine ⟨?_, rfl⟩
      obtain ⟨u, e1⟩ := ahead_yes h h2 S
      simp only [Bd, seqS, setS, retS, retN, dropS, ifS, forS, putS, augS, nxS, bkS, ctS, SR.seq_nx, SR.seq_rt, SR.seq_exc, SR.seq_bk, SR.seq_ct, SR.turn_nx, SR.turn_ct, SR.turn_bk, SR.turn_rt, SR.turn_exc, R.bind_ok, R.bind_bad, R.bind_exc, R.bindN_ok, R.st_ok, R.st_exc,
 varE, cE, binF, tstF, chnF, andB, orB, notB, andV, orV, notV, ifE, nilF, consF, tupF, lstF, ownF, negF, noO, someO, slF, callF, appF, isiF, mthF, itF, itA, nmG, nilG, consG, tupG, yesB, wipeD,
 addD_ii, addD_ss, addD_ll, subD_ii, mulD_ii, mulD_li, mulD_si, fdivD_ii, modD_ii, powD_10_18, ltD_ii, leD_ii, gtD_ii, geD_ii, gtD_ss, ltD_ss, eqD_ii, eqD_ss, eqD_bb, neD_ii, neD_ss, isBD_bb, isND_non, isND_int, isND_str, notND_non, notND_int, notND_str, lenD_s, lenD_l, lenD_r, lenD_t, lenD_c, min2D_ii, max2D_ii, intD_i, intD_b, strD_i, sumD_l, sumD_c, sumD_t, maxD_c, tupleD_l, tupleD_t, tupleD_c, listD_l, listD_t,
 ixD_l, ixD_r, ixD_t, ixD_s, ixD_c, slD_s, slD_l, slD_r, putIx_c, appendD_c, extendD_cl, isTy_c, isTy_s, isTy_l, iaddD, atI_0, atI_1, atI_2, atI_3, atI_4, low_int, low_str, low_bl, low_non, anyI_l, anyI_r, anyI_t, anyI_s, rng1I_i, rng2I_ii, ixN5, set_concat, get_concat, take_concat, len_concat, notInD_cs, inD_cs, sindexD_s, intD_s, tyN_s, tyN_i, tyN_b, tyN_n, tyN_t, tyN_l, tyIs_t, zipI_tt,
 startD, List.map_cons, List.map_nil, List.length_cons, List.length_nil, List.cons_append, List.nil_append, List.getElem?_cons_zero, List.getElem?_cons_succ, List.set_cons_zero, List.set_cons_succ, List.replicate_succ, List.replicate_zero, Option.bind_some, if_true, if_false, Bool.true_and, Bool.false_and, Bool.and_true, Bool.not_true, Bool.not_false, decide_true, decide_false, eq_self, Nat.zero_add, Nat.reduceAdd, Nat.reduceSub, reduceIte, reduceCtorEq, Int.reduceEq, Bool.false_eq_true, true_and, and_true, true_or, or_true, decide_eq_true_eq, trG, e1]
    | false =>
      right
      refine ⟨e, false, y, h2, ?_, rfl⟩
      simp only [Bd, seqS, setS, retS, retN, dropS, ifS, forS, putS, augS, nxS, bkS, ctS, SR.seq_nx, SR.seq_rt, SR.seq_exc, SR.seq_bk, SR.seq_ct, SR.turn_nx, SR.turn_ct, SR.turn_bk, SR.turn_rt, SR.turn_exc, R.bind_ok, R.bind_bad, R.bind_exc, R.bindN_ok, R.st_ok, R.st_exc,
 varE, cE, binF, tstF, chnF, andB, orB, notB, andV, orV, notV, ifE, nilF, consF, tupF, lstF, ownF, negF, noO, someO, slF, callF, appF, isiF, mthF, itF, itA, nmG, nilG, consG, tupG, yesB, wipeD,
 addD_ii, addD_ss, addD_ll, subD_ii, mulD_ii, mulD_li, mulD_si, fdivD_ii, modD_ii, powD_10_18, ltD_ii, leD_ii, gtD_ii, geD_ii, gtD_ss, ltD_ss, eqD_ii, eqD_ss, eqD_bb, neD_ii, neD_ss, isBD_bb, isND_non, isND_int, isND_str, notND_non, notND_int, notND_str, lenD_s, lenD_l, lenD_r, lenD_t, lenD_c, min2D_ii, max2D_ii, intD_i, intD_b, strD_i, sumD_l, sumD_c, sumD_t, maxD_c, tupleD_l, tupleD_t, tupleD_c, listD_l, listD_t,
 ixD_l, ixD_r, ixD_t, ixD_s, ixD_c, slD_s, slD_l, slD_r, putIx_c, appendD_c, extendD_cl, isTy_c, isTy_s, isTy_l, iaddD, atI_0, atI_1, atI_2, atI_3, atI_4, low_int, low_str, low_bl, low_non, anyI_l, anyI_r, anyI_t, anyI_s, rng1I_i, rng2I_ii, ixN5, set_concat, get_concat, take_concat, len_concat, notInD_cs, inD_cs, sindexD_s, intD_s, tyN_s, tyN_i, tyN_b, tyN_n, tyN_t, tyN_l, tyIs_t, zipI_tt,
 startD, List.map_cons, List.map_nil, List.length_cons, List.length_nil, List.cons_append, List.nil_append, List.getElem?_cons_zero, List.getElem?_cons_succ, List.set_cons_zero, List.set_cons_succ, List.replicate_succ, List.replicate_zero, Option.bind_some, if_true, if_false, Bool.true_and, Bool.false_and, Bool.and_true, Bool.not_true, Bool.not_false, decide_true, decide_false, eq_self, Nat.zero_add, Nat.reduceAdd, Nat.reduceSub, reduceIte, reduceCtorEq, Int.reduceEq, Bool.false_eq_true, true_and, and_true, true_or, or_true, decide_eq_true_eq, trG, ahead_no2 h h2]
  | false =>
    right
    refine ⟨d, false, z, h, ?_, rfl⟩
    simp only [Bd, seqS, setS, retS, retN, dropS, ifS, forS, putS, augS, nxS, bkS, ctS, SR.seq_nx, SR.seq_rt, SR.seq_exc, SR.seq_bk, SR.seq_ct, SR.turn_nx, SR.turn_ct, SR.turn_bk, SR.turn_rt, SR.turn_exc, R.bind_ok, R.bind_bad, R.bind_exc, R.bindN_ok, R.st_ok, R.st_exc,
 varE, cE, binF, tstF, chnF, andB, orB, notB, andV, orV, notV, ifE, nilF, consF, tupF, lstF, ownF, negF, noO, someO, slF, callF, appF, isiF, mthF, itF, itA, nmG, nilG, consG, tupG, yesB, wipeD,
 addD_ii, addD_ss, addD_ll, subD_ii, mulD_ii, mulD_li, mulD_si, fdivD_ii, modD_ii, powD_10_18, ltD_ii, leD_ii, gtD_ii, geD_ii, gtD_ss, ltD_ss, eqD_ii, eqD_ss, eqD_bb, neD_ii, neD_ss, isBD_bb, isND_non, isND_int, isND_str, notND_non, notND_int, notND_str, lenD_s, lenD_l, lenD_r, lenD_t, lenD_c, min2D_ii, max2D_ii, intD_i, intD_b, strD_i, sumD_l, sumD_c, sumD_t, maxD_c, tupleD_l, tupleD_t, tupleD_c, listD_l, listD_t,
 ixD_l, ixD_r, ixD_t, ixD_s, ixD_c, slD_s, slD_l, slD_r, putIx_c, appendD_c, extendD_cl, isTy_c, isTy_s, isTy_l, iaddD, atI_0, atI_1, atI_2, atI_3, atI_4, low_int, low_str, low_bl, low_non, anyI_l, anyI_r, anyI_t, anyI_s, rng1I_i, rng2I_ii, ixN5, set_concat, get_concat, take_concat, len_concat, notInD_cs, inD_cs, sindexD_s, intD_s, tyN_s, tyN_i, tyN_b, tyN_n, tyN_t, tyN_l, tyIs_t, zipI_tt,
 startD, List.map_cons, List.map_nil, List.length_cons, List.length_nil, List.cons_append, List.nil_append, List.getElem?_cons_zero, List.getElem?_cons_succ, List.set_cons_zero, List.set_cons_succ, List.replicate_succ, List.replicate_zero, Option.bind_some, if_true, if_false, Bool.true_and, Bool.false_and, Bool.and_true, Bool.not_true, Bool.not_false, decide_true, decide_false, eq_self, Nat.zero_add, Nat.reduceAdd, Nat.reduceSub, reduceIte, reduceCtorEq, Int.reduceEq, Bool.false_eq_true, true_and, and_true, true_or, or_true, decide_eq_true_eq, trG, ahead_no1 h]
/-! ### things drawn -/
theorem asc_dig {w : List Nat} (h : ∀ d ∈ w, 0 ≤ d ∧ d ≤ 9) : Asc (numS w) := by
  intro c hc
  rw [numS_list] at hc
  obtain ⟨d, hd, rfl⟩ := List.mem_map.mp hc
  have := (h d hd).2
  show 48 + d < 128
  omega
theorem asc_num {w : List Nat} (h : IsNum w) : Asc (numS w) := asc_dig fun d hd => ⟨Nat.zero_le _, (h.dig d hd).2⟩
theorem cut_asc {z : Str} (h : Asc z) (lo hi : Option Int) : Asc (cutS z lo hi) ∧ (cutS z lo hi).length ≤ z.length := by
  have e : (cutS z lo hi).cps.toList = (z.cps.toList.drop (HT.sIx z.length 0 lo)).take (HT.sIx z.length z.length hi - HT.sIx z.length 0 lo) := rfl
  constructor
  · intro c hc
    rw [e] at hc
    exact h c (List.mem_of_mem_drop (List.mem_of_mem_take hc))
  · have l1 : (cutS z lo hi).length = (cutS z lo hi).cps.toList.length := by simp [Str.length]
    have l2 : z.length = z.cps.toList.length := by simp [Str.length]
    rw [l1, e, l2, List.length_take, List.length_drop]
    omega
theorem len_app (a b : Str) : (a ++ b).length = a.length + b.length := by
  have e : (a ++ b).cps.toList = a.cps.toList ++ b.cps.toList := TL.tl_append a b
  have := congrArg List.length e
  simpa [Str.length] using this
theorem sign_ok {m : Nat} {b : List D} {T : Sto} (hb : BagOk m b) (hm : m < 2 ^ 59) : ∃ c b', F__law_sign [.cell 0] (.lst b :: T) = .ok (.str ⟨#[c]⟩) (.lst b' :: T) ∧ c < 128 ∧ BagOk (m + 1) b' := by
  unfold F__law_sign fnF g__law_sign
  generalize hs : ((" !\"#$&'()*+,-./0123456789:;<=>?@ABCDEFGHIJKLMNOPQRSTUVWXYZ[\\]^_`" : String) : Str) = s1
  generalize ht : (("abcdefghijklmnopqrstuvwxyz{|}~\n0" : String) : Str) = s2
  have l1 : s1.length ≤ 100 := by rw [← hs]; decide +kernel
  have l2 : s2.length ≤ 100 ∧ 0 < s2.length := by rw [← ht]; decide +kernel
  have a1 : Asc s1 := by rw [← hs]; unfold Asc; decide +kernel
  have a2 : Asc s2 := by rw [← ht]; unfold Asc; decide +kernel
  have h1 : NLe (s1.length + s2.length) sizeLine := sizeLine_big (by omega)
  have h2 : NLe (s1 ++ s2).length sizeLine := sizeLine_big (by rw [len_app]; omega)
  obtain ⟨k, b1, e1, k0, k1, hb1⟩ := draw_ok (T := T) (lim := ((s1 ++ s2).length : Nat)) hb (by rw [len_app]; omega) (lt1000 (by rw [len_app]; omega)) (by omega)
  have hk : k < (s1 ++ s2).cps.toList.length := by
    have : (s1 ++ s2).length = (s1 ++ s2).cps.toList.length := by simp [Str.length]
    rw [← this]; exact k1
  have at_ := atI_some k0 hk
  refine ⟨(s1 ++ s2).cps.toList[k.toNat]'(by omega), b1, ?_, Asc.app a1 a2 _ (List.getElem_mem _), hb1⟩
  simp only [Bd, seqS, setS, retS, retN, dropS, ifS, forS, putS, augS, nxS, bkS, ctS, SR.seq_nx, SR.seq_rt, SR.seq_exc, SR.seq_bk, SR.seq_ct, SR.turn_nx, SR.turn_ct, SR.turn_bk, SR.turn_rt, SR.turn_exc, R.bind_ok, R.bind_bad, R.bind_exc, R.bindN_ok, R.st_ok, R.st_exc,
 varE, cE, binF, tstF, chnF, andB, orB, notB, andV, orV, notV, ifE, nilF, consF, tupF, lstF, ownF, negF, noO, someO, slF, callF, appF, isiF, mthF, itF, itA, nmG, nilG, consG, tupG, yesB, wipeD,
 addD_ii, addD_ss, addD_ll, subD_ii, mulD_ii, mulD_li, mulD_si, fdivD_ii, modD_ii, powD_10_18, ltD_ii, leD_ii, gtD_ii, geD_ii, gtD_ss, ltD_ss, eqD_ii, eqD_ss, eqD_bb, neD_ii, neD_ss, isBD_bb, isND_non, isND_int, isND_str, notND_non, notND_int, notND_str, lenD_s, lenD_l, lenD_r, lenD_t, lenD_c, min2D_ii, max2D_ii, intD_i, intD_b, strD_i, sumD_l, sumD_c, sumD_t, maxD_c, tupleD_l, tupleD_t, tupleD_c, listD_l, listD_t,
 ixD_l, ixD_r, ixD_t, ixD_s, ixD_c, slD_s, slD_l, slD_r, putIx_c, appendD_c, extendD_cl, isTy_c, isTy_s, isTy_l, iaddD, atI_0, atI_1, atI_2, atI_3, atI_4, low_int, low_str, low_bl, low_non, anyI_l, anyI_r, anyI_t, anyI_s, rng1I_i, rng2I_ii, ixN5, set_concat, get_concat, take_concat, len_concat, notInD_cs, inD_cs, sindexD_s, intD_s, tyN_s, tyN_i, tyN_b, tyN_n, tyN_t, tyN_l, tyIs_t, zipI_tt,
 startD, List.map_cons, List.map_nil, List.length_cons, List.length_nil, List.cons_append, List.nil_append, List.getElem?_cons_zero, List.getElem?_cons_succ, List.set_cons_zero, List.set_cons_succ, List.replicate_succ, List.replicate_zero, Option.bind_some, if_true, if_false, Bool.true_and, Bool.false_and, Bool.and_true, Bool.not_true, Bool.not_false, decide_true, decide_false, eq_self, Nat.zero_add, Nat.reduceAdd, Nat.reduceSub, reduceIte, reduceCtorEq, Int.reduceEq, Bool.false_eq_true, true_and, and_true, true_or, or_true, decide_eq_true_eq, h1, h2, e1, at_, leave_rt, fz_str, take_cons]
theorem bent_ok {m : Nat} {b : List D} {T : Sto} (hb : BagOk m b) (hm : m < 2 ^ 58) : ∃ z b', F__law_bent [.cell 0] (.lst b :: T) = .ok (.str z) (.lst b' :: T) ∧ Asc z ∧ z.length ≤ 100 ∧ BagOk (m + 9) b' := by
  unfold F__law_bent fnF g__law_bent
  obtain ⟨w, b1, e1, hw, hb1⟩ := number_ok (T := T) hb (by omega)
  have az := asc_num hw
  have lz : (numS w).length ≤ 4 := by rw [numS_len]; exact hw.few
  have hz : NLe (numS w).length sizeLine := numS_short hw
  generalize numS w = y at *
  obtain ⟨k, b2, e2, k0, k1, hb2⟩ := draw_ok (T := T) (lim := (y.length : Nat) + 1) hb1 (by omega) (lt1000 (by omega)) (by omega)
  obtain ⟨way, b3, e3, w0, w1, hb3⟩ := draw_ok (T := T) (lim := 3) hb2 (by decide) (by decide) (by omega)
  obtain ⟨c1, d1⟩ := cut_asc az none (some k)
  obtain ⟨c2, d2⟩ := cut_asc az (some k) none
  obtain ⟨c3, d3⟩ := cut_asc az (some (k + 1)) none
  have ways : way = 0 ∨ way = 1 ∨ way = 2 := by omega
  rcases ways with rfl | rfl | rfl
  · obtain ⟨c, b4, e4, hc, hb4⟩ := sign_ok (T := T) hb3 (by omega)
    have ac : Asc (⟨#[c]⟩ : Str) := fun x hx => by have : x = c := (by simpa using hx); omega
    have lc : (⟨#[c]⟩ : Str).length = 1 := rfl
    have h1 : NLe ((cutS y none (some k)).length + (⟨#[c]⟩ : Str).length) sizeLine := sizeLine_big (by omega)
    have h2 : NLe ((cutS y none (some k) ++ (⟨#[c]⟩ : Str)).length + (cutS y (some k) none).length) sizeLine := sizeLine_big (by rw [len_app]; omega)
    refine ⟨_, b4, by simp only [Bd, seqS, setS, retS, retN, dropS, ifS, forS, putS, augS, nxS, bkS, ctS, SR.seq_nx, SR.seq_rt, SR.seq_exc, SR.seq_bk, SR.seq_ct, SR.turn_nx, SR.turn_ct, SR.turn_bk, SR.turn_rt, SR.turn_exc, R.bind_ok, R.bind_bad, R.bind_exc, R.bindN_ok, R.st_ok, R.st_exc,
 varE, cE, binF, tstF, chnF, andB, orB, notB, andV, orV, notV, ifE, nilF, consF, tupF, lstF, ownF, negF, noO, someO, slF, callF, appF, isiF, mthF, itF, itA, nmG, nilG, consG, tupG, yesB, wipeD,
 addD_ii, addD_ss, addD_ll, subD_ii, mulD_ii, mulD_li, mulD_si, fdivD_ii, modD_ii, powD_10_18, ltD_ii, leD_ii, gtD_ii, geD_ii, gtD_ss, ltD_ss, eqD_ii, eqD_ss, eqD_bb, neD_ii, neD_ss, isBD_bb, isND_non, isND_int, isND_str, notND_non, notND_int, notND_str, lenD_s, lenD_l, lenD_r, lenD_t, lenD_c, min2D_ii, max2D_ii, intD_i, intD_b, strD_i, sumD_l, sumD_c, sumD_t, maxD_c, tupleD_l, tupleD_t, tupleD_c, listD_l, listD_t,
 ixD_l, ixD_r, ixD_t, ixD_s, ixD_c, slD_s, slD_l, slD_r, putIx_c, appendD_c, extendD_cl, isTy_c, isTy_s, isTy_l, iaddD, atI_0, atI_1, atI_2, atI_3, atI_4, low_int, low_str, low_bl, low_non, anyI_l, anyI_r, anyI_t, anyI_s, rng1I_i, rng2I_ii, ixN5, set_concat, get_concat, take_concat, len_concat, notInD_cs, inD_cs, sindexD_s, intD_s, tyN_s, tyN_i, tyN_b, tyN_n, tyN_t, tyN_l, tyIs_t, zipI_tt,
 startD, List.map_cons, List.map_nil, List.length_cons, List.length_nil, List.cons_append, List.nil_append, List.getElem?_cons_zero, List.getElem?_cons_succ, List.set_cons_zero, List.set_cons_succ, List.replicate_succ, List.replicate_zero, Option.bind_some, if_true, if_false, Bool.true_and, Bool.false_and, Bool.and_true, Bool.not_true, Bool.not_false, decide_true, decide_false, eq_self, Nat.zero_add, Nat.reduceAdd, Nat.reduceSub, reduceIte, reduceCtorEq, Int.reduceEq, Bool.false_eq_true, true_and, and_true, true_or, or_true, decide_eq_true_eq, e1, e2, e3, e4, hz, h1, h2, leave_rt, fz_str, take_cons], Asc.app (Asc.app c1 ac) c2, by rw [len_app, len_app]; omega, hb4.mono (by omega)⟩
  · obtain ⟨c, b4, e4, hc, hb4⟩ := sign_ok (T := T) hb3 (by omega)
    have ac : Asc (⟨#[c]⟩ : Str) := fun x hx => by have : x = c := (by simpa using hx); omega
    have lc : (⟨#[c]⟩ : Str).length = 1 := rfl
    have h1 : NLe ((cutS y none (some k)).length + (⟨#[c]⟩ : Str).length) sizeLine := sizeLine_big (by omega)
    have h2 : NLe ((cutS y none (some k) ++ (⟨#[c]⟩ : Str)).length + (cutS y (some (k + 1)) none).length) sizeLine := sizeLine_big (by rw [len_app]; omega)
    refine ⟨_, b4, by simp only [Bd, seqS, setS, retS, retN, dropS, ifS, forS, putS, augS, nxS, bkS, ctS, SR.seq_nx, SR.seq_rt, SR.seq_exc, SR.seq_bk, SR.seq_ct, SR.turn_nx, SR.turn_ct, SR.turn_bk, SR.turn_rt, SR.turn_exc, R.bind_ok, R.bind_bad, R.bind_exc, R.bindN_ok, R.st_ok, R.st_exc,
 varE, cE, binF, tstF, chnF, andB, orB, notB, andV, orV, notV, ifE, nilF, consF, tupF, lstF, ownF, negF, noO, someO, slF, callF, appF, isiF, mthF, itF, itA, nmG, nilG, consG, tupG, yesB, wipeD,
 addD_ii, addD_ss, addD_ll, subD_ii, mulD_ii, mulD_li, mulD_si, fdivD_ii, modD_ii, powD_10_18, ltD_ii, leD_ii, gtD_ii, geD_ii, gtD_ss, ltD_ss, eqD_ii, eqD_ss, eqD_bb, neD_ii, neD_ss, isBD_bb, isND_non, isND_int, isND_str, notND_non, notND_int, notND_str, lenD_s, lenD_l, lenD_r, lenD_t, lenD_c, min2D_ii, max2D_ii, intD_i, intD_b, strD_i, sumD_l, sumD_c, sumD_t, maxD_c, tupleD_l, tupleD_t, tupleD_c, listD_l, listD_t,
 ixD_l, ixD_r, ixD_t, ixD_s, ixD_c, slD_s, slD_l, slD_r, putIx_c, appendD_c, extendD_cl, isTy_c, isTy_s, isTy_l, iaddD, atI_0, atI_1, atI_2, atI_3, atI_4, low_int, low_str, low_bl, low_non, anyI_l, anyI_r, anyI_t, anyI_s, rng1I_i, rng2I_ii, ixN5, set_concat, get_concat, take_concat, len_concat, notInD_cs, inD_cs, sindexD_s, intD_s, tyN_s, tyN_i, tyN_b, tyN_n, tyN_t, tyN_l, tyIs_t, zipI_tt,
 startD, List.map_cons, List.map_nil, List.length_cons, List.length_nil, List.cons_append, List.nil_append, List.getElem?_cons_zero, List.getElem?_cons_succ, List.set_cons_zero, List.set_cons_succ, List.replicate_succ, List.replicate_zero, Option.bind_some, if_true, if_false, Bool.true_and, Bool.false_and, Bool.and_true, Bool.not_true, Bool.not_false, decide_true, decide_false, eq_self, Nat.zero_add, Nat.reduceAdd, Nat.reduceSub, reduceIte, reduceCtorEq, Int.reduceEq, Bool.false_eq_true, true_and, and_true, true_or, or_true, decide_eq_true_eq, e1, e2, e3, e4, hz, h1, h2, leave_rt, fz_str, take_cons], Asc.app (Asc.app c1 ac) c3, by rw [len_app, len_app]; omega, hb4.mono (by omega)⟩
  · have h1 : NLe ((cutS y none (some k)).length + (cutS y (some (k + 1)) none).length) sizeLine := sizeLine_big (by omega)
    refine ⟨_, b3, by simp only [Bd, seqS, setS, retS, retN, dropS, ifS, forS, putS, augS, nxS, bkS, ctS, SR.seq_nx, SR.seq_rt, SR.seq_exc, SR.seq_bk, SR.seq_ct, SR.turn_nx, SR.turn_ct, SR.turn_bk, SR.turn_rt, SR.turn_exc, R.bind_ok, R.bind_bad, R.bind_exc, R.bindN_ok, R.st_ok, R.st_exc,
 varE, cE, binF, tstF, chnF, andB, orB, notB, andV, orV, notV, ifE, nilF, consF, tupF, lstF, ownF, negF, noO, someO, slF, callF, appF, isiF, mthF, itF, itA, nmG, nilG, consG, tupG, yesB, wipeD,
 addD_ii, addD_ss, addD_ll, subD_ii, mulD_ii, mulD_li, mulD_si, fdivD_ii, modD_ii, powD_10_18, ltD_ii, leD_ii, gtD_ii, geD_ii, gtD_ss, ltD_ss, eqD_ii, eqD_ss, eqD_bb, neD_ii, neD_ss, isBD_bb, isND_non, isND_int, isND_str, notND_non, notND_int, notND_str, lenD_s, lenD_l, lenD_r, lenD_t, lenD_c, min2D_ii, max2D_ii, intD_i, intD_b, strD_i, sumD_l, sumD_c, sumD_t, maxD_c, tupleD_l, tupleD_t, tupleD_c, listD_l, listD_t,
 ixD_l, ixD_r, ixD_t, ixD_s, ixD_c, slD_s, slD_l, slD_r, putIx_c, appendD_c, extendD_cl, isTy_c, isTy_s, isTy_l, iaddD, atI_0, atI_1, atI_2, atI_3, atI_4, low_int, low_str, low_bl, low_non, anyI_l, anyI_r, anyI_t, anyI_s, rng1I_i, rng2I_ii, ixN5, set_concat, get_concat, take_concat, len_concat, notInD_cs, inD_cs, sindexD_s, intD_s, tyN_s, tyN_i, tyN_b, tyN_n, tyN_t, tyN_l, tyIs_t, zipI_tt,
 startD, List.map_cons, List.map_nil, List.length_cons, List.length_nil, List.cons_append, List.nil_append, List.getElem?_cons_zero, List.getElem?_cons_succ, List.set_cons_zero, List.set_cons_succ, List.replicate_succ, List.replicate_zero, Option.bind_some, if_true, if_false, Bool.true_and, Bool.false_and, Bool.and_true, Bool.not_true, Bool.not_false, decide_true, decide_false, eq_self, Nat.zero_add, Nat.reduceAdd, Nat.reduceSub, reduceIte, reduceCtorEq, Int.reduceEq, Bool.false_eq_true, true_and, and_true, true_or, or_true, decide_eq_true_eq, e1, e2, e3, hz, h1, leave_rt, fz_str, take_cons], Asc.app c1 c3, by rw [len_app]; omega, hb3.mono (by omega)⟩
theorem str_dig {d : Int} (h0 : 0 ≤ d) (h9 : d ≤ 9) (S : Sto) : strD [.int d] S = .ok (.str (numS [d.toNat])) S := by
  have hl2 : NLe (d.natAbs.log2 + 1) 1920 := log2_small (by omega) (by omega)
  rw [strD_i, if_pos hl2]
  have : d = 0 ∨ (1 ≤ d ∧ d ≤ 9) := by omega
  rcases this with rfl | ⟨h1, _⟩
  · rfl
  · rw [str_digit h1 h9]; rfl
theorem addD_num (a b : List Nat) (S : Sto) (h : a.length + b.length ≤ 1000000) : addD (.str (numS a)) (.str (numS b)) S = .ok (.str (numS (a ++ b))) S := by
  rw [addD_ss, if_pos (sizeLine_big (by rw [numS_len, numS_len]; exact h)), numS_app]
theorem near_ok {m : Nat} {b : List D} {T : Sto} (hb : BagOk m b) (hm : m < 2 ^ 58) : ∃ z b', F__law_near_sum [.cell 0] (.lst b :: T) = .ok (.str z) (.lst b' :: T) ∧ Asc z ∧ z.length ≤ 100 ∧ BagOk (m + 3) b' := by
  unfold F__law_near_sum fnF g__law_near_sum
  obtain ⟨x, b1, e1, x0, x1, hb1⟩ := draw_ok (T := T) (lim := 2) hb (by decide) (by decide) (by omega)
  obtain ⟨y, b2, e2, y0, y1, hb2⟩ := draw_ok (T := T) (lim := 4) hb1 (by decide) (by decide) (by omega)
  obtain ⟨u, b3, e3, u0, u1, hb3⟩ := draw_ok (T := T) (lim := 4) hb2 (by decide) (by decide) (by omega)
  have p1 := str_dig (d := 6 + y) (by omega) (by omega) (.lst b3 :: T)
  have p2 := str_dig (d := 6 + u) (by omega) (by omega) (.lst b3 :: T)
  have two : (0 : Int) < 2 ∧ (2 : Int) < 2 ^ 1000 := by decide
  have dg : ∀ w : List Nat, (∀ d ∈ w, d ≤ 9) → Asc (numS w) := fun w h => asc_dig fun d hd => ⟨Nat.zero_le _, h d hd⟩
  by_cases h9 : 24 + x - (6 + y) - (6 + u) ≤ 9
  · have p3 := str_dig (d := 24 + x - (6 + y) - (6 + u)) (by omega) h9 (.lst b3 :: T)
    have q1 := addD_num [(6 + y).toNat] [(6 + u).toNat] (.lst b3 :: T) (by simp)
    have q2 := addD_num ([(6 + y).toNat] ++ [(6 + u).toNat]) [(24 + x - (6 + y) - (6 + u)).toNat] (.lst b3 :: T) (by simp)
    refine ⟨numS ([(6 + y).toNat] ++ [(6 + u).toNat] ++ [(24 + x - (6 + y) - (6 + u)).toNat]), b3, ?_, dg _ ?_, by rw [numS_len]; simp, hb3⟩
    · have l1 : NLe ((numS [(6 + y).toNat]).length + (numS [(6 + u).toNat]).length) sizeLine := sizeLine_big (by rw [numS_len, numS_len]; simp)
      simp only [seqS, setS, ifS, retS, tstF, binF, callF, appF, consF, nilF, varE, cE, startD, addD_ii, subD_ii, leD_ii, List.map_cons, List.map_nil, List.cons_append, List.nil_append, List.length_cons, List.length_nil, Nat.zero_add, Nat.reduceAdd, Nat.reduceSub, List.replicate_succ, List.replicate_zero, List.getElem?_cons_zero, List.getElem?_cons_succ, List.set_cons_succ, List.set_cons_zero, if_true, R.bind_ok, R.st_ok, SR.seq_nx, SR.seq_rt, e1, e2, e3, h9, decide_true, p1, p2, p3] at q1 q2 ⊢
      simp only [q1, q2, p3, R.bind_ok, R.st_ok, SR.seq_rt, leave_rt, fz_str, take_cons]
    · intro d hd
      simp at hd
      omega
  · have p3 := str_dig (d := (24 + x - (6 + y) - (6 + u)) / 2) (by omega) (by omega) (.lst b3 :: T)
    have p4 := str_dig (d := (24 + x - (6 + y) - (6 + u)) - (24 + x - (6 + y) - (6 + u)) / 2) (by omega) (by omega) (.lst b3 :: T)
    generalize hr : 24 + x - (6 + y) - (6 + u) = r at *
    have q1 := addD_num [(6 + y).toNat] [(r / 2).toNat] (.lst b3 :: T) (by simp)
    have q2 := addD_num ([(6 + y).toNat] ++ [(r / 2).toNat]) [(r - r / 2).toNat] (.lst b3 :: T) (by simp)
    have q3 := addD_num ([(6 + y).toNat] ++ [(r / 2).toNat] ++ [(r - r / 2).toNat]) [(6 + u).toNat] (.lst b3 :: T) (by simp)
    refine ⟨numS ([(6 + y).toNat] ++ [(r / 2).toNat] ++ [(r - r / 2).toNat] ++ [(6 + u).toNat]), b3, ?_, dg _ ?_, by rw [numS_len]; simp, hb3⟩
    · have fd : fdivD (.int r) (.int 2) (.lst b3 :: T) = .ok (.int (r / 2)) (.lst b3 :: T) := by rw [fdivD_ii, if_pos (show Bd _ from two)]
      simp only [seqS, setS, ifS, retS, nxS, tstF, binF, callF, appF, consF, nilF, varE, cE, startD, addD_ii, subD_ii, leD_ii, List.map_cons, List.map_nil, List.cons_append, List.nil_append, List.length_cons, List.length_nil, Nat.zero_add, Nat.reduceAdd, Nat.reduceSub, List.replicate_succ, List.replicate_zero, List.getElem?_cons_zero, List.getElem?_cons_succ, List.set_cons_succ, List.set_cons_zero, if_true, if_false, Bool.false_eq_true, R.bind_ok, R.st_ok, SR.seq_nx, SR.seq_rt, e1, e2, e3, hr, h9, decide_false, fd, p1, p2, p3, p4] at q1 q2 q3 ⊢
      simp only [q1, q2, q3, p1, p2, p3, p4, fd, subD_ii, R.bind_ok, R.st_ok, SR.seq_rt, leave_rt, fz_str, take_cons]
    · intro d hd
      simp at hd
      omega
theorem val_lt : ∀ (cs : List Nat) (acc : Nat), (∀ c ∈ cs, c ≤ 57) → cs.foldl (fun acc c => acc * 10 + (c - 48)) acc < (acc + 1) * 10 ^ cs.length
  | [], acc, _ => by simp
  | c :: cs, acc, h => by
    rw [List.foldl_cons, List.length_cons]
    have h1 := h c List.mem_cons_self
    refine Nat.lt_of_lt_of_le (val_lt cs (acc * 10 + (c - 48)) fun x hx => h x (List.mem_cons_of_mem _ hx)) ?_
    rw [Nat.pow_succ, ← Nat.mul_assoc, Nat.mul_right_comm]
    exact Nat.mul_le_mul_right _ (by omega)
theorem int_num {w : List Nat} (h : IsNum w) : ∃ i : Int, 0 ≤ i ∧ i < 100000 ∧ ∀ S, intD [.str (numS w)] S = .ok (.int i) S := by
  have dig : PySem.NumText.AllDigits (numS w).cps.toList := fun c hc => by
    rw [numS_list] at hc
    obtain ⟨d, hd, rfl⟩ := List.mem_map.mp hc
    have := h.dig d hd
    exact ⟨by omega, by omega⟩
  have l4 : (numS w).length ≤ 4 := by rw [numS_len]; exact h.few
  have ll : (numS w).cps.toList.length ≤ 4 := by rw [numS_list, List.length_map]; exact h.few
  have ne : (numS w).cps.toList ≠ [] := by
    rw [numS_list]
    intro e
    have := congrArg List.length e
    have p := h.pos
    simp at this
    rw [this] at p
    simp at p
  have e := intText_digits dig ne (by omega)
  have lt := val_lt (numS w).cps.toList 0 fun c hc => (dig c hc).2
  have pw : 10 ^ (numS w).cps.toList.length ≤ 10 ^ 4 := Nat.pow_le_pow_right (by decide) ll
  refine ⟨_, Int.natCast_nonneg _, ?_, fun S => by rw [intD_s, e]; dsimp only; rw [if_pos (show NLe _ _ from (show (numS w).length ≤ 640 by omega))]⟩
  have : PySem.NumText.digitsVal (numS w).cps.toList < 10 ^ 4 := by
    unfold PySem.NumText.digitsVal
    omega
  omega
theorem other_ok {m : Nat} {b : List D} {T : Sto} (hb : BagOk m b) (hm : m < 2 ^ 58) : ∃ d due z b', F__law_other [.cell 0] (.lst b :: T) = .ok d (.lst b' :: T) ∧ IsTh d due z ∧ BagOk (m + 8) b' := by
  unfold F__law_other fnF g__law_other
  obtain ⟨w, b1, e1, hw, hb1⟩ := number_ok (T := T) hb (by omega)
  obtain ⟨way, b2, e2, w0, w1, hb2⟩ := draw_ok (T := T) (lim := 8) hb1 (by decide) (by decide) (by omega)
  have s1 : NLe 1 sizeLine := sizeLine_big (by decide)
  have s4 : NLe 4 sizeLine := sizeLine_big (by decide)
  have az := asc_num hw
  have lz : (numS w).length ≤ 100 := by rw [numS_len]; have := hw.few; omega
  have one : ∀ y ∈ [numS w], Asc y := fun y hy => by rw [List.mem_singleton.mp hy]; exact az
  have onel : ∀ y ∈ [numS w], y.length ≤ 100 := fun y hy => by rw [List.mem_singleton.mp hy]; exact lz
  have ways : way = 0 ∨ way = 1 ∨ way = 2 ∨ way = 3 ∨ way = 4 ∨ way = 5 ∨ way = 6 ∨ way = 7 := by omega
  rcases ways with rfl | rfl | rfl | rfl | rfl | rfl | rfl | rfl
  · obtain ⟨i, i0, i1, ei⟩ := int_num hw
    exact ⟨_, false, _, b2, by simp only [Bd, seqS, setS, retS, retN, dropS, ifS, forS, putS, augS, nxS, bkS, ctS, SR.seq_nx, SR.seq_rt, SR.seq_exc, SR.seq_bk, SR.seq_ct, SR.turn_nx, SR.turn_ct, SR.turn_bk, SR.turn_rt, SR.turn_exc, R.bind_ok, R.bind_bad, R.bind_exc, R.bindN_ok, R.st_ok, R.st_exc,
 varE, cE, binF, tstF, chnF, andB, orB, notB, andV, orV, notV, ifE, nilF, consF, tupF, lstF, ownF, negF, noO, someO, slF, callF, appF, isiF, mthF, itF, itA, nmG, nilG, consG, tupG, yesB, wipeD,
 addD_ii, addD_ss, addD_ll, subD_ii, mulD_ii, mulD_li, mulD_si, fdivD_ii, modD_ii, powD_10_18, ltD_ii, leD_ii, gtD_ii, geD_ii, gtD_ss, ltD_ss, eqD_ii, eqD_ss, eqD_bb, neD_ii, neD_ss, isBD_bb, isND_non, isND_int, isND_str, notND_non, notND_int, notND_str, lenD_s, lenD_l, lenD_r, lenD_t, lenD_c, min2D_ii, max2D_ii, intD_i, intD_b, strD_i, sumD_l, sumD_c, sumD_t, maxD_c, tupleD_l, tupleD_t, tupleD_c, listD_l, listD_t,
 ixD_l, ixD_r, ixD_t, ixD_s, ixD_c, slD_s, slD_l, slD_r, putIx_c, appendD_c, extendD_cl, isTy_c, isTy_s, isTy_l, iaddD, atI_0, atI_1, atI_2, atI_3, atI_4, low_int, low_str, low_bl, low_non, anyI_l, anyI_r, anyI_t, anyI_s, rng1I_i, rng2I_ii, ixN5, set_concat, get_concat, take_concat, len_concat, notInD_cs, inD_cs, sindexD_s, intD_s, tyN_s, tyN_i, tyN_b, tyN_n, tyN_t, tyN_l, tyIs_t, zipI_tt,
 startD, List.map_cons, List.map_nil, List.length_cons, List.length_nil, List.cons_append, List.nil_append, List.getElem?_cons_zero, List.getElem?_cons_succ, List.set_cons_zero, List.set_cons_succ, List.replicate_succ, List.replicate_zero, Option.bind_some, if_true, if_false, Bool.true_and, Bool.false_and, Bool.and_true, Bool.not_true, Bool.not_false, decide_true, decide_false, eq_self, Nat.zero_add, Nat.reduceAdd, Nat.reduceSub, reduceIte, reduceCtorEq, Int.reduceEq, Bool.false_eq_true, true_and, and_true, true_or, or_true, decide_eq_true_eq, e1, e2, ei, leave_rt, fz_int, take_cons], th_int i0 i1, hb2.mono (by omega)⟩
  · have hc := compF_all (vs := [3]) (fi := itF anyI (varE 1)) (g := nmG 3) (fe := varE 3) (ρ := [some (.cell 0), some (.str (numS w)), some (.int 1), none]) (S := .lst b2 :: T) (S1 := .lst b2 :: T) (ds := signsD w) (fun d => d) (by simp only [Bd, seqS, setS, retS, retN, dropS, ifS, forS, putS, augS, nxS, bkS, ctS, SR.seq_nx, SR.seq_rt, SR.seq_exc, SR.seq_bk, SR.seq_ct, SR.turn_nx, SR.turn_ct, SR.turn_bk, SR.turn_rt, SR.turn_exc, R.bind_ok, R.bind_bad, R.bind_exc, R.bindN_ok, R.st_ok, R.st_exc,
 varE, cE, binF, tstF, chnF, andB, orB, notB, andV, orV, notV, ifE, nilF, consF, tupF, lstF, ownF, negF, noO, someO, slF, callF, appF, isiF, mthF, itF, itA, nmG, nilG, consG, tupG, yesB, wipeD,
 addD_ii, addD_ss, addD_ll, subD_ii, mulD_ii, mulD_li, mulD_si, fdivD_ii, modD_ii, powD_10_18, ltD_ii, leD_ii, gtD_ii, geD_ii, gtD_ss, ltD_ss, eqD_ii, eqD_ss, eqD_bb, neD_ii, neD_ss, isBD_bb, isND_non, isND_int, isND_str, notND_non, notND_int, notND_str, lenD_s, lenD_l, lenD_r, lenD_t, lenD_c, min2D_ii, max2D_ii, intD_i, intD_b, strD_i, sumD_l, sumD_c, sumD_t, maxD_c, tupleD_l, tupleD_t, tupleD_c, listD_l, listD_t,
 ixD_l, ixD_r, ixD_t, ixD_s, ixD_c, slD_s, slD_l, slD_r, putIx_c, appendD_c, extendD_cl, isTy_c, isTy_s, isTy_l, iaddD, atI_0, atI_1, atI_2, atI_3, atI_4, low_int, low_str, low_bl, low_non, anyI_l, anyI_r, anyI_t, anyI_s, rng1I_i, rng2I_ii, ixN5, set_concat, get_concat, take_concat, len_concat, notInD_cs, inD_cs, sindexD_s, intD_s, tyN_s, tyN_i, tyN_b, tyN_n, tyN_t, tyN_l, tyIs_t, zipI_tt,
 startD, List.map_cons, List.map_nil, List.length_cons, List.length_nil, List.cons_append, List.nil_append, List.getElem?_cons_zero, List.getElem?_cons_succ, List.set_cons_zero, List.set_cons_succ, List.replicate_succ, List.replicate_zero, Option.bind_some, if_true, if_false, Bool.true_and, Bool.false_and, Bool.and_true, Bool.not_true, Bool.not_false, decide_true, decide_false, eq_self, Nat.zero_add, Nat.reduceAdd, Nat.reduceSub, reduceIte, reduceCtorEq, Int.reduceEq, Bool.false_eq_true, true_and, and_true, true_or, or_true, decide_eq_true_eq, signs_num]) (sizeLine_big (by rw [signsD, List.length_map]; have := hw.few; omega)) (fun d hd acc => by
      obtain ⟨k, _, rfl⟩ := List.mem_map.mp hd
      exact ⟨_, rfl, rfl, rfl⟩)
    have el : signsD w = (w.map fun d => (⟨#[48 + d]⟩ : Str)).map D.str := by unfold signsD; rw [List.map_map]; rfl
    rw [List.map_id', el] at hc
    have th := th_lst (l := w.map fun d => (⟨#[48 + d]⟩ : Str)) (fun y hy => by
      obtain ⟨d, hd, rfl⟩ := List.mem_map.mp hy
      intro c hc
      have : c = 48 + d := by simpa using hc
      have := hw.dig d hd
      omega) (fun y hy => by
      obtain ⟨d, _, rfl⟩ := List.mem_map.mp hy
      show 1 ≤ 100
      decide) (by rw [List.length_map]; have := hw.few; omega)
    exact ⟨_, false, _, b2, by simp only [Bd, seqS, setS, retS, retN, dropS, ifS, forS, putS, augS, nxS, bkS, ctS, SR.seq_nx, SR.seq_rt, SR.seq_exc, SR.seq_bk, SR.seq_ct, SR.turn_nx, SR.turn_ct, SR.turn_bk, SR.turn_rt, SR.turn_exc, R.bind_ok, R.bind_bad, R.bind_exc, R.bindN_ok, R.st_ok, R.st_exc,
 varE, cE, binF, tstF, chnF, andB, orB, notB, andV, orV, notV, ifE, nilF, consF, tupF, lstF, ownF, negF, noO, someO, slF, callF, appF, isiF, mthF, itF, itA, nmG, nilG, consG, tupG, yesB, wipeD,
 addD_ii, addD_ss, addD_ll, subD_ii, mulD_ii, mulD_li, mulD_si, fdivD_ii, modD_ii, powD_10_18, ltD_ii, leD_ii, gtD_ii, geD_ii, gtD_ss, ltD_ss, eqD_ii, eqD_ss, eqD_bb, neD_ii, neD_ss, isBD_bb, isND_non, isND_int, isND_str, notND_non, notND_int, notND_str, lenD_s, lenD_l, lenD_r, lenD_t, lenD_c, min2D_ii, max2D_ii, intD_i, intD_b, strD_i, sumD_l, sumD_c, sumD_t, maxD_c, tupleD_l, tupleD_t, tupleD_c, listD_l, listD_t,
 ixD_l, ixD_r, ixD_t, ixD_s, ixD_c, slD_s, slD_l, slD_r, putIx_c, appendD_c, extendD_cl, isTy_c, isTy_s, isTy_l, iaddD, atI_0, atI_1, atI_2, atI_3, atI_4, low_int, low_str, low_bl, low_non, anyI_l, anyI_r, anyI_t, anyI_s, rng1I_i, rng2I_ii, ixN5, set_concat, get_concat, take_concat, len_concat, notInD_cs, inD_cs, sindexD_s, intD_s, tyN_s, tyN_i, tyN_b, tyN_n, tyN_t, tyN_l, tyIs_t, zipI_tt,
 startD, List.map_cons, List.map_nil, List.length_cons, List.length_nil, List.cons_append, List.nil_append, List.getElem?_cons_zero, List.getElem?_cons_succ, List.set_cons_zero, List.set_cons_succ, List.replicate_succ, List.replicate_zero, Option.bind_some, if_true, if_false, Bool.true_and, Bool.false_and, Bool.and_true, Bool.not_true, Bool.not_false, decide_true, decide_false, eq_self, Nat.zero_add, Nat.reduceAdd, Nat.reduceSub, reduceIte, reduceCtorEq, Int.reduceEq, Bool.false_eq_true, true_and, and_true, true_or, or_true, decide_eq_true_eq, e1, e2, hc, leave_rt, th.fr, take_cons], th, hb2.mono (by omega)⟩
  · have th := th_tup (l := [numS w]) one onel (by simp)
    simp only [List.map_cons, List.map_nil] at th
    exact ⟨_, false, _, b2, by simp only [Bd, seqS, setS, retS, retN, dropS, ifS, forS, putS, augS, nxS, bkS, ctS, SR.seq_nx, SR.seq_rt, SR.seq_exc, SR.seq_bk, SR.seq_ct, SR.turn_nx, SR.turn_ct, SR.turn_bk, SR.turn_rt, SR.turn_exc, R.bind_ok, R.bind_bad, R.bind_exc, R.bindN_ok, R.st_ok, R.st_exc,
 varE, cE, binF, tstF, chnF, andB, orB, notB, andV, orV, notV, ifE, nilF, consF, tupF, lstF, ownF, negF, noO, someO, slF, callF, appF, isiF, mthF, itF, itA, nmG, nilG, consG, tupG, yesB, wipeD,
 addD_ii, addD_ss, addD_ll, subD_ii, mulD_ii, mulD_li, mulD_si, fdivD_ii, modD_ii, powD_10_18, ltD_ii, leD_ii, gtD_ii, geD_ii, gtD_ss, ltD_ss, eqD_ii, eqD_ss, eqD_bb, neD_ii, neD_ss, isBD_bb, isND_non, isND_int, isND_str, notND_non, notND_int, notND_str, lenD_s, lenD_l, lenD_r, lenD_t, lenD_c, min2D_ii, max2D_ii, intD_i, intD_b, strD_i, sumD_l, sumD_c, sumD_t, maxD_c, tupleD_l, tupleD_t, tupleD_c, listD_l, listD_t,
 ixD_l, ixD_r, ixD_t, ixD_s, ixD_c, slD_s, slD_l, slD_r, putIx_c, appendD_c, extendD_cl, isTy_c, isTy_s, isTy_l, iaddD, atI_0, atI_1, atI_2, atI_3, atI_4, low_int, low_str, low_bl, low_non, anyI_l, anyI_r, anyI_t, anyI_s, rng1I_i, rng2I_ii, ixN5, set_concat, get_concat, take_concat, len_concat, notInD_cs, inD_cs, sindexD_s, intD_s, tyN_s, tyN_i, tyN_b, tyN_n, tyN_t, tyN_l, tyIs_t, zipI_tt,
 startD, List.map_cons, List.map_nil, List.length_cons, List.length_nil, List.cons_append, List.nil_append, List.getElem?_cons_zero, List.getElem?_cons_succ, List.set_cons_zero, List.set_cons_succ, List.replicate_succ, List.replicate_zero, Option.bind_some, if_true, if_false, Bool.true_and, Bool.false_and, Bool.and_true, Bool.not_true, Bool.not_false, decide_true, decide_false, eq_self, Nat.zero_add, Nat.reduceAdd, Nat.reduceSub, reduceIte, reduceCtorEq, Int.reduceEq, Bool.false_eq_true, true_and, and_true, true_or, or_true, decide_eq_true_eq, e1, e2, s1, leave_rt, th.fr, take_cons], th, hb2.mono (by omega)⟩
  · obtain ⟨x, b3, e3, x0, x1, hb3⟩ := draw_ok (T := T) (lim := 10) hb2 (by decide) (by decide) (by omega)
    exact ⟨_, false, _, b3, by simp only [Bd, seqS, setS, retS, retN, dropS, ifS, forS, putS, augS, nxS, bkS, ctS, SR.seq_nx, SR.seq_rt, SR.seq_exc, SR.seq_bk, SR.seq_ct, SR.turn_nx, SR.turn_ct, SR.turn_bk, SR.turn_rt, SR.turn_exc, R.bind_ok, R.bind_bad, R.bind_exc, R.bindN_ok, R.st_ok, R.st_exc,
 varE, cE, binF, tstF, chnF, andB, orB, notB, andV, orV, notV, ifE, nilF, consF, tupF, lstF, ownF, negF, noO, someO, slF, callF, appF, isiF, mthF, itF, itA, nmG, nilG, consG, tupG, yesB, wipeD,
 addD_ii, addD_ss, addD_ll, subD_ii, mulD_ii, mulD_li, mulD_si, fdivD_ii, modD_ii, powD_10_18, ltD_ii, leD_ii, gtD_ii, geD_ii, gtD_ss, ltD_ss, eqD_ii, eqD_ss, eqD_bb, neD_ii, neD_ss, isBD_bb, isND_non, isND_int, isND_str, notND_non, notND_int, notND_str, lenD_s, lenD_l, lenD_r, lenD_t, lenD_c, min2D_ii, max2D_ii, intD_i, intD_b, strD_i, sumD_l, sumD_c, sumD_t, maxD_c, tupleD_l, tupleD_t, tupleD_c, listD_l, listD_t,
 ixD_l, ixD_r, ixD_t, ixD_s, ixD_c, slD_s, slD_l, slD_r, putIx_c, appendD_c, extendD_cl, isTy_c, isTy_s, isTy_l, iaddD, atI_0, atI_1, atI_2, atI_3, atI_4, low_int, low_str, low_bl, low_non, anyI_l, anyI_r, anyI_t, anyI_s, rng1I_i, rng2I_ii, ixN5, set_concat, get_concat, take_concat, len_concat, notInD_cs, inD_cs, sindexD_s, intD_s, tyN_s, tyN_i, tyN_b, tyN_n, tyN_t, tyN_l, tyIs_t, zipI_tt,
 startD, List.map_cons, List.map_nil, List.length_cons, List.length_nil, List.cons_append, List.nil_append, List.getElem?_cons_zero, List.getElem?_cons_succ, List.set_cons_zero, List.set_cons_succ, List.replicate_succ, List.replicate_zero, Option.bind_some, if_true, if_false, Bool.true_and, Bool.false_and, Bool.and_true, Bool.not_true, Bool.not_false, decide_true, decide_false, eq_self, Nat.zero_add, Nat.reduceAdd, Nat.reduceSub, reduceIte, reduceCtorEq, Int.reduceEq, Bool.false_eq_true, true_and, and_true, true_or, or_true, decide_eq_true_eq, e1, e2, e3, leave_rt, fz_int, take_cons], th_int x0 (by omega), hb3⟩
  · exact ⟨_, false, _, b2, by simp only [Bd, seqS, setS, retS, retN, dropS, ifS, forS, putS, augS, nxS, bkS, ctS, SR.seq_nx, SR.seq_rt, SR.seq_exc, SR.seq_bk, SR.seq_ct, SR.turn_nx, SR.turn_ct, SR.turn_bk, SR.turn_rt, SR.turn_exc, R.bind_ok, R.bind_bad, R.bind_exc, R.bindN_ok, R.st_ok, R.st_exc,
 varE, cE, binF, tstF, chnF, andB, orB, notB, andV, orV, notV, ifE, nilF, consF, tupF, lstF, ownF, negF, noO, someO, slF, callF, appF, isiF, mthF, itF, itA, nmG, nilG, consG, tupG, yesB, wipeD,
 addD_ii, addD_ss, addD_ll, subD_ii, mulD_ii, mulD_li, mulD_si, fdivD_ii, modD_ii, powD_10_18, ltD_ii, leD_ii, gtD_ii, geD_ii, gtD_ss, ltD_ss, eqD_ii, eqD_ss, eqD_bb, neD_ii, neD_ss, isBD_bb, isND_non, isND_int, isND_str, notND_non, notND_int, notND_str, lenD_s, lenD_l, lenD_r, lenD_t, lenD_c, min2D_ii, max2D_ii, intD_i, intD_b, strD_i, sumD_l, sumD_c, sumD_t, maxD_c, tupleD_l, tupleD_t, tupleD_c, listD_l, listD_t,
 ixD_l, ixD_r, ixD_t, ixD_s, ixD_c, slD_s, slD_l, slD_r, putIx_c, appendD_c, extendD_cl, isTy_c, isTy_s, isTy_l, iaddD, atI_0, atI_1, atI_2, atI_3, atI_4, low_int, low_str, low_bl, low_non, anyI_l, anyI_r, anyI_t, anyI_s, rng1I_i, rng2I_ii, ixN5, set_concat, get_concat, take_concat, len_concat, notInD_cs, inD_cs, sindexD_s, intD_s, tyN_s, tyN_i, tyN_b, tyN_n, tyN_t, tyN_l, tyIs_t, zipI_tt,
 startD, List.map_cons, List.map_nil, List.length_cons, List.length_nil, List.cons_append, List.nil_append, List.getElem?_cons_zero, List.getElem?_cons_succ, List.set_cons_zero, List.set_cons_succ, List.replicate_succ, List.replicate_zero, Option.bind_some, if_true, if_false, Bool.true_and, Bool.false_and, Bool.and_true, Bool.not_true, Bool.not_false, decide_true, decide_false, eq_self, Nat.zero_add, Nat.reduceAdd, Nat.reduceSub, reduceIte, reduceCtorEq, Int.reduceEq, Bool.false_eq_true, true_and, and_true, true_or, or_true, decide_eq_true_eq, e1, e2, s1, s4, show (4 : Int) - 4 = 0 from rfl, leave_rt, fz_non, take_cons], th_non, hb2.mono (by omega)⟩
  · exact ⟨_, false, _, b2, by simp only [Bd, seqS, setS, retS, retN, dropS, ifS, forS, putS, augS, nxS, bkS, ctS, SR.seq_nx, SR.seq_rt, SR.seq_exc, SR.seq_bk, SR.seq_ct, SR.turn_nx, SR.turn_ct, SR.turn_bk, SR.turn_rt, SR.turn_exc, R.bind_ok, R.bind_bad, R.bind_exc, R.bindN_ok, R.st_ok, R.st_exc,
 varE, cE, binF, tstF, chnF, andB, orB, notB, andV, orV, notV, ifE, nilF, consF, tupF, lstF, ownF, negF, noO, someO, slF, callF, appF, isiF, mthF, itF, itA, nmG, nilG, consG, tupG, yesB, wipeD,
 addD_ii, addD_ss, addD_ll, subD_ii, mulD_ii, mulD_li, mulD_si, fdivD_ii, modD_ii, powD_10_18, ltD_ii, leD_ii, gtD_ii, geD_ii, gtD_ss, ltD_ss, eqD_ii, eqD_ss, eqD_bb, neD_ii, neD_ss, isBD_bb, isND_non, isND_int, isND_str, notND_non, notND_int, notND_str, lenD_s, lenD_l, lenD_r, lenD_t, lenD_c, min2D_ii, max2D_ii, intD_i, intD_b, strD_i, sumD_l, sumD_c, sumD_t, maxD_c, tupleD_l, tupleD_t, tupleD_c, listD_l, listD_t,
 ixD_l, ixD_r, ixD_t, ixD_s, ixD_c, slD_s, slD_l, slD_r, putIx_c, appendD_c, extendD_cl, isTy_c, isTy_s, isTy_l, iaddD, atI_0, atI_1, atI_2, atI_3, atI_4, low_int, low_str, low_bl, low_non, anyI_l, anyI_r, anyI_t, anyI_s, rng1I_i, rng2I_ii, ixN5, set_concat, get_concat, take_concat, len_concat, notInD_cs, inD_cs, sindexD_s, intD_s, tyN_s, tyN_i, tyN_b, tyN_n, tyN_t, tyN_l, tyIs_t, zipI_tt,
 startD, List.map_cons, List.map_nil, List.length_cons, List.length_nil, List.cons_append, List.nil_append, List.getElem?_cons_zero, List.getElem?_cons_succ, List.set_cons_zero, List.set_cons_succ, List.replicate_succ, List.replicate_zero, Option.bind_some, if_true, if_false, Bool.true_and, Bool.false_and, Bool.and_true, Bool.not_true, Bool.not_false, decide_true, decide_false, eq_self, Nat.zero_add, Nat.reduceAdd, Nat.reduceSub, reduceIte, reduceCtorEq, Int.reduceEq, Bool.false_eq_true, true_and, and_true, true_or, or_true, decide_eq_true_eq, e1, e2, s1, s4, show (5 : Int) - 4 = 1 from rfl, leave_rt, fz_bl, take_cons], th_bl true, hb2.mono (by omega)⟩
  · exact ⟨_, false, _, b2, by simp only [Bd, seqS, setS, retS, retN, dropS, ifS, forS, putS, augS, nxS, bkS, ctS, SR.seq_nx, SR.seq_rt, SR.seq_exc, SR.seq_bk, SR.seq_ct, SR.turn_nx, SR.turn_ct, SR.turn_bk, SR.turn_rt, SR.turn_exc, R.bind_ok, R.bind_bad, R.bind_exc, R.bindN_ok, R.st_ok, R.st_exc,
 varE, cE, binF, tstF, chnF, andB, orB, notB, andV, orV, notV, ifE, nilF, consF, tupF, lstF, ownF, negF, noO, someO, slF, callF, appF, isiF, mthF, itF, itA, nmG, nilG, consG, tupG, yesB, wipeD,
 addD_ii, addD_ss, addD_ll, subD_ii, mulD_ii, mulD_li, mulD_si, fdivD_ii, modD_ii, powD_10_18, ltD_ii, leD_ii, gtD_ii, geD_ii, gtD_ss, ltD_ss, eqD_ii, eqD_ss, eqD_bb, neD_ii, neD_ss, isBD_bb, isND_non, isND_int, isND_str, notND_non, notND_int, notND_str, lenD_s, lenD_l, lenD_r, lenD_t, lenD_c, min2D_ii, max2D_ii, intD_i, intD_b, strD_i, sumD_l, sumD_c, sumD_t, maxD_c, tupleD_l, tupleD_t, tupleD_c, listD_l, listD_t,
 ixD_l, ixD_r, ixD_t, ixD_s, ixD_c, slD_s, slD_l, slD_r, putIx_c, appendD_c, extendD_cl, isTy_c, isTy_s, isTy_l, iaddD, atI_0, atI_1, atI_2, atI_3, atI_4, low_int, low_str, low_bl, low_non, anyI_l, anyI_r, anyI_t, anyI_s, rng1I_i, rng2I_ii, ixN5, set_concat, get_concat, take_concat, len_concat, notInD_cs, inD_cs, sindexD_s, intD_s, tyN_s, tyN_i, tyN_b, tyN_n, tyN_t, tyN_l, tyIs_t, zipI_tt,
 startD, List.map_cons, List.map_nil, List.length_cons, List.length_nil, List.cons_append, List.nil_append, List.getElem?_cons_zero, List.getElem?_cons_succ, List.set_cons_zero, List.set_cons_succ, List.replicate_succ, List.replicate_zero, Option.bind_some, if_true, if_false, Bool.true_and, Bool.false_and, Bool.and_true, Bool.not_true, Bool.not_false, decide_true, decide_false, eq_self, Nat.zero_add, Nat.reduceAdd, Nat.reduceSub, reduceIte, reduceCtorEq, Int.reduceEq, Bool.false_eq_true, true_and, and_true, true_or, or_true, decide_eq_true_eq, e1, e2, s1, s4, show (6 : Int) - 4 = 2 from rfl, leave_rt, fz_bl, take_cons], th_bl false, hb2.mono (by omega)⟩
  · have th := th_lst (l := [numS w]) one onel (by simp)
    simp only [List.map_cons, List.map_nil] at th
    exact ⟨_, false, _, b2, by simp only [Bd, seqS, setS, retS, retN, dropS, ifS, forS, putS, augS, nxS, bkS, ctS, SR.seq_nx, SR.seq_rt, SR.seq_exc, SR.seq_bk, SR.seq_ct, SR.turn_nx, SR.turn_ct, SR.turn_bk, SR.turn_rt, SR.turn_exc, R.bind_ok, R.bind_bad, R.bind_exc, R.bindN_ok, R.st_ok, R.st_exc,
 varE, cE, binF, tstF, chnF, andB, orB, notB, andV, orV, notV, ifE, nilF, consF, tupF, lstF, ownF, negF, noO, someO, slF, callF, appF, isiF, mthF, itF, itA, nmG, nilG, consG, tupG, yesB, wipeD,
 addD_ii, addD_ss, addD_ll, subD_ii, mulD_ii, mulD_li, mulD_si, fdivD_ii, modD_ii, powD_10_18, ltD_ii, leD_ii, gtD_ii, geD_ii, gtD_ss, ltD_ss, eqD_ii, eqD_ss, eqD_bb, neD_ii, neD_ss, isBD_bb, isND_non, isND_int, isND_str, notND_non, notND_int, notND_str, lenD_s, lenD_l, lenD_r, lenD_t, lenD_c, min2D_ii, max2D_ii, intD_i, intD_b, strD_i, sumD_l, sumD_c, sumD_t, maxD_c, tupleD_l, tupleD_t, tupleD_c, listD_l, listD_t,
 ixD_l, ixD_r, ixD_t, ixD_s, ixD_c, slD_s, slD_l, slD_r, putIx_c, appendD_c, extendD_cl, isTy_c, isTy_s, isTy_l, iaddD, atI_0, atI_1, atI_2, atI_3, atI_4, low_int, low_str, low_bl, low_non, anyI_l, anyI_r, anyI_t, anyI_s, rng1I_i, rng2I_ii, ixN5, set_concat, get_concat, take_concat, len_concat, notInD_cs, inD_cs, sindexD_s, intD_s, tyN_s, tyN_i, tyN_b, tyN_n, tyN_t, tyN_l, tyIs_t, zipI_tt,
 startD, List.map_cons, List.map_nil, List.length_cons, List.length_nil, List.cons_append, List.nil_append, List.getElem?_cons_zero, List.getElem?_cons_succ, List.set_cons_zero, List.set_cons_succ, List.replicate_succ, List.replicate_zero, Option.bind_some, if_true, if_false, Bool.true_and, Bool.false_and, Bool.and_true, Bool.not_true, Bool.not_false, decide_true, decide_false, eq_self, Nat.zero_add, Nat.reduceAdd, Nat.reduceSub, reduceIte, reduceCtorEq, Int.reduceEq, Bool.false_eq_true, true_and, and_true, true_or, or_true, decide_eq_true_eq, e1, e2, s1, s4, show (7 : Int) - 4 = 3 from rfl, leave_rt, th.fr, take_cons], th, hb2.mono (by omega)⟩

/-! ### comprehensions whose elements are drawn -/
theorem compD {α : Type} {n N : Nat} (c : Nat) (toD : α → D) (Q : α → Prop) {g : GF} {fe : EF} {ρ : Nv} {T0 : Sto} (hn : n = T0.length + 1)
    (lo : ∀ a, Q a → low n (toD a) = true)
    (step : ∀ (d : D) (m : Nat) (bag : List D) (acc : List D), BagOk m bag → m < N → ∃ ρ1 a bag', g d ρ (.lst bag :: (T0 ++ [.lst acc])) = some ρ1 ∧ fe ρ1 (.lst bag :: (T0 ++ [.lst acc])) = .ok (toD a) (.lst bag' :: (T0 ++ [.lst acc])) ∧ Q a ∧ BagOk (m + c) bag') :
    ∀ (ds : List D) (m : Nat) (bag : List D) (acc : List D), BagOk m bag → m + c * ds.length < N → acc.length + ds.length ≤ 1000000 →
    ∃ (l : List α) (bag' : List D), compL n g yesB fe ρ ds (.lst bag :: (T0 ++ [.lst acc])) = .ok () (.lst bag' :: (T0 ++ [.lst (acc ++ l.map toD)])) ∧ l.length = ds.length ∧ (∀ a ∈ l, Q a) ∧ BagOk (m + c * ds.length) bag'
  | [], m, bag, acc, hb, _, _ => ⟨[], bag, by simp [compL], rfl, fun a h => (by cases h), hb⟩
  | d :: ds, m, bag, acc, hb, hm, hl => by
    rw [List.length_cons] at hm hl
    rw [Nat.mul_succ] at hm
    obtain ⟨ρ1, a, b1, e1, e2, qa, hb1⟩ := step d m bag acc hb (by omega)
    have hs : ((Cl.lst b1 :: (T0 ++ [Cl.lst acc]) : Sto)[n]? : Option Cl) = some (.lst acc) := by subst hn; simp
    have hset : (Cl.lst b1 :: (T0 ++ [Cl.lst acc]) : Sto).set n (.lst (acc ++ [toD a])) = .lst b1 :: (T0 ++ [.lst (acc ++ [toD a])]) := by
      subst hn
      rw [List.set_cons_succ, List.set_append_right _ _ (Nat.le_refl _), Nat.sub_self]
      rfl
    obtain ⟨l, b2, e3, hl2, hq, hb2⟩ := compD c toD Q hn lo step ds (m + c) b1 (acc ++ [toD a]) hb1 (by omega) (by rw [List.length_append, List.length_singleton]; omega)
    refine ⟨a :: l, b2, ?_, by rw [List.length_cons, List.length_cons, hl2], fun x hx => ?_, by rw [List.length_cons, Nat.mul_succ]; exact hb2.mono (by omega)⟩
    · unfold compL
      rw [e1]
      dsimp only
      unfold yesB
      rw [R.bindN_ok, if_pos rfl, e2, R.bindN_ok]
      unfold pushC
      rw [hs]
      dsimp only
      rw [lo a qa, decide_eq_true (sizeLine_big (show acc.length + 1 ≤ 1000000 by omega)), if_pos (by rfl), R.bindN_ok, hset]
      have e3' : compL n g yesB fe ρ ds (.lst b1 :: (T0 ++ [.lst (acc ++ [toD a])])) = _ := e3
      unfold yesB at e3'
      rw [e3', List.map_cons, List.append_assoc]
      rfl
    · rcases List.mem_cons.mp hx with rfl | hx
      · exact qa
      · exact hq x hx
theorem comp_drawn {α : Type} (N : Nat) {vs : List Nat} {fi : F (List D)} {g : GF} {fe : EF} {ρ : Nv} {S : Sto} {T : Sto} {bag : List D} {ds : List D} {m : Nat} (c : Nat) (toD : α → D) (Q : α → Prop) (hi : fi ρ S = .ok ds (.lst bag :: T)) (lo : ∀ n a, Q a → low n (toD a) = true) (hb : BagOk m bag) (hm : m + c * ds.length < N) (hl : ds.length ≤ 1000000)
    (step : ∀ (d : D) (m : Nat) (bag : List D) (acc : List D), BagOk m bag → m < N → ∃ ρ1 a bag', g d (wipeD ρ vs) (.lst bag :: (T ++ [.lst acc])) = some ρ1 ∧ fe ρ1 (.lst bag :: (T ++ [.lst acc])) = .ok (toD a) (.lst bag' :: (T ++ [.lst acc])) ∧ Q a ∧ BagOk (m + c) bag') :
    ∃ (l : List α) (bag' : List D), compG finF vs fi g yesB fe ρ S = .ok (.lst (l.map toD)) (.lst bag' :: T) ∧ l.length = ds.length ∧ (∀ a ∈ l, Q a) ∧ BagOk (m + c * ds.length) bag' := by
  obtain ⟨l, b2, e, h1, h2, h3⟩ := compD (T0 := T) c toD Q rfl (fun a qa => lo _ a qa) step ds m bag [] hb hm (by simpa using hl)
  refine ⟨l, b2, ?_, h1, h2, h3⟩
  unfold compG
  rw [hi, R.bind_ok]
  have e' : compL (Cl.lst bag :: T : Sto).length g yesB fe (wipeD ρ vs) ds ((Cl.lst bag :: T) ++ [Cl.lst []]) = _ := e
  rw [e', R.bindN_ok, List.nil_append]
  unfold finF
  have at_ : ((Cl.lst b2 :: (T ++ [Cl.lst (l.map toD)]) : Sto)[(Cl.lst bag :: T : Sto).length]? : Option Cl) = some (.lst (l.map toD)) := by simp
  rw [at_]
  dsimp only
  congr 1
  simp
theorem join_text {l : List Str} (h : ∀ z ∈ l, Asc z ∧ z.length ≤ 10) (hl : l.length ≤ 10) (S : Sto) : ∃ z, joinD (.str "") [.lst (l.map D.str)] S = .ok (.str z) S ∧ Asc z ∧ z.length ≤ 100 := by
  have sm : (l.map (·.length)).sum ≤ 10 * l.length := by
    clear hl
    induction l with
    | nil => exact Nat.le_refl _
    | cons z l ih =>
      have := (h z List.mem_cons_self).2
      have := ih fun y hy => h y (List.mem_cons_of_mem _ hy)
      rw [List.map_cons, List.sum_cons, List.length_cons]; omega
  have e0 : (("" : String) : Str).length = 0 := rfl
  refine ⟨Txt.join "" l, ?_, ?_, ?_⟩
  · have hq : asQ (.lst (l.map D.str)) S = some (l.map D.str) := rfl
    unfold joinD
    dsimp only
    rw [hq, Option.bind_some, strsOf_strs]
    dsimp only
    rw [if_pos (show NLe _ _ from (by show _ + _ * (("" : String) : Str).length ≤ 16777216; rw [e0]; omega))]
  · rw [TL.join_eq]
    intro c hc
    rcases (mem_join "" c l).mp hc with ⟨t, ht, hct⟩ | ⟨_, hs⟩
    · exact (h t ht).1 c hct
    · cases hs
  · have len : (Txt.join "" l).length = (l.map (·.length)).sum := by
      rw [TL.join_eq]
      have e : (("" : String) : Str) = ⟨#[]⟩ := rfl
      rw [e]
      clear sm h hl
      induction l with
      | nil => rfl
      | cons z l ih => rw [PyProof.Rows.join_nil_cons, len_app, ih, List.map_cons, List.sum_cons]
    rw [len]; omega
theorem thing_ok {m : Nat} {b : List D} {T : Sto} (hb : BagOk m b) (hm : m < 2 ^ 48) : ∃ d due z b', F__law_thing [.cell 0] (.lst b :: T) = .ok d (.lst b' :: T) ∧ IsTh d due z ∧ BagOk (m + 1000) b' := by
  unfold F__law_thing fnF g__law_thing
  obtain ⟨way, b1, e1, w0, w1, hb1⟩ := draw_ok (T := T) (lim := 8) hb (by decide) (by decide) (by omega)
  have ways : way = 0 ∨ way = 1 ∨ way = 2 ∨ way = 3 ∨ way = 4 ∨ way = 5 ∨ way = 6 ∨ way = 7 := by omega
  have txt : ∀ {z : Str}, isTy "str" (.str z) (.lst b1 :: T) = true := rfl
  rcases ways with rfl | rfl | rfl | rfl | rfl | rfl | rfl | rfl
  · obtain ⟨w, b2, e2, hw, hb2⟩ := number_ok (T := T) hb1 (by omega)
    exact ⟨_, _, _, b2, by simp only [Bd, seqS, setS, retS, retN, dropS, ifS, forS, putS, augS, nxS, bkS, ctS, SR.seq_nx, SR.seq_rt, SR.seq_exc, SR.seq_bk, SR.seq_ct, SR.turn_nx, SR.turn_ct, SR.turn_bk, SR.turn_rt, SR.turn_exc, R.bind_ok, R.bind_bad, R.bind_exc, R.bindN_ok, R.st_ok, R.st_exc,
 varE, cE, binF, tstF, chnF, andB, orB, notB, andV, orV, notV, ifE, nilF, consF, tupF, lstF, ownF, negF, noO, someO, slF, callF, appF, isiF, mthF, itF, itA, nmG, nilG, consG, tupG, yesB, wipeD,
 addD_ii, addD_ss, addD_ll, subD_ii, mulD_ii, mulD_li, mulD_si, fdivD_ii, modD_ii, powD_10_18, ltD_ii, leD_ii, gtD_ii, geD_ii, gtD_ss, ltD_ss, eqD_ii, eqD_ss, eqD_bb, neD_ii, neD_ss, isBD_bb, isND_non, isND_int, isND_str, notND_non, notND_int, notND_str, lenD_s, lenD_l, lenD_r, lenD_t, lenD_c, min2D_ii, max2D_ii, intD_i, intD_b, strD_i, sumD_l, sumD_c, sumD_t, maxD_c, tupleD_l, tupleD_t, tupleD_c, listD_l, listD_t,
 ixD_l, ixD_r, ixD_t, ixD_s, ixD_c, slD_s, slD_l, slD_r, putIx_c, appendD_c, extendD_cl, isTy_c, isTy_s, isTy_l, iaddD, atI_0, atI_1, atI_2, atI_3, atI_4, low_int, low_str, low_bl, low_non, anyI_l, anyI_r, anyI_t, anyI_s, rng1I_i, rng2I_ii, ixN5, set_concat, get_concat, take_concat, len_concat, notInD_cs, inD_cs, sindexD_s, intD_s, tyN_s, tyN_i, tyN_b, tyN_n, tyN_t, tyN_l, tyIs_t, zipI_tt,
 startD, List.map_cons, List.map_nil, List.length_cons, List.length_nil, List.cons_append, List.nil_append, List.getElem?_cons_zero, List.getElem?_cons_succ, List.set_cons_zero, List.set_cons_succ, List.replicate_succ, List.replicate_zero, Option.bind_some, if_true, if_false, Bool.true_and, Bool.false_and, Bool.and_true, Bool.not_true, Bool.not_false, decide_true, decide_false, eq_self, Nat.zero_add, Nat.reduceAdd, Nat.reduceSub, reduceIte, reduceCtorEq, Int.reduceEq, Bool.false_eq_true, true_and, and_true, true_or, or_true, decide_eq_true_eq, e1, e2, leave_rt, fz_str, take_cons], th_str (asc_num hw) (by rw [numS_len]; have := hw.few; omega), hb2.mono (by omega)⟩
  · obtain ⟨w, b2, e2, hw, hb2⟩ := number_ok (T := T) hb1 (by omega)
    exact ⟨_, _, _, b2, by simp only [Bd, seqS, setS, retS, retN, dropS, ifS, forS, putS, augS, nxS, bkS, ctS, SR.seq_nx, SR.seq_rt, SR.seq_exc, SR.seq_bk, SR.seq_ct, SR.turn_nx, SR.turn_ct, SR.turn_bk, SR.turn_rt, SR.turn_exc, R.bind_ok, R.bind_bad, R.bind_exc, R.bindN_ok, R.st_ok, R.st_exc,
 varE, cE, binF, tstF, chnF, andB, orB, notB, andV, orV, notV, ifE, nilF, consF, tupF, lstF, ownF, negF, noO, someO, slF, callF, appF, isiF, mthF, itF, itA, nmG, nilG, consG, tupG, yesB, wipeD,
 addD_ii, addD_ss, addD_ll, subD_ii, mulD_ii, mulD_li, mulD_si, fdivD_ii, modD_ii, powD_10_18, ltD_ii, leD_ii, gtD_ii, geD_ii, gtD_ss, ltD_ss, eqD_ii, eqD_ss, eqD_bb, neD_ii, neD_ss, isBD_bb, isND_non, isND_int, isND_str, notND_non, notND_int, notND_str, lenD_s, lenD_l, lenD_r, lenD_t, lenD_c, min2D_ii, max2D_ii, intD_i, intD_b, strD_i, sumD_l, sumD_c, sumD_t, maxD_c, tupleD_l, tupleD_t, tupleD_c, listD_l, listD_t,
 ixD_l, ixD_r, ixD_t, ixD_s, ixD_c, slD_s, slD_l, slD_r, putIx_c, appendD_c, extendD_cl, isTy_c, isTy_s, isTy_l, iaddD, atI_0, atI_1, atI_2, atI_3, atI_4, low_int, low_str, low_bl, low_non, anyI_l, anyI_r, anyI_t, anyI_s, rng1I_i, rng2I_ii, ixN5, set_concat, get_concat, take_concat, len_concat, notInD_cs, inD_cs, sindexD_s, intD_s, tyN_s, tyN_i, tyN_b, tyN_n, tyN_t, tyN_l, tyIs_t, zipI_tt,
 startD, List.map_cons, List.map_nil, List.length_cons, List.length_nil, List.cons_append, List.nil_append, List.getElem?_cons_zero, List.getElem?_cons_succ, List.set_cons_zero, List.set_cons_succ, List.replicate_succ, List.replicate_zero, Option.bind_some, if_true, if_false, Bool.true_and, Bool.false_and, Bool.and_true, Bool.not_true, Bool.not_false, decide_true, decide_false, eq_self, Nat.zero_add, Nat.reduceAdd, Nat.reduceSub, reduceIte, reduceCtorEq, Int.reduceEq, Bool.false_eq_true, true_and, and_true, true_or, or_true, decide_eq_true_eq, e1, e2, leave_rt, fz_str, take_cons], th_str (asc_num hw) (by rw [numS_len]; have := hw.few; omega), hb2.mono (by omega)⟩
  · obtain ⟨n, b2, e2, n0, n1, hb2⟩ := draw_ok (T := T) (lim := 7) hb1 (by decide) (by decide) (by omega)
    have hr : -(2 ^ 62) ≤ n ∧ n < 2 ^ 62 := by constructor <;> omega
    obtain ⟨l, b3, e3, hl, hq, hb3⟩ := comp_drawn (2 ^ 49) (vs := [2]) (fi := itA rng1I (consF (callF 2 F__law_draw (consF (varE 0) (consF (cE (.int 7)) nilF))) nilF)) (g := nmG 2) (fe := appF strD (consF (callF 2 F__law_draw (consF (varE 0) (consF (cE (.int 10)) nilF))) nilF)) (ρ := [some (.cell 0), some (.int 2), none]) (S := .lst b1 :: T) (T := T) (bag := b2) (ds := (List.range n.toNat).map fun k => D.int (0 + (k : Nat))) 100 D.str (fun z => Asc z ∧ z.length ≤ 10) (by simp only [Bd, seqS, setS, retS, retN, dropS, ifS, forS, putS, augS, nxS, bkS, ctS, SR.seq_nx, SR.seq_rt, SR.seq_exc, SR.seq_bk, SR.seq_ct, SR.turn_nx, SR.turn_ct, SR.turn_bk, SR.turn_rt, SR.turn_exc, R.bind_ok, R.bind_bad, R.bind_exc, R.bindN_ok, R.st_ok, R.st_exc,
 varE, cE, binF, tstF, chnF, andB, orB, notB, andV, orV, notV, ifE, nilF, consF, tupF, lstF, ownF, negF, noO, someO, slF, callF, appF, isiF, mthF, itF, itA, nmG, nilG, consG, tupG, yesB, wipeD,
 addD_ii, addD_ss, addD_ll, subD_ii, mulD_ii, mulD_li, mulD_si, fdivD_ii, modD_ii, powD_10_18, ltD_ii, leD_ii, gtD_ii, geD_ii, gtD_ss, ltD_ss, eqD_ii, eqD_ss, eqD_bb, neD_ii, neD_ss, isBD_bb, isND_non, isND_int, isND_str, notND_non, notND_int, notND_str, lenD_s, lenD_l, lenD_r, lenD_t, lenD_c, min2D_ii, max2D_ii, intD_i, intD_b, strD_i, sumD_l, sumD_c, sumD_t, maxD_c, tupleD_l, tupleD_t, tupleD_c, listD_l, listD_t,
 ixD_l, ixD_r, ixD_t, ixD_s, ixD_c, slD_s, slD_l, slD_r, putIx_c, appendD_c, extendD_cl, isTy_c, isTy_s, isTy_l, iaddD, atI_0, atI_1, atI_2, atI_3, atI_4, low_int, low_str, low_bl, low_non, anyI_l, anyI_r, anyI_t, anyI_s, rng1I_i, rng2I_ii, ixN5, set_concat, get_concat, take_concat, len_concat, notInD_cs, inD_cs, sindexD_s, intD_s, tyN_s, tyN_i, tyN_b, tyN_n, tyN_t, tyN_l, tyIs_t, zipI_tt,
 startD, List.map_cons, List.map_nil, List.length_cons, List.length_nil, List.cons_append, List.nil_append, List.getElem?_cons_zero, List.getElem?_cons_succ, List.set_cons_zero, List.set_cons_succ, List.replicate_succ, List.replicate_zero, Option.bind_some, if_true, if_false, Bool.true_and, Bool.false_and, Bool.and_true, Bool.not_true, Bool.not_false, decide_true, decide_false, eq_self, Nat.zero_add, Nat.reduceAdd, Nat.reduceSub, reduceIte, reduceCtorEq, Int.reduceEq, Bool.false_eq_true, true_and, and_true, true_or, or_true, decide_eq_true_eq, e2, hr]) (fun _ _ _ => rfl) hb2 (by simp; omega) (by simp; omega) (fun d m bag acc hb hm => by
      obtain ⟨k, b3, e3, k0, k1, hb3⟩ := draw_ok (T := T ++ [.lst acc]) (lim := 10) hb (by decide) (by decide) (by omega)
      have sd := str_dig k0 (by omega) (.lst b3 :: (T ++ [.lst acc]))
      exact ⟨[some (.cell 0), some (.int 2), some d], numS [k.toNat], b3, rfl, by simp only [Bd, seqS, setS, retS, retN, dropS, ifS, forS, putS, augS, nxS, bkS, ctS, SR.seq_nx, SR.seq_rt, SR.seq_exc, SR.seq_bk, SR.seq_ct, SR.turn_nx, SR.turn_ct, SR.turn_bk, SR.turn_rt, SR.turn_exc, R.bind_ok, R.bind_bad, R.bind_exc, R.bindN_ok, R.st_ok, R.st_exc,
 varE, cE, binF, tstF, chnF, andB, orB, notB, andV, orV, notV, ifE, nilF, consF, tupF, lstF, ownF, negF, noO, someO, slF, callF, appF, isiF, mthF, itF, itA, nmG, nilG, consG, tupG, yesB, wipeD,
 addD_ii, addD_ss, addD_ll, subD_ii, mulD_ii, mulD_li, mulD_si, fdivD_ii, modD_ii, powD_10_18, ltD_ii, leD_ii, gtD_ii, geD_ii, gtD_ss, ltD_ss, eqD_ii, eqD_ss, eqD_bb, neD_ii, neD_ss, isBD_bb, isND_non, isND_int, isND_str, notND_non, notND_int, notND_str, lenD_s, lenD_l, lenD_r, lenD_t, lenD_c, min2D_ii, max2D_ii, intD_i, intD_b, strD_i, sumD_l, sumD_c, sumD_t, maxD_c, tupleD_l, tupleD_t, tupleD_c, listD_l, listD_t,
 ixD_l, ixD_r, ixD_t, ixD_s, ixD_c, slD_s, slD_l, slD_r, putIx_c, appendD_c, extendD_cl, isTy_c, isTy_s, isTy_l, iaddD, atI_0, atI_1, atI_2, atI_3, atI_4, low_int, low_str, low_bl, low_non, anyI_l, anyI_r, anyI_t, anyI_s, rng1I_i, rng2I_ii, ixN5, set_concat, get_concat, take_concat, len_concat, notInD_cs, inD_cs, sindexD_s, intD_s, tyN_s, tyN_i, tyN_b, tyN_n, tyN_t, tyN_l, tyIs_t, zipI_tt,
 startD, List.map_cons, List.map_nil, List.length_cons, List.length_nil, List.cons_append, List.nil_append, List.getElem?_cons_zero, List.getElem?_cons_succ, List.set_cons_zero, List.set_cons_succ, List.replicate_succ, List.replicate_zero, Option.bind_some, if_true, if_false, Bool.true_and, Bool.false_and, Bool.and_true, Bool.not_true, Bool.not_false, decide_true, decide_false, eq_self, Nat.zero_add, Nat.reduceAdd, Nat.reduceSub, reduceIte, reduceCtorEq, Int.reduceEq, Bool.false_eq_true, true_and, and_true, true_or, or_true, decide_eq_true_eq, e3, sd], ⟨asc_dig fun d hd => ⟨Nat.zero_le _, by simp at hd; omega⟩, by rw [numS_len]; simp⟩, hb3.mono (by omega)⟩)
    obtain ⟨z, e4, az, lz⟩ := join_text (l := l) hq (by rw [hl]; simp; omega) (.lst b3 :: T)
    exact ⟨_, _, _, b3, by simp only [Bd, seqS, setS, retS, retN, dropS, ifS, forS, putS, augS, nxS, bkS, ctS, SR.seq_nx, SR.seq_rt, SR.seq_exc, SR.seq_bk, SR.seq_ct, SR.turn_nx, SR.turn_ct, SR.turn_bk, SR.turn_rt, SR.turn_exc, R.bind_ok, R.bind_bad, R.bind_exc, R.bindN_ok, R.st_ok, R.st_exc,
 varE, cE, binF, tstF, chnF, andB, orB, notB, andV, orV, notV, ifE, nilF, consF, tupF, lstF, ownF, negF, noO, someO, slF, callF, appF, isiF, mthF, itF, itA, nmG, nilG, consG, tupG, yesB, wipeD,
 addD_ii, addD_ss, addD_ll, subD_ii, mulD_ii, mulD_li, mulD_si, fdivD_ii, modD_ii, powD_10_18, ltD_ii, leD_ii, gtD_ii, geD_ii, gtD_ss, ltD_ss, eqD_ii, eqD_ss, eqD_bb, neD_ii, neD_ss, isBD_bb, isND_non, isND_int, isND_str, notND_non, notND_int, notND_str, lenD_s, lenD_l, lenD_r, lenD_t, lenD_c, min2D_ii, max2D_ii, intD_i, intD_b, strD_i, sumD_l, sumD_c, sumD_t, maxD_c, tupleD_l, tupleD_t, tupleD_c, listD_l, listD_t,
 ixD_l, ixD_r, ixD_t, ixD_s, ixD_c, slD_s, slD_l, slD_r, putIx_c, appendD_c, extendD_cl, isTy_c, isTy_s, isTy_l, iaddD, atI_0, atI_1, atI_2, atI_3, atI_4, low_int, low_str, low_bl, low_non, anyI_l, anyI_r, anyI_t, anyI_s, rng1I_i, rng2I_ii, ixN5, set_concat, get_concat, take_concat, len_concat, notInD_cs, inD_cs, sindexD_s, intD_s, tyN_s, tyN_i, tyN_b, tyN_n, tyN_t, tyN_l, tyIs_t, zipI_tt,
 startD, List.map_cons, List.map_nil, List.length_cons, List.length_nil, List.cons_append, List.nil_append, List.getElem?_cons_zero, List.getElem?_cons_succ, List.set_cons_zero, List.set_cons_succ, List.replicate_succ, List.replicate_zero, Option.bind_some, if_true, if_false, Bool.true_and, Bool.false_and, Bool.and_true, Bool.not_true, Bool.not_false, decide_true, decide_false, eq_self, Nat.zero_add, Nat.reduceAdd, Nat.reduceSub, reduceIte, reduceCtorEq, Int.reduceEq, Bool.false_eq_true, true_and, and_true, true_or, or_true, decide_eq_true_eq, e1, txt, e3, e4, beq_self_eq_true, leave_rt, fz_str, take_cons], th_str az (by omega), hb3.mono (by simp; omega)⟩
  · obtain ⟨n, b2, e2, n0, n1, hb2⟩ := draw_ok (T := T) (lim := 6) hb1 (by decide) (by decide) (by omega)
    have hr : -(2 ^ 62) ≤ n ∧ n < 2 ^ 62 := by constructor <;> omega
    obtain ⟨l, b3, e3, hl, hq, hb3⟩ := comp_drawn (2 ^ 49) (vs := [2]) (fi := itA rng1I (consF (callF 2 F__law_draw (consF (varE 0) (consF (cE (.int 6)) nilF))) nilF)) (g := nmG 2) (fe := callF 1 F__law_sign (consF (varE 0) nilF)) (ρ := [some (.cell 0), some (.int 3), none]) (S := .lst b1 :: T) (T := T) (bag := b2) (ds := (List.range n.toNat).map fun k => D.int (0 + (k : Nat))) 100 D.str (fun z => Asc z ∧ z.length ≤ 10) (by simp only [Bd, seqS, setS, retS, retN, dropS, ifS, forS, putS, augS, nxS, bkS, ctS, SR.seq_nx, SR.seq_rt, SR.seq_exc, SR.seq_bk, SR.seq_ct, SR.turn_nx, SR.turn_ct, SR.turn_bk, SR.turn_rt, SR.turn_exc, R.bind_ok, R.bind_bad, R.bind_exc, R.bindN_ok, R.st_ok, R.st_exc,
 varE, cE, binF, tstF, chnF, andB, orB, notB, andV, orV, notV, ifE, nilF, consF, tupF, lstF, ownF, negF, noO, someO, slF, callF, appF, isiF, mthF, itF, itA, nmG, nilG, consG, tupG, yesB, wipeD,
 addD_ii, addD_ss, addD_ll, subD_ii, mulD_ii, mulD_li, mulD_si, fdivD_ii, modD_ii, powD_10_18, ltD_ii, leD_ii, gtD_ii, geD_ii, gtD_ss, ltD_ss, eqD_ii, eqD_ss, eqD_bb, neD_ii, neD_ss, isBD_bb, isND_non, isND_int, isND_str, notND_non, notND_int, notND_str, lenD_s, lenD_l, lenD_r, lenD_t, lenD_c, min2D_ii, max2D_ii, intD_i, intD_b, strD_i, sumD_l, sumD_c, sumD_t, maxD_c, tupleD_l, tupleD_t, tupleD_c, listD_l, listD_t,
 ixD_l, ixD_r, ixD_t, ixD_s, ixD_c, slD_s, slD_l, slD_r, putIx_c, appendD_c, extendD_cl, isTy_c, isTy_s, isTy_l, iaddD, atI_0, atI_1, atI_2, atI_3, atI_4, low_int, low_str, low_bl, low_non, anyI_l, anyI_r, anyI_t, anyI_s, rng1I_i, rng2I_ii, ixN5, set_concat, get_concat, take_concat, len_concat, notInD_cs, inD_cs, sindexD_s, intD_s, tyN_s, tyN_i, tyN_b, tyN_n, tyN_t, tyN_l, tyIs_t, zipI_tt,
 startD, List.map_cons, List.map_nil, List.length_cons, List.length_nil, List.cons_append, List.nil_append, List.getElem?_cons_zero, List.getElem?_cons_succ, List.set_cons_zero, List.set_cons_succ, List.replicate_succ, List.replicate_zero, Option.bind_some, if_true, if_false, Bool.true_and, Bool.false_and, Bool.and_true, Bool.not_true, Bool.not_false, decide_true, decide_false, eq_self, Nat.zero_add, Nat.reduceAdd, Nat.reduceSub, reduceIte, reduceCtorEq, Int.reduceEq, Bool.false_eq_true, true_and, and_true, true_or, or_true, decide_eq_true_eq, e2, hr]) (fun _ _ _ => rfl) hb2 (by simp; omega) (by simp; omega) (fun d m bag acc hb hm => by
      obtain ⟨c, b3, e3, hc, hb3⟩ := sign_ok (T := T ++ [.lst acc]) hb (by omega)
      exact ⟨[some (.cell 0), some (.int 3), some d], ⟨#[c]⟩, b3, rfl, by simp only [Bd, seqS, setS, retS, retN, dropS, ifS, forS, putS, augS, nxS, bkS, ctS, SR.seq_nx, SR.seq_rt, SR.seq_exc, SR.seq_bk, SR.seq_ct, SR.turn_nx, SR.turn_ct, SR.turn_bk, SR.turn_rt, SR.turn_exc, R.bind_ok, R.bind_bad, R.bind_exc, R.bindN_ok, R.st_ok, R.st_exc,
 varE, cE, binF, tstF, chnF, andB, orB, notB, andV, orV, notV, ifE, nilF, consF, tupF, lstF, ownF, negF, noO, someO, slF, callF, appF, isiF, mthF, itF, itA, nmG, nilG, consG, tupG, yesB, wipeD,
 addD_ii, addD_ss, addD_ll, subD_ii, mulD_ii, mulD_li, mulD_si, fdivD_ii, modD_ii, powD_10_18, ltD_ii, leD_ii, gtD_ii, geD_ii, gtD_ss, ltD_ss, eqD_ii, eqD_ss, eqD_bb, neD_ii, neD_ss, isBD_bb, isND_non, isND_int, isND_str, notND_non, notND_int, notND_str, lenD_s, lenD_l, lenD_r, lenD_t, lenD_c, min2D_ii, max2D_ii, intD_i, intD_b, strD_i, sumD_l, sumD_c, sumD_t, maxD_c, tupleD_l, tupleD_t, tupleD_c, listD_l, listD_t,
 ixD_l, ixD_r, ixD_t, ixD_s, ixD_c, slD_s, slD_l, slD_r, putIx_c, appendD_c, extendD_cl, isTy_c, isTy_s, isTy_l, iaddD, atI_0, atI_1, atI_2, atI_3, atI_4, low_int, low_str, low_bl, low_non, anyI_l, anyI_r, anyI_t, anyI_s, rng1I_i, rng2I_ii, ixN5, set_concat, get_concat, take_concat, len_concat, notInD_cs, inD_cs, sindexD_s, intD_s, tyN_s, tyN_i, tyN_b, tyN_n, tyN_t, tyN_l, tyIs_t, zipI_tt,
 startD, List.map_cons, List.map_nil, List.length_cons, List.length_nil, List.cons_append, List.nil_append, List.getElem?_cons_zero, List.getElem?_cons_succ, List.set_cons_zero, List.set_cons_succ, List.replicate_succ, List.replicate_zero, Option.bind_some, if_true, if_false, Bool.true_and, Bool.false_and, Bool.and_true, Bool.not_true, Bool.not_false, decide_true, decide_false, eq_self, Nat.zero_add, Nat.reduceAdd, Nat.reduceSub, reduceIte, reduceCtorEq, Int.reduceEq, Bool.false_eq_true, true_and, and_true, true_or, or_true, decide_eq_true_eq, e3], ⟨fun x hx => by have : x = c := (by simpa using hx); omega, by show 1 ≤ 10; decide⟩, hb3.mono (by omega)⟩)
    obtain ⟨z, e4, az, lz⟩ := join_text (l := l) hq (by rw [hl]; simp; omega) (.lst b3 :: T)
    exact ⟨_, _, _, b3, by simp only [Bd, seqS, setS, retS, retN, dropS, ifS, forS, putS, augS, nxS, bkS, ctS, SR.seq_nx, SR.seq_rt, SR.seq_exc, SR.seq_bk, SR.seq_ct, SR.turn_nx, SR.turn_ct, SR.turn_bk, SR.turn_rt, SR.turn_exc, R.bind_ok, R.bind_bad, R.bind_exc, R.bindN_ok, R.st_ok, R.st_exc,
 varE, cE, binF, tstF, chnF, andB, orB, notB, andV, orV, notV, ifE, nilF, consF, tupF, lstF, ownF, negF, noO, someO, slF, callF, appF, isiF, mthF, itF, itA, nmG, nilG, consG, tupG, yesB, wipeD,
 addD_ii, addD_ss, addD_ll, subD_ii, mulD_ii, mulD_li, mulD_si, fdivD_ii, modD_ii, powD_10_18, ltD_ii, leD_ii, gtD_ii, geD_ii, gtD_ss, ltD_ss, eqD_ii, eqD_ss, eqD_bb, neD_ii, neD_ss, isBD_bb, isND_non, isND_int, isND_str, notND_non, notND_int, notND_str, lenD_s, lenD_l, lenD_r, lenD_t, lenD_c, min2D_ii, max2D_ii, intD_i, intD_b, strD_i, sumD_l, sumD_c, sumD_t, maxD_c, tupleD_l, tupleD_t, tupleD_c, listD_l, listD_t,
 ixD_l, ixD_r, ixD_t, ixD_s, ixD_c, slD_s, slD_l, slD_r, putIx_c, appendD_c, extendD_cl, isTy_c, isTy_s, isTy_l, iaddD, atI_0, atI_1, atI_2, atI_3, atI_4, low_int, low_str, low_bl, low_non, anyI_l, anyI_r, anyI_t, anyI_s, rng1I_i, rng2I_ii, ixN5, set_concat, get_concat, take_concat, len_concat, notInD_cs, inD_cs, sindexD_s, intD_s, tyN_s, tyN_i, tyN_b, tyN_n, tyN_t, tyN_l, tyIs_t, zipI_tt,
 startD, List.map_cons, List.map_nil, List.length_cons, List.length_nil, List.cons_append, List.nil_append, List.getElem?_cons_zero, List.getElem?_cons_succ, List.set_cons_zero, List.set_cons_succ, List.replicate_succ, List.replicate_zero, Option.bind_some, if_true, if_false, Bool.true_and, Bool.false_and, Bool.and_true, Bool.not_true, Bool.not_false, decide_true, decide_false, eq_self, Nat.zero_add, Nat.reduceAdd, Nat.reduceSub, reduceIte, reduceCtorEq, Int.reduceEq, Bool.false_eq_true, true_and, and_true, true_or, or_true, decide_eq_true_eq, e1, txt, e3, e4, beq_self_eq_true, leave_rt, fz_str, take_cons], th_str az (by omega), hb3.mono (by simp; omega)⟩
  · obtain ⟨z, b2, e2, az, lz, hb2⟩ := near_ok (T := T) hb1 (by omega)
    exact ⟨_, _, _, b2, by simp only [Bd, seqS, setS, retS, retN, dropS, ifS, forS, putS, augS, nxS, bkS, ctS, SR.seq_nx, SR.seq_rt, SR.seq_exc, SR.seq_bk, SR.seq_ct, SR.turn_nx, SR.turn_ct, SR.turn_bk, SR.turn_rt, SR.turn_exc, R.bind_ok, R.bind_bad, R.bind_exc, R.bindN_ok, R.st_ok, R.st_exc,
 varE, cE, binF, tstF, chnF, andB, orB, notB, andV, orV, notV, ifE, nilF, consF, tupF, lstF, ownF, negF, noO, someO, slF, callF, appF, isiF, mthF, itF, itA, nmG, nilG, consG, tupG, yesB, wipeD,
 addD_ii, addD_ss, addD_ll, subD_ii, mulD_ii, mulD_li, mulD_si, fdivD_ii, modD_ii, powD_10_18, ltD_ii, leD_ii, gtD_ii, geD_ii, gtD_ss, ltD_ss, eqD_ii, eqD_ss, eqD_bb, neD_ii, neD_ss, isBD_bb, isND_non, isND_int, isND_str, notND_non, notND_int, notND_str, lenD_s, lenD_l, lenD_r, lenD_t, lenD_c, min2D_ii, max2D_ii, intD_i, intD_b, strD_i, sumD_l, sumD_c, sumD_t, maxD_c, tupleD_l, tupleD_t, tupleD_c, listD_l, listD_t,
 ixD_l, ixD_r, ixD_t, ixD_s, ixD_c, slD_s, slD_l, slD_r, putIx_c, appendD_c, extendD_cl, isTy_c, isTy_s, isTy_l, iaddD, atI_0, atI_1, atI_2, atI_3, atI_4, low_int, low_str, low_bl, low_non, anyI_l, anyI_r, anyI_t, anyI_s, rng1I_i, rng2I_ii, ixN5, set_concat, get_concat, take_concat, len_concat, notInD_cs, inD_cs, sindexD_s, intD_s, tyN_s, tyN_i, tyN_b, tyN_n, tyN_t, tyN_l, tyIs_t, zipI_tt,
 startD, List.map_cons, List.map_nil, List.length_cons, List.length_nil, List.cons_append, List.nil_append, List.getElem?_cons_zero, List.getElem?_cons_succ, List.set_cons_zero, List.set_cons_succ, List.replicate_succ, List.replicate_zero, Option.bind_some, if_true, if_false, Bool.true_and, Bool.false_and, Bool.and_true, Bool.not_true, Bool.not_false, decide_true, decide_false, eq_self, Nat.zero_add, Nat.reduceAdd, Nat.reduceSub, reduceIte, reduceCtorEq, Int.reduceEq, Bool.false_eq_true, true_and, and_true, true_or, or_true, decide_eq_true_eq, e1, e2, leave_rt, fz_str, take_cons], th_str az (by omega), hb2.mono (by omega)⟩
  · obtain ⟨z, b2, e2, az, lz, hb2⟩ := bent_ok (T := T) hb1 (by omega)
    exact ⟨_, _, _, b2, by simp only [Bd, seqS, setS, retS, retN, dropS, ifS, forS, putS, augS, nxS, bkS, ctS, SR.seq_nx, SR.seq_rt, SR.seq_exc, SR.seq_bk, SR.seq_ct, SR.turn_nx, SR.turn_ct, SR.turn_bk, SR.turn_rt, SR.turn_exc, R.bind_ok, R.bind_bad, R.bind_exc, R.bindN_ok, R.st_ok, R.st_exc,
 varE, cE, binF, tstF, chnF, andB, orB, notB, andV, orV, notV, ifE, nilF, consF, tupF, lstF, ownF, negF, noO, someO, slF, callF, appF, isiF, mthF, itF, itA, nmG, nilG, consG, tupG, yesB, wipeD,
 addD_ii, addD_ss, addD_ll, subD_ii, mulD_ii, mulD_li, mulD_si, fdivD_ii, modD_ii, powD_10_18, ltD_ii, leD_ii, gtD_ii, geD_ii, gtD_ss, ltD_ss, eqD_ii, eqD_ss, eqD_bb, neD_ii, neD_ss, isBD_bb, isND_non, isND_int, isND_str, notND_non, notND_int, notND_str, lenD_s, lenD_l, lenD_r, lenD_t, lenD_c, min2D_ii, max2D_ii, intD_i, intD_b, strD_i, sumD_l, sumD_c, sumD_t, maxD_c, tupleD_l, tupleD_t, tupleD_c, listD_l, listD_t,
 ixD_l, ixD_r, ixD_t, ixD_s, ixD_c, slD_s, slD_l, slD_r, putIx_c, appendD_c, extendD_cl, isTy_c, isTy_s, isTy_l, iaddD, atI_0, atI_1, atI_2, atI_3, atI_4, low_int, low_str, low_bl, low_non, anyI_l, anyI_r, anyI_t, anyI_s, rng1I_i, rng2I_ii, ixN5, set_concat, get_concat, take_concat, len_concat, notInD_cs, inD_cs, sindexD_s, intD_s, tyN_s, tyN_i, tyN_b, tyN_n, tyN_t, tyN_l, tyIs_t, zipI_tt,
 startD, List.map_cons, List.map_nil, List.length_cons, List.length_nil, List.cons_append, List.nil_append, List.getElem?_cons_zero, List.getElem?_cons_succ, List.set_cons_zero, List.set_cons_succ, List.replicate_succ, List.replicate_zero, Option.bind_some, if_true, if_false, Bool.true_and, Bool.false_and, Bool.and_true, Bool.not_true, Bool.not_false, decide_true, decide_false, eq_self, Nat.zero_add, Nat.reduceAdd, Nat.reduceSub, reduceIte, reduceCtorEq, Int.reduceEq, Bool.false_eq_true, true_and, and_true, true_or, or_true, decide_eq_true_eq, e1, e2, leave_rt, fz_str, take_cons], th_str az (by omega), hb2.mono (by omega)⟩
  · obtain ⟨n, b2, e2, n0, n1, hb2⟩ := draw_ok (T := T) (lim := 2) hb1 (by decide) (by decide) (by omega)
    have l1 : (("1" : String) : Str).length = 1 := rfl
    have c : 0 ≤ 4 + n ∧ 4 + n ≤ 1000000 ∧ (("1" : String) : Str).length * (4 + n).toNat ≤ 1000000 := by rw [l1]; refine ⟨by omega, by omega, by omega⟩
    have five : n = 0 ∨ n = 1 := by omega
    have az : Asc (repS "1" (4 + n).toNat) := by rcases five with rfl | rfl <;> (unfold Asc; decide +kernel)
    have lz : (repS "1" (4 + n).toNat).length ≤ 100 := by rcases five with rfl | rfl <;> decide +kernel
    exact ⟨_, _, _, b2, by simp only [Bd, seqS, setS, retS, retN, dropS, ifS, forS, putS, augS, nxS, bkS, ctS, SR.seq_nx, SR.seq_rt, SR.seq_exc, SR.seq_bk, SR.seq_ct, SR.turn_nx, SR.turn_ct, SR.turn_bk, SR.turn_rt, SR.turn_exc, R.bind_ok, R.bind_bad, R.bind_exc, R.bindN_ok, R.st_ok, R.st_exc,
 varE, cE, binF, tstF, chnF, andB, orB, notB, andV, orV, notV, ifE, nilF, consF, tupF, lstF, ownF, negF, noO, someO, slF, callF, appF, isiF, mthF, itF, itA, nmG, nilG, consG, tupG, yesB, wipeD,
 addD_ii, addD_ss, addD_ll, subD_ii, mulD_ii, mulD_li, mulD_si, fdivD_ii, modD_ii, powD_10_18, ltD_ii, leD_ii, gtD_ii, geD_ii, gtD_ss, ltD_ss, eqD_ii, eqD_ss, eqD_bb, neD_ii, neD_ss, isBD_bb, isND_non, isND_int, isND_str, notND_non, notND_int, notND_str, lenD_s, lenD_l, lenD_r, lenD_t, lenD_c, min2D_ii, max2D_ii, intD_i, intD_b, strD_i, sumD_l, sumD_c, sumD_t, maxD_c, tupleD_l, tupleD_t, tupleD_c, listD_l, listD_t,
 ixD_l, ixD_r, ixD_t, ixD_s, ixD_c, slD_s, slD_l, slD_r, putIx_c, appendD_c, extendD_cl, isTy_c, isTy_s, isTy_l, iaddD, atI_0, atI_1, atI_2, atI_3, atI_4, low_int, low_str, low_bl, low_non, anyI_l, anyI_r, anyI_t, anyI_s, rng1I_i, rng2I_ii, ixN5, set_concat, get_concat, take_concat, len_concat, notInD_cs, inD_cs, sindexD_s, intD_s, tyN_s, tyN_i, tyN_b, tyN_n, tyN_t, tyN_l, tyIs_t, zipI_tt,
 startD, List.map_cons, List.map_nil, List.length_cons, List.length_nil, List.cons_append, List.nil_append, List.getElem?_cons_zero, List.getElem?_cons_succ, List.set_cons_zero, List.set_cons_succ, List.replicate_succ, List.replicate_zero, Option.bind_some, if_true, if_false, Bool.true_and, Bool.false_and, Bool.and_true, Bool.not_true, Bool.not_false, decide_true, decide_false, eq_self, Nat.zero_add, Nat.reduceAdd, Nat.reduceSub, reduceIte, reduceCtorEq, Int.reduceEq, Bool.false_eq_true, true_and, and_true, true_or, or_true, decide_eq_true_eq, e1, e2, c, leave_rt, fz_str, take_cons], th_str az (by omega), hb2.mono (by omega)⟩
  · obtain ⟨d, due, z, b2, e2, th, hb2⟩ := other_ok (T := T) hb1 (by omega)
    exact ⟨d, due, z, b2, by simp only [Bd, seqS, setS, retS, retN, dropS, ifS, forS, putS, augS, nxS, bkS, ctS, SR.seq_nx, SR.seq_rt, SR.seq_exc, SR.seq_bk, SR.seq_ct, SR.turn_nx, SR.turn_ct, SR.turn_bk, SR.turn_rt, SR.turn_exc, R.bind_ok, R.bind_bad, R.bind_exc, R.bindN_ok, R.st_ok, R.st_exc,
 varE, cE, binF, tstF, chnF, andB, orB, notB, andV, orV, notV, ifE, nilF, consF, tupF, lstF, ownF, negF, noO, someO, slF, callF, appF, isiF, mthF, itF, itA, nmG, nilG, consG, tupG, yesB, wipeD,
 addD_ii, addD_ss, addD_ll, subD_ii, mulD_ii, mulD_li, mulD_si, fdivD_ii, modD_ii, powD_10_18, ltD_ii, leD_ii, gtD_ii, geD_ii, gtD_ss, ltD_ss, eqD_ii, eqD_ss, eqD_bb, neD_ii, neD_ss, isBD_bb, isND_non, isND_int, isND_str, notND_non, notND_int, notND_str, lenD_s, lenD_l, lenD_r, lenD_t, lenD_c, min2D_ii, max2D_ii, intD_i, intD_b, strD_i, sumD_l, sumD_c, sumD_t, maxD_c, tupleD_l, tupleD_t, tupleD_c, listD_l, listD_t,
 ixD_l, ixD_r, ixD_t, ixD_s, ixD_c, slD_s, slD_l, slD_r, putIx_c, appendD_c, extendD_cl, isTy_c, isTy_s, isTy_l, iaddD, atI_0, atI_1, atI_2, atI_3, atI_4, low_int, low_str, low_bl, low_non, anyI_l, anyI_r, anyI_t, anyI_s, rng1I_i, rng2I_ii, ixN5, set_concat, get_concat, take_concat, len_concat, notInD_cs, inD_cs, sindexD_s, intD_s, tyN_s, tyN_i, tyN_b, tyN_n, tyN_t, tyN_l, tyIs_t, zipI_tt,
 startD, List.map_cons, List.map_nil, List.length_cons, List.length_nil, List.cons_append, List.nil_append, List.getElem?_cons_zero, List.getElem?_cons_succ, List.set_cons_zero, List.set_cons_succ, List.replicate_succ, List.replicate_zero, Option.bind_some, if_true, if_false, Bool.true_and, Bool.false_and, Bool.and_true, Bool.not_true, Bool.not_false, decide_true, decide_false, eq_self, Nat.zero_add, Nat.reduceAdd, Nat.reduceSub, reduceIte, reduceCtorEq, Int.reduceEq, Bool.false_eq_true, true_and, and_true, true_or, or_true, decide_eq_true_eq, e1, e2, leave_rt, th.fr, take_cons], th, hb2.mono (by omega)⟩

/-! ### the law -/
theorem comp_reps {vs : List Nat} {ρ : Nv} {S : Sto} (l : List (D × Bool × Str)) (hl : l.length ≤ 1000) (hi : (itF anyI (varE 2)) ρ S = .ok (l.map (·.1)) S) (hj : 6 < (wipeD ρ vs).length) (h : ∀ a ∈ l, IsTh a.1 a.2.1 a.2.2) :
    compG finF vs (itF anyI (varE 2)) (nmG 6) yesB (appF reprD (consF (varE 6) nilF)) ρ S = .ok (.lst (l.map fun a => D.str a.2.2)) S := by
  unfold compG
  rw [hi, R.bind_ok]
  have go : ∀ (l : List (D × Bool × Str)) (acc : List D), (∀ a ∈ l, IsTh a.1 a.2.1 a.2.2) → acc.length + l.length ≤ 1000000 →
      compL S.length (nmG 6) yesB (appF reprD (consF (varE 6) nilF)) (wipeD ρ vs) (l.map (·.1)) (S ++ [.lst acc]) = .ok () (S ++ [.lst (acc ++ l.map fun a => D.str a.2.2)]) := by
    intro l
    induction l with
    | nil => intro acc _ _; simp [compL]
    | cons a l ih =>
      intro acc ha hz
      rw [List.length_cons] at hz
      have th := ha a List.mem_cons_self
      have hg : ((wipeD ρ vs).set 6 (some a.1))[6]? = some (some a.1) := List.getElem?_set_self hj
      rw [List.map_cons]
      unfold compL
      show (R.ok true (S ++ [Cl.lst acc])).bindN _ = _
      rw [R.bindN_ok, if_pos rfl]
      have he : (appF reprD (consF (varE 6) nilF)) ((wipeD ρ vs).set 6 (some a.1)) (S ++ [.lst acc]) = .ok (.str a.2.2) (S ++ [.lst acc]) := by
        simp only [appF, consF, nilF, varE, hg, R.bind_ok, th.rep]
      rw [he, R.bindN_ok]
      unfold pushC
      rw [get_concat]
      dsimp only
      rw [low_str, decide_eq_true (sizeLine_big (show acc.length + 1 ≤ 1000000 by omega)), if_pos (by rfl), R.bindN_ok, set_concat, ih _ (fun x hx => ha x (List.mem_cons_of_mem _ hx)) (by rw [List.length_append, List.length_singleton]; omega), List.map_cons, List.append_assoc]
      rfl
  rw [go l [] h (by simp; omega), R.bindN_ok, List.nil_append]
  unfold finF
  rw [get_concat]
  dsimp only
  rw [take_concat]
theorem says_ok (a b : Bool) (S : Sto) : F__law_says [.bl a, .bl b] S = .ok (.bl (decide (a = b))) S := by
  unfold F__law_says fnF g__law_says
  simp only [Bd, seqS, setS, retS, retN, dropS, ifS, forS, putS, augS, nxS, bkS, ctS, SR.seq_nx, SR.seq_rt, SR.seq_exc, SR.seq_bk, SR.seq_ct, SR.turn_nx, SR.turn_ct, SR.turn_bk, SR.turn_rt, SR.turn_exc, R.bind_ok, R.bind_bad, R.bind_exc, R.bindN_ok, R.st_ok, R.st_exc,
 varE, cE, binF, tstF, chnF, andB, orB, notB, andV, orV, notV, ifE, nilF, consF, tupF, lstF, ownF, negF, noO, someO, slF, callF, appF, isiF, mthF, itF, itA, nmG, nilG, consG, tupG, yesB, wipeD,
 addD_ii, addD_ss, addD_ll, subD_ii, mulD_ii, mulD_li, mulD_si, fdivD_ii, modD_ii, powD_10_18, ltD_ii, leD_ii, gtD_ii, geD_ii, gtD_ss, ltD_ss, eqD_ii, eqD_ss, eqD_bb, neD_ii, neD_ss, isBD_bb, isND_non, isND_int, isND_str, notND_non, notND_int, notND_str, lenD_s, lenD_l, lenD_r, lenD_t, lenD_c, min2D_ii, max2D_ii, intD_i, intD_b, strD_i, sumD_l, sumD_c, sumD_t, maxD_c, tupleD_l, tupleD_t, tupleD_c, listD_l, listD_t,
 ixD_l, ixD_r, ixD_t, ixD_s, ixD_c, slD_s, slD_l, slD_r, putIx_c, appendD_c, extendD_cl, isTy_c, isTy_s, isTy_l, iaddD, atI_0, atI_1, atI_2, atI_3, atI_4, low_int, low_str, low_bl, low_non, anyI_l, anyI_r, anyI_t, anyI_s, rng1I_i, rng2I_ii, ixN5, set_concat, get_concat, take_concat, len_concat, notInD_cs, inD_cs, sindexD_s, intD_s, tyN_s, tyN_i, tyN_b, tyN_n, tyN_t, tyN_l, tyIs_t, zipI_tt,
 startD, List.map_cons, List.map_nil, List.length_cons, List.length_nil, List.cons_append, List.nil_append, List.getElem?_cons_zero, List.getElem?_cons_succ, List.set_cons_zero, List.set_cons_succ, List.replicate_succ, List.replicate_zero, Option.bind_some, if_true, if_false, Bool.true_and, Bool.false_and, Bool.and_true, Bool.not_true, Bool.not_false, decide_true, decide_false, eq_self, Nat.zero_add, Nat.reduceAdd, Nat.reduceSub, reduceIte, reduceCtorEq, Int.reduceEq, Bool.false_eq_true, true_and, and_true, true_or, or_true, decide_eq_true_eq, leave_rt, fz_bl, List.take_length]
theorem neD_res {z : Str} (b : Bool) (hz : Asc z) (S : Sto) : neD (resT b z) (resT b z) S = .ok (.bl false) S := by
  cases b with
  | true => rfl
  | false =>
    have := neD_dat (S := S) (d := .tup [.bl true, .str z]) (e := .tup [.bl true, .str z]) ((true, z) : Bool × Str) ((true, z) : Bool × Str) rfl rfl (lay_pair (lay_bool _) hz.ok) (lay_pair (lay_bool _) hz.ok) (by decide)
    rw [decide_eq_true rfl] at this
    exact this
noncomputable def whB : SF := (ifS (tstF (binF neD (callF 3 F__law_tried (consF (varE 9) (consF (varE 6) (consF (varE 4) nilF)))) (varE 8))) (retS (cE (.bl false))) nxS)
noncomputable def lawB : SF := (seqS (setS 6 (binF ixD (varE 2) (varE 5)))
  (seqS (setS 7 (callF 1 F__law_is_number (consF (varE 6) nilF)))
  (seqS (ifS (notB (tstF (callF 2 F__law_says (consF (callF 1 F_is_number (consF (varE 6) nilF)) (consF (varE 7) nilF))))) (retS (cE (.bl false))) nxS)
  (seqS (setS 8 (cE .non))
  (seqS (ifS (notB (tstF (varE 7))) (setS 8 (tupF (consF (cE (.bl true)) (consF (binF ixD (varE 3) (varE 5)) nilF)))) nxS)
  (seqS (forS (itA rng1I (consF (cE (.int 4)) nilF)) (nmG 9) whB)
  (seqS (ifS (tstF (binF neD (callF 3 F__law_tried (consF (cE (.int 3)) (consF (varE 4) (consF (varE 6) nilF)))) (varE 8))) (retS (cE (.bl false))) nxS)
  (seqS (setS 10 (binF ixD (varE 2) (binF subD (binF addD (varE 5) (cE (.int 1))) (binF mulD (cE (.int 6)) (appF intD (consF (binF eqD (varE 5) (cE (.int 5))) nilF))))))
  (seqS (ifS (andB (tstF (binF isND (varE 8) (cE .non))) (notB (tstF (callF 1 F__law_is_number (consF (varE 10) nilF))))) (setS 8 (tupF (consF (cE (.bl true)) (consF (appF reprD (consF (varE 10) nilF)) nilF)))) nxS)
  (ifS (tstF (binF neD (callF 3 F__law_tried (consF (cE (.int 3)) (consF (varE 6) (consF (varE 10) nilF)))) (varE 8))) (retS (cE (.bl false))) nxS))))))))))
theorem wh_loop {d g : D} {b : Bool} {z y : Str} (h : IsTh d b z) (hg : IsTh g true y) (r0 r1 r2 r3 r5 r7 r9 r10 : Option D) (S : Sto) :
    ∃ v, forL (nmG 9) whB ((List.range (4 : Int).toNat).map fun k => D.int (0 + (k : Nat))) [r0, r1, r2, r3, some g, r5, some d, r7, some (resT b z), r9, r10] S = .nx [r0, r1, r2, r3, some g, r5, some d, r7, some (resT b z), v, r10] S := by
  have nd := neD_res b h.asc S
  have last : (if b then resT true y else resT false z) = resT b z := by cases b <;> rfl
  have t0 := tried_one (which := 0) (e := g) (.inl rfl) h S
  have t1 := tried_one (which := 1) (e := g) (.inr (.inl rfl)) h S
  have t2 := tried_one (which := 2) (e := g) (.inr (.inr rfl)) h S
  have t3 := tried_two h hg S
  rw [last] at t3
  refine ⟨some (.int 3), ?_⟩
  show forL (nmG 9) whB [D.int 0, D.int 1, D.int 2, D.int 3] _ S = _
  rw [forL_cons (ρ1 := [r0, r1, r2, r3, some g, r5, some d, r7, some (resT b z), some (.int 0), r10]) rfl]
  have b0 : whB [r0, r1, r2, r3, some g, r5, some d, r7, some (resT b z), some (.int 0), r10] S = .nx [r0, r1, r2, r3, some g, r5, some d, r7, some (resT b z), some (.int 0), r10] S := by simp only [Bd, seqS, setS, retS, retN, dropS, ifS, forS, putS, augS, nxS, bkS, ctS, SR.seq_nx, SR.seq_rt, SR.seq_exc, SR.seq_bk, SR.seq_ct, SR.turn_nx, SR.turn_ct, SR.turn_bk, SR.turn_rt, SR.turn_exc, R.bind_ok, R.bind_bad, R.bind_exc, R.bindN_ok, R.st_ok, R.st_exc,
 varE, cE, binF, tstF, chnF, andB, orB, notB, andV, orV, notV, ifE, nilF, consF, tupF, lstF, ownF, negF, noO, someO, slF, callF, appF, isiF, mthF, itF, itA, nmG, nilG, consG, tupG, yesB, wipeD,
 addD_ii, addD_ss, addD_ll, subD_ii, mulD_ii, mulD_li, mulD_si, fdivD_ii, modD_ii, powD_10_18, ltD_ii, leD_ii, gtD_ii, geD_ii, gtD_ss, ltD_ss, eqD_ii, eqD_ss, eqD_bb, neD_ii, neD_ss, isBD_bb, isND_non, isND_int, isND_str, notND_non, notND_int, notND_str, lenD_s, lenD_l, lenD_r, lenD_t, lenD_c, min2D_ii, max2D_ii, intD_i, intD_b, strD_i, sumD_l, sumD_c, sumD_t, maxD_c, tupleD_l, tupleD_t, tupleD_c, listD_l, listD_t,
 ixD_l, ixD_r, ixD_t, ixD_s, ixD_c, slD_s, slD_l, slD_r, putIx_c, appendD_c, extendD_cl, isTy_c, isTy_s, isTy_l, iaddD, atI_0, atI_1, atI_2, atI_3, atI_4, low_int, low_str, low_bl, low_non, anyI_l, anyI_r, anyI_t, anyI_s, rng1I_i, rng2I_ii, ixN5, set_concat, get_concat, take_concat, len_concat, notInD_cs, inD_cs, sindexD_s, intD_s, tyN_s, tyN_i, tyN_b, tyN_n, tyN_t, tyN_l, tyIs_t, zipI_tt,
 startD, List.map_cons, List.map_nil, List.length_cons, List.length_nil, List.cons_append, List.nil_append, List.getElem?_cons_zero, List.getElem?_cons_succ, List.set_cons_zero, List.set_cons_succ, List.replicate_succ, List.replicate_zero, Option.bind_some, if_true, if_false, Bool.true_and, Bool.false_and, Bool.and_true, Bool.not_true, Bool.not_false, decide_true, decide_false, eq_self, Nat.zero_add, Nat.reduceAdd, Nat.reduceSub, reduceIte, reduceCtorEq, Int.reduceEq, Bool.false_eq_true, true_and, and_true, true_or, or_true, decide_eq_true_eq, whB, t0, nd]
  rw [b0, SR.turn_nx, forL_cons (ρ1 := [r0, r1, r2, r3, some g, r5, some d, r7, some (resT b z), some (.int 1), r10]) rfl]
  have b1 : whB [r0, r1, r2, r3, some g, r5, some d, r7, some (resT b z), some (.int 1), r10] S = .nx [r0, r1, r2, r3, some g, r5, some d, r7, some (resT b z), some (.int 1), r10] S := by simp only [Bd, seqS, setS, retS, retN, dropS, ifS, forS, putS, augS, nxS, bkS, ctS, SR.seq_nx, SR.seq_rt, SR.seq_exc, SR.seq_bk, SR.seq_ct, SR.turn_nx, SR.turn_ct, SR.turn_bk, SR.turn_rt, SR.turn_exc, R.bind_ok, R.bind_bad, R.bind_exc, R.bindN_ok, R.st_ok, R.st_exc,
 varE, cE, binF, tstF, chnF, andB, orB, notB, andV, orV, notV, ifE, nilF, consF, tupF, lstF, ownF, negF, noO, someO, slF, callF, appF, isiF, mthF, itF, itA, nmG, nilG, consG, tupG, yesB, wipeD,
 addD_ii, addD_ss, addD_ll, subD_ii, mulD_ii, mulD_li, mulD_si, fdivD_ii, modD_ii, powD_10_18, ltD_ii, leD_ii, gtD_ii, geD_ii, gtD_ss, ltD_ss, eqD_ii, eqD_ss, eqD_bb, neD_ii, neD_ss, isBD_bb, isND_non, isND_int, isND_str, notND_non, notND_int, notND_str, lenD_s, lenD_l, lenD_r, lenD_t, lenD_c, min2D_ii, max2D_ii, intD_i, intD_b, strD_i, sumD_l, sumD_c, sumD_t, maxD_c, tupleD_l, tupleD_t, tupleD_c, listD_l, listD_t,
 ixD_l, ixD_r, ixD_t, ixD_s, ixD_c, slD_s, slD_l, slD_r, putIx_c, appendD_c, extendD_cl, isTy_c, isTy_s, isTy_l, iaddD, atI_0, atI_1, atI_2, atI_3, atI_4, low_int, low_str, low_bl, low_non, anyI_l, anyI_r, anyI_t, anyI_s, rng1I_i, rng2I_ii, ixN5, set_concat, get_concat, take_concat, len_concat, notInD_cs, inD_cs, sindexD_s, intD_s, tyN_s, tyN_i, tyN_b, tyN_n, tyN_t, tyN_l, tyIs_t, zipI_tt,
 startD, List.map_cons, List.map_nil, List.length_cons, List.length_nil, List.cons_append, List.nil_append, List.getElem?_cons_zero, List.getElem?_cons_succ, List.set_cons_zero, List.set_cons_succ, List.replicate_succ, List.replicate_zero, Option.bind_some, if_true, if_false, Bool.true_and, Bool.false_and, Bool.and_true, Bool.not_true, Bool.not_false, decide_true, decide_false, eq_self, Nat.zero_add, Nat.reduceAdd, Nat.reduceSub, reduceIte, reduceCtorEq, Int.reduceEq, Bool.false_eq_true, true_and, and_true, true_or, or_true, decide_eq_true_eq, whB, t1, nd]
  rw [b1, SR.turn_nx, forL_cons (ρ1 := [r0, r1, r2, r3, some g, r5, some d, r7, some (resT b z), some (.int 2), r10]) rfl]
  have b2 : whB [r0, r1, r2, r3, some g, r5, some d, r7, some (resT b z), some (.int 2), r10] S = .nx [r0, r1, r2, r3, some g, r5, some d, r7, some (resT b z), some (.int 2), r10] S := by simp only [Bd, seqS, setS, retS, retN, dropS, ifS, forS, putS, augS, nxS, bkS, ctS, SR.seq_nx, SR.seq_rt, SR.seq_exc, SR.seq_bk, SR.seq_ct, SR.turn_nx, SR.turn_ct, SR.turn_bk, SR.turn_rt, SR.turn_exc, R.bind_ok, R.bind_bad, R.bind_exc, R.bindN_ok, R.st_ok, R.st_exc,
 varE, cE, binF, tstF, chnF, andB, orB, notB, andV, orV, notV, ifE, nilF, consF, tupF, lstF, ownF, negF, noO, someO, slF, callF, appF, isiF, mthF, itF, itA, nmG, nilG, consG, tupG, yesB, wipeD,
 addD_ii, addD_ss, addD_ll, subD_ii, mulD_ii, mulD_li, mulD_si, fdivD_ii, modD_ii, powD_10_18, ltD_ii, leD_ii, gtD_ii, geD_ii, gtD_ss, ltD_ss, eqD_ii, eqD_ss, eqD_bb, neD_ii, neD_ss, isBD_bb, isND_non, isND_int, isND_str, notND_non, notND_int, notND_str, lenD_s, lenD_l, lenD_r, lenD_t, lenD_c, min2D_ii, max2D_ii, intD_i, intD_b, strD_i, sumD_l, sumD_c, sumD_t, maxD_c, tupleD_l, tupleD_t, tupleD_c, listD_l, listD_t,
 ixD_l, ixD_r, ixD_t, ixD_s, ixD_c, slD_s, slD_l, slD_r, putIx_c, appendD_c, extendD_cl, isTy_c, isTy_s, isTy_l, iaddD, atI_0, atI_1, atI_2, atI_3, atI_4, low_int, low_str, low_bl, low_non, anyI_l, anyI_r, anyI_t, anyI_s, rng1I_i, rng2I_ii, ixN5, set_concat, get_concat, take_concat, len_concat, notInD_cs, inD_cs, sindexD_s, intD_s, tyN_s, tyN_i, tyN_b, tyN_n, tyN_t, tyN_l, tyIs_t, zipI_tt,
 startD, List.map_cons, List.map_nil, List.length_cons, List.length_nil, List.cons_append, List.nil_append, List.getElem?_cons_zero, List.getElem?_cons_succ, List.set_cons_zero, List.set_cons_succ, List.replicate_succ, List.replicate_zero, Option.bind_some, if_true, if_false, Bool.true_and, Bool.false_and, Bool.and_true, Bool.not_true, Bool.not_false, decide_true, decide_false, eq_self, Nat.zero_add, Nat.reduceAdd, Nat.reduceSub, reduceIte, reduceCtorEq, Int.reduceEq, Bool.false_eq_true, true_and, and_true, true_or, or_true, decide_eq_true_eq, whB, t2, nd]
  rw [b2, SR.turn_nx, forL_cons (ρ1 := [r0, r1, r2, r3, some g, r5, some d, r7, some (resT b z), some (.int 3), r10]) rfl]
  have b3 : whB [r0, r1, r2, r3, some g, r5, some d, r7, some (resT b z), some (.int 3), r10] S = .nx [r0, r1, r2, r3, some g, r5, some d, r7, some (resT b z), some (.int 3), r10] S := by simp only [Bd, seqS, setS, retS, retN, dropS, ifS, forS, putS, augS, nxS, bkS, ctS, SR.seq_nx, SR.seq_rt, SR.seq_exc, SR.seq_bk, SR.seq_ct, SR.turn_nx, SR.turn_ct, SR.turn_bk, SR.turn_rt, SR.turn_exc, R.bind_ok, R.bind_bad, R.bind_exc, R.bindN_ok, R.st_ok, R.st_exc,
 varE, cE, binF, tstF, chnF, andB, orB, notB, andV, orV, notV, ifE, nilF, consF, tupF, lstF, ownF, negF, noO, someO, slF, callF, appF, isiF, mthF, itF, itA, nmG, nilG, consG, tupG, yesB, wipeD,
 addD_ii, addD_ss, addD_ll, subD_ii, mulD_ii, mulD_li, mulD_si, fdivD_ii, modD_ii, powD_10_18, ltD_ii, leD_ii, gtD_ii, geD_ii, gtD_ss, ltD_ss, eqD_ii, eqD_ss, eqD_bb, neD_ii, neD_ss, isBD_bb, isND_non, isND_int, isND_str, notND_non, notND_int, notND_str, lenD_s, lenD_l, lenD_r, lenD_t, lenD_c, min2D_ii, max2D_ii, intD_i, intD_b, strD_i, sumD_l, sumD_c, sumD_t, maxD_c, tupleD_l, tupleD_t, tupleD_c, listD_l, listD_t,
 ixD_l, ixD_r, ixD_t, ixD_s, ixD_c, slD_s, slD_l, slD_r, putIx_c, appendD_c, extendD_cl, isTy_c, isTy_s, isTy_l, iaddD, atI_0, atI_1, atI_2, atI_3, atI_4, low_int, low_str, low_bl, low_non, anyI_l, anyI_r, anyI_t, anyI_s, rng1I_i, rng2I_ii, ixN5, set_concat, get_concat, take_concat, len_concat, notInD_cs, inD_cs, sindexD_s, intD_s, tyN_s, tyN_i, tyN_b, tyN_n, tyN_t, tyN_l, tyIs_t, zipI_tt,
 startD, List.map_cons, List.map_nil, List.length_cons, List.length_nil, List.cons_append, List.nil_append, List.getElem?_cons_zero, List.getElem?_cons_succ, List.set_cons_zero, List.set_cons_succ, List.replicate_succ, List.replicate_zero, Option.bind_some, if_true, if_false, Bool.true_and, Bool.false_and, Bool.and_true, Bool.not_true, Bool.not_false, decide_true, decide_false, eq_self, Nat.zero_add, Nat.reduceAdd, Nat.reduceSub, reduceIte, reduceCtorEq, Int.reduceEq, Bool.false_eq_true, true_and, and_true, true_or, or_true, decide_eq_true_eq, whB, t3, nd]
  rw [b3, SR.turn_nx]
  rfl
theorem body_ok {ts ks : List D} {d e g : D} {b c : Bool} {z y u : Str} {k : Int} (h : IsTh d b z) (h2 : IsTh e c y) (hg : IsTh g true u) (i1 : atI ts k = some d) (i2 : atI ks k = some (.str z)) (i3 : atI ts (k + 1 - 6 * (if k = 5 then 1 else 0)) = some e) (r0 r1 r6 r7 r8 r9 r10 : Option D) (S : Sto) :
    ∃ x6 x7 x8 x9 x10, lawB [r0, r1, some (.lst ts), some (.lst ks), some g, some (.int k), r6, r7, r8, r9, r10] S = .nx [r0, r1, some (.lst ts), some (.lst ks), some g, some (.int k), x6, x7, x8, x9, x10] S := by
  have s2 : NLe 2 sizeLine := sizeLine_big (by decide)
  have c6 : -(2 ^ 64) < (6 : Int) ∧ (6 : Int) < 2 ^ 64 := by decide
  have r4 : -(2 ^ 62) ≤ (4 : Int) ∧ (4 : Int) < 2 ^ 62 := by decide
  obtain ⟨v, lp⟩ := wh_loop h hg r0 r1 (some (.lst ts)) (some (.lst ks)) (some (.int k)) (some (.bl b)) r9 r10 S
  have t1 := tried_two hg h S
  rw [if_pos rfl] at t1
  have t2 := tried_two h h2 S
  have n1 := neD_res b h.asc S
  have n2 := neD_res c h2.asc S
  have isT : ∀ xs : List D, isND (.tup xs) .non S = .ok (.bl false) S := fun _ => rfl
  have sy : ∀ q : Bool, decide (q = q) = true := fun q => decide_eq_true rfl
  refine ⟨some d, some (.bl b), some (if b then resT c y else resT false z), v, some e, ?_⟩
  cases b with
  | true =>
    cases c with
    | true =>
      simp only [resT, if_true] at lp t1 t2 n1 n2 ⊢
      simp only [Bd, seqS, setS, retS, retN, dropS, ifS, forS, putS, augS, nxS, bkS, ctS, SR.seq_nx, SR.seq_rt, SR.seq_exc, SR.seq_bk, SR.seq_ct, SR.turn_nx, SR.turn_ct, SR.turn_bk, SR.turn_rt, SR.turn_exc, R.bind_ok, R.bind_bad, R.bind_exc, R.bindN_ok, R.st_ok, R.st_exc,
 varE, cE, binF, tstF, chnF, andB, orB, notB, andV, orV, notV, ifE, nilF, consF, tupF, lstF, ownF, negF, noO, someO, slF, callF, appF, isiF, mthF, itF, itA, nmG, nilG, consG, tupG, yesB, wipeD,
 addD_ii, addD_ss, addD_ll, subD_ii, mulD_ii, mulD_li, mulD_si, fdivD_ii, modD_ii, powD_10_18, ltD_ii, leD_ii, gtD_ii, geD_ii, gtD_ss, ltD_ss, eqD_ii, eqD_ss, eqD_bb, neD_ii, neD_ss, isBD_bb, isND_non, isND_int, isND_str, notND_non, notND_int, notND_str, lenD_s, lenD_l, lenD_r, lenD_t, lenD_c, min2D_ii, max2D_ii, intD_i, intD_b, strD_i, sumD_l, sumD_c, sumD_t, maxD_c, tupleD_l, tupleD_t, tupleD_c, listD_l, listD_t,
 ixD_l, ixD_r, ixD_t, ixD_s, ixD_c, slD_s, slD_l, slD_r, putIx_c, appendD_c, extendD_cl, isTy_c, isTy_s, isTy_l, iaddD, atI_0, atI_1, atI_2, atI_3, atI_4, low_int, low_str, low_bl, low_non, anyI_l, anyI_r, anyI_t, anyI_s, rng1I_i, rng2I_ii, ixN5, set_concat, get_concat, take_concat, len_concat, notInD_cs, inD_cs, sindexD_s, intD_s, tyN_s, tyN_i, tyN_b, tyN_n, tyN_t, tyN_l, tyIs_t, zipI_tt,
 startD, List.map_cons, List.map_nil, List.length_cons, List.length_nil, List.cons_append, List.nil_append, List.getElem?_cons_zero, List.getElem?_cons_succ, List.set_cons_zero, List.set_cons_succ, List.replicate_succ, List.replicate_zero, Option.bind_some, if_true, if_false, Bool.true_and, Bool.false_and, Bool.and_true, Bool.not_true, Bool.not_false, decide_true, decide_false, eq_self, Nat.zero_add, Nat.reduceAdd, Nat.reduceSub, reduceIte, reduceCtorEq, Int.reduceEq, Bool.false_eq_true, true_and, and_true, true_or, or_true, decide_eq_true_eq, lawB, i1, h.lis, h.isn, says_ok, sy, r4, lp, t1, n1, c6, i3, h2.lis, t2, n2]
    | false =>
      simp only [resT, if_true, if_false, Bool.false_eq_true] at lp t1 t2 n1 n2 ⊢
      simp only [Bd, seqS, setS, retS, retN, dropS, ifS, forS, putS, augS, nxS, bkS, ctS, SR.seq_nx, SR.seq_rt, SR.seq_exc, SR.seq_bk, SR.seq_ct, SR.turn_nx, SR.turn_ct, SR.turn_bk, SR.turn_rt, SR.turn_exc, R.bind_ok, R.bind_bad, R.bind_exc, R.bindN_ok, R.st_ok, R.st_exc,
 varE, cE, binF, tstF, chnF, andB, orB, notB, andV, orV, notV, ifE, nilF, consF, tupF, lstF, ownF, negF, noO, someO, slF, callF, appF, isiF, mthF, itF, itA, nmG, nilG, consG, tupG, yesB, wipeD,
 addD_ii, addD_ss, addD_ll, subD_ii, mulD_ii, mulD_li, mulD_si, fdivD_ii, modD_ii, powD_10_18, ltD_ii, leD_ii, gtD_ii, geD_ii, gtD_ss, ltD_ss, eqD_ii, eqD_ss, eqD_bb, neD_ii, neD_ss, isBD_bb, isND_non, isND_int, isND_str, notND_non, notND_int, notND_str, lenD_s, lenD_l, lenD_r, lenD_t, lenD_c, min2D_ii, max2D_ii, intD_i, intD_b, strD_i, sumD_l, sumD_c, sumD_t, maxD_c, tupleD_l, tupleD_t, tupleD_c, listD_l, listD_t,
 ixD_l, ixD_r, ixD_t, ixD_s, ixD_c, slD_s, slD_l, slD_r, putIx_c, appendD_c, extendD_cl, isTy_c, isTy_s, isTy_l, iaddD, atI_0, atI_1, atI_2, atI_3, atI_4, low_int, low_str, low_bl, low_non, anyI_l, anyI_r, anyI_t, anyI_s, rng1I_i, rng2I_ii, ixN5, set_concat, get_concat, take_concat, len_concat, notInD_cs, inD_cs, sindexD_s, intD_s, tyN_s, tyN_i, tyN_b, tyN_n, tyN_t, tyN_l, tyIs_t, zipI_tt,
 startD, List.map_cons, List.map_nil, List.length_cons, List.length_nil, List.cons_append, List.nil_append, List.getElem?_cons_zero, List.getElem?_cons_succ, List.set_cons_zero, List.set_cons_succ, List.replicate_succ, List.replicate_zero, Option.bind_some, if_true, if_false, Bool.true_and, Bool.false_and, Bool.and_true, Bool.not_true, Bool.not_false, decide_true, decide_false, eq_self, Nat.zero_add, Nat.reduceAdd, Nat.reduceSub, reduceIte, reduceCtorEq, Int.reduceEq, Bool.false_eq_true, true_and, and_true, true_or, or_true, decide_eq_true_eq, lawB, i1, h.lis, h.isn, says_ok, sy, r4, lp, t1, n1, c6, i3, h2.lis, h2.rep, s2, t2, n2]
  | false =>
    simp only [resT, if_false, Bool.false_eq_true] at lp t1 t2 n1 ⊢
    simp only [Bd, seqS, setS, retS, retN, dropS, ifS, forS, putS, augS, nxS, bkS, ctS, SR.seq_nx, SR.seq_rt, SR.seq_exc, SR.seq_bk, SR.seq_ct, SR.turn_nx, SR.turn_ct, SR.turn_bk, SR.turn_rt, SR.turn_exc, R.bind_ok, R.bind_bad, R.bind_exc, R.bindN_ok, R.st_ok, R.st_exc,
 varE, cE, binF, tstF, chnF, andB, orB, notB, andV, orV, notV, ifE, nilF, consF, tupF, lstF, ownF, negF, noO, someO, slF, callF, appF, isiF, mthF, itF, itA, nmG, nilG, consG, tupG, yesB, wipeD,
 addD_ii, addD_ss, addD_ll, subD_ii, mulD_ii, mulD_li, mulD_si, fdivD_ii, modD_ii, powD_10_18, ltD_ii, leD_ii, gtD_ii, geD_ii, gtD_ss, ltD_ss, eqD_ii, eqD_ss, eqD_bb, neD_ii, neD_ss, isBD_bb, isND_non, isND_int, isND_str, notND_non, notND_int, notND_str, lenD_s, lenD_l, lenD_r, lenD_t, lenD_c, min2D_ii, max2D_ii, intD_i, intD_b, strD_i, sumD_l, sumD_c, sumD_t, maxD_c, tupleD_l, tupleD_t, tupleD_c, listD_l, listD_t,
 ixD_l, ixD_r, ixD_t, ixD_s, ixD_c, slD_s, slD_l, slD_r, putIx_c, appendD_c, extendD_cl, isTy_c, isTy_s, isTy_l, iaddD, atI_0, atI_1, atI_2, atI_3, atI_4, low_int, low_str, low_bl, low_non, anyI_l, anyI_r, anyI_t, anyI_s, rng1I_i, rng2I_ii, ixN5, set_concat, get_concat, take_concat, len_concat, notInD_cs, inD_cs, sindexD_s, intD_s, tyN_s, tyN_i, tyN_b, tyN_n, tyN_t, tyN_l, tyIs_t, zipI_tt,
 startD, List.map_cons, List.map_nil, List.length_cons, List.length_nil, List.cons_append, List.nil_append, List.getElem?_cons_zero, List.getElem?_cons_succ, List.set_cons_zero, List.set_cons_succ, List.replicate_succ, List.replicate_zero, Option.bind_some, if_true, if_false, Bool.true_and, Bool.false_and, Bool.and_true, Bool.not_true, Bool.not_false, decide_true, decide_false, eq_self, Nat.zero_add, Nat.reduceAdd, Nat.reduceSub, reduceIte, reduceCtorEq, Int.reduceEq, Bool.false_eq_true, true_and, and_true, true_or, or_true, decide_eq_true_eq, lawB, i1, i2, h.lis, h.isn, says_ok, sy, s2, r4, lp, t1, n1, c6, i3, isT, t2]

theorem law_true : ∀ (ns : List Int), ns.length ≤ 63 → ∃ S, F_law [.rol (ns.map D.int)] [] = .ok (.bl true) S := by
  intro ns hl
  unfold F_law fnF g_law
  obtain ⟨b0, e0, hb0⟩ := bag_ok ns hl
  have r6 : -(2 ^ 62) ≤ (6 : Int) ∧ (6 : Int) < 2 ^ 62 := by decide
  obtain ⟨l, b1, e1, hlen, hq, hb1⟩ := comp_drawn (2 ^ 48) (vs := [5]) (fi := itA rng1I (consF (cE (.int 6)) nilF)) (g := nmG 5) (fe := callF 1 F__law_thing (consF (varE 1) nilF)) (ρ := [some (.rol (ns.map D.int)), some (.cell 0), none, none, none, none, none, none, none, none, none]) (S := [.lst b0]) (T := []) (bag := b0) (ds := (List.range (6 : Int).toNat).map fun k => D.int (0 + (k : Nat))) 1000 (fun a : D × Bool × Str => a.1) (fun a => IsTh a.1 a.2.1 a.2.2) (by simp only [Bd, seqS, setS, retS, retN, dropS, ifS, forS, putS, augS, nxS, bkS, ctS, SR.seq_nx, SR.seq_rt, SR.seq_exc, SR.seq_bk, SR.seq_ct, SR.turn_nx, SR.turn_ct, SR.turn_bk, SR.turn_rt, SR.turn_exc, R.bind_ok, R.bind_bad, R.bind_exc, R.bindN_ok, R.st_ok, R.st_exc,
 varE, cE, binF, tstF, chnF, andB, orB, notB, andV, orV, notV, ifE, nilF, consF, tupF, lstF, ownF, negF, noO, someO, slF, callF, appF, isiF, mthF, itF, itA, nmG, nilG, consG, tupG, yesB, wipeD,
 addD_ii, addD_ss, addD_ll, subD_ii, mulD_ii, mulD_li, mulD_si, fdivD_ii, modD_ii, powD_10_18, ltD_ii, leD_ii, gtD_ii, geD_ii, gtD_ss, ltD_ss, eqD_ii, eqD_ss, eqD_bb, neD_ii, neD_ss, isBD_bb, isND_non, isND_int, isND_str, notND_non, notND_int, notND_str, lenD_s, lenD_l, lenD_r, lenD_t, lenD_c, min2D_ii, max2D_ii, intD_i, intD_b, strD_i, sumD_l, sumD_c, sumD_t, maxD_c, tupleD_l, tupleD_t, tupleD_c, listD_l, listD_t,
 ixD_l, ixD_r, ixD_t, ixD_s, ixD_c, slD_s, slD_l, slD_r, putIx_c, appendD_c, extendD_cl, isTy_c, isTy_s, isTy_l, iaddD, atI_0, atI_1, atI_2, atI_3, atI_4, low_int, low_str, low_bl, low_non, anyI_l, anyI_r, anyI_t, anyI_s, rng1I_i, rng2I_ii, ixN5, set_concat, get_concat, take_concat, len_concat, notInD_cs, inD_cs, sindexD_s, intD_s, tyN_s, tyN_i, tyN_b, tyN_n, tyN_t, tyN_l, tyIs_t, zipI_tt,
 startD, List.map_cons, List.map_nil, List.length_cons, List.length_nil, List.cons_append, List.nil_append, List.getElem?_cons_zero, List.getElem?_cons_succ, List.set_cons_zero, List.set_cons_succ, List.replicate_succ, List.replicate_zero, Option.bind_some, if_true, if_false, Bool.true_and, Bool.false_and, Bool.and_true, Bool.not_true, Bool.not_false, decide_true, decide_false, eq_self, Nat.zero_add, Nat.reduceAdd, Nat.reduceSub, reduceIte, reduceCtorEq, Int.reduceEq, Bool.false_eq_true, true_and, and_true, true_or, or_true, decide_eq_true_eq, r6]) (fun n a h => h.lo n) hb0 (by decide) (by decide) (fun d m bag acc hb hm => by
    obtain ⟨x, due, z, b3, e3, th, hb3⟩ := thing_ok (T := [] ++ [.lst acc]) hb hm
    exact ⟨[some (.rol (ns.map D.int)), some (.cell 0), none, none, none, some d, none, none, none, none, none], (x, due, z), b3, rfl, by simp only [Bd, seqS, setS, retS, retN, dropS, ifS, forS, putS, augS, nxS, bkS, ctS, SR.seq_nx, SR.seq_rt, SR.seq_exc, SR.seq_bk, SR.seq_ct, SR.turn_nx, SR.turn_ct, SR.turn_bk, SR.turn_rt, SR.turn_exc, R.bind_ok, R.bind_bad, R.bind_exc, R.bindN_ok, R.st_ok, R.st_exc,
 varE, cE, binF, tstF, chnF, andB, orB, notB, andV, orV, notV, ifE, nilF, consF, tupF, lstF, ownF, negF, noO, someO, slF, callF, appF, isiF, mthF, itF, itA, nmG, nilG, consG, tupG, yesB, wipeD,
 addD_ii, addD_ss, addD_ll, subD_ii, mulD_ii, mulD_li, mulD_si, fdivD_ii, modD_ii, powD_10_18, ltD_ii, leD_ii, gtD_ii, geD_ii, gtD_ss, ltD_ss, eqD_ii, eqD_ss, eqD_bb, neD_ii, neD_ss, isBD_bb, isND_non, isND_int, isND_str, notND_non, notND_int, notND_str, lenD_s, lenD_l, lenD_r, lenD_t, lenD_c, min2D_ii, max2D_ii, intD_i, intD_b, strD_i, sumD_l, sumD_c, sumD_t, maxD_c, tupleD_l, tupleD_t, tupleD_c, listD_l, listD_t,
 ixD_l, ixD_r, ixD_t, ixD_s, ixD_c, slD_s, slD_l, slD_r, putIx_c, appendD_c, extendD_cl, isTy_c, isTy_s, isTy_l, iaddD, atI_0, atI_1, atI_2, atI_3, atI_4, low_int, low_str, low_bl, low_non, anyI_l, anyI_r, anyI_t, anyI_s, rng1I_i, rng2I_ii, ixN5, set_concat, get_concat, take_concat, len_concat, notInD_cs, inD_cs, sindexD_s, intD_s, tyN_s, tyN_i, tyN_b, tyN_n, tyN_t, tyN_l, tyIs_t, zipI_tt,
 startD, List.map_cons, List.map_nil, List.length_cons, List.length_nil, List.cons_append, List.nil_append, List.getElem?_cons_zero, List.getElem?_cons_succ, List.set_cons_zero, List.set_cons_succ, List.replicate_succ, List.replicate_zero, Option.bind_some, if_true, if_false, Bool.true_and, Bool.false_and, Bool.and_true, Bool.not_true, Bool.not_false, decide_true, decide_false, eq_self, Nat.zero_add, Nat.reduceAdd, Nat.reduceSub, reduceIte, reduceCtorEq, Int.reduceEq, Bool.false_eq_true, true_and, and_true, true_or, or_true, decide_eq_true_eq]; exact e3, th, hb3⟩)
  have l6 : l.length = 6 := hlen
  have c1 := comp_reps (vs := [6]) (ρ := [some (.rol (ns.map D.int)), some (.cell 0), some (.lst (l.map (·.1))), none, none, none, none, none, none, none, none]) (S := [.lst b1]) l (by omega) rfl (by simp [wipeD]) hq
  obtain ⟨w, b2, e2, hw, hb2⟩ := number_ok (T := []) hb1 (by decide)
  have hg : IsTh (.str (numS w)) true (PyData.str (numS w)).shown := by
    have := th_str (asc_num hw) (by rw [numS_len]; have := hw.few; omega)
    rw [numB_num hw] at this
    exact this
  have loop := forL_inv (g := nmG 5) (body := lawB) (ds := (List.range (6 : Int).toNat).map fun k => D.int (0 + (k : Nat)))
    (fun i ρ S => ∃ x5 x6 x7 x8 x9 x10, ρ = [some (.rol (ns.map D.int)), some (.cell 0), some (.lst (l.map (·.1))), some (.lst (l.map fun a => D.str a.2.2)), some (.str (numS w)), x5, x6, x7, x8, x9, x10] ∧ S = [.lst b2])
    (fun i d ρ S hd hP => by
      obtain ⟨x5, x6, x7, x8, x9, x10, rfl, rfl⟩ := hP
      have hi : i < 6 := by
        have := (List.getElem?_eq_some_iff.mp hd).1
        simpa using this
      have hd' : d = D.int (0 + (i : Nat)) := by
        rw [List.getElem?_map, List.getElem?_range (show i < (6 : Int).toNat from hi)] at hd
        cases hd; rfl
      subst hd'
      rw [Int.zero_add]
      have at1 : l[i]? = some (l[i]'(by omega)) := List.getElem?_eq_getElem (by omega)
      obtain ⟨j, hj, ej⟩ : ∃ j : Nat, j < 6 ∧ ((i : Nat) : Int) + 1 - 6 * (if ((i : Nat) : Int) = 5 then 1 else 0) = (j : Nat) := by
        by_cases h5 : i = 5
        · subst h5; exact ⟨0, by omega, by simp⟩
        · refine ⟨i + 1, by omega, ?_⟩
          rw [if_neg (by omega)]; omega
      have at2 : l[j]? = some (l[j]'(by omega)) := List.getElem?_eq_getElem (by omega)
      obtain ⟨y6, y7, y8, y9, y10, e⟩ := body_ok (ts := l.map (·.1)) (ks := l.map fun a => D.str a.2.2) (hq _ (List.getElem_mem (show i < l.length by omega))) (hq _ (List.getElem_mem (show j < l.length by omega))) hg
        (k := (i : Nat)) (atI_nat (by rw [List.getElem?_map, at1]; rfl)) (atI_nat (by rw [List.getElem?_map, at1]; rfl)) (by rw [ej]; exact atI_nat (by rw [List.getElem?_map, at2]; rfl)) (some (.rol (ns.map D.int))) (some (.cell 0)) x6 x7 x8 x9 x10 [.lst b2]
      exact ⟨_, _, _, rfl, .inl e, some (.int (i : Nat)), y6, y7, y8, y9, y10, rfl, rfl⟩)
    [some (.rol (ns.map D.int)), some (.cell 0), some (.lst (l.map (·.1))), some (.lst (l.map fun a => D.str a.2.2)), some (.str (numS w)), none, none, none, none, none, none] [.lst b2]
    ⟨none, none, none, none, none, none, rfl, rfl⟩
  obtain ⟨ρ2, S2, e3, x5, x6, x7, x8, x9, x10, rfl, rfl⟩ := loop
  unfold lawB whB at e3
  have c2 := comp_reps (vs := [6]) (ρ := [some (.rol (ns.map D.int)), some (.cell 0), some (.lst (l.map (·.1))), some (.lst (l.map fun a => D.str a.2.2)), some (.str (numS w)), x5, x6, x7, x8, x9, x10]) (S := [.lst b2]) l (by omega) rfl (by simp [wipeD]) hq
  have eqk : eqD (.lst (l.map fun a => D.str a.2.2)) (.lst (l.map fun a => D.str a.2.2)) [.lst b2] = .ok (.bl true) [.lst b2] := by
    have := eqD_dat (S := [.lst b2]) (d := .lst (l.map fun a => D.str a.2.2)) (e := .lst (l.map fun a => D.str a.2.2)) (l.map fun a => a.2.2) (l.map fun a => a.2.2) (by show _ = D.lst ((l.map fun a => a.2.2).map D.str); rw [List.map_map]; rfl) (by show _ = D.lst ((l.map fun a => a.2.2).map D.str); rw [List.map_map]; rfl)
      (lay_list fun z hz => by obtain ⟨a, ha, rfl⟩ := List.mem_map.mp hz; exact (hq a ha).asc.ok) (lay_list fun z hz => by obtain ⟨a, ha, rfl⟩ := List.mem_map.mp hz; exact (hq a ha).asc.ok) (by decide)
    rw [decide_eq_true rfl] at this
    exact this
  refine ⟨[], ?_⟩
  simp only [Bd, seqS, setS, retS, retN, dropS, ifS, forS, putS, augS, nxS, bkS, ctS, SR.seq_nx, SR.seq_rt, SR.seq_exc, SR.seq_bk, SR.seq_ct, SR.turn_nx, SR.turn_ct, SR.turn_bk, SR.turn_rt, SR.turn_exc, R.bind_ok, R.bind_bad, R.bind_exc, R.bindN_ok, R.st_ok, R.st_exc,
 varE, cE, binF, tstF, chnF, andB, orB, notB, andV, orV, notV, ifE, nilF, consF, tupF, lstF, ownF, negF, noO, someO, slF, callF, appF, isiF, mthF, itF, itA, nmG, nilG, consG, tupG, yesB, wipeD,
 addD_ii, addD_ss, addD_ll, subD_ii, mulD_ii, mulD_li, mulD_si, fdivD_ii, modD_ii, powD_10_18, ltD_ii, leD_ii, gtD_ii, geD_ii, gtD_ss, ltD_ss, eqD_ii, eqD_ss, eqD_bb, neD_ii, neD_ss, isBD_bb, isND_non, isND_int, isND_str, notND_non, notND_int, notND_str, lenD_s, lenD_l, lenD_r, lenD_t, lenD_c, min2D_ii, max2D_ii, intD_i, intD_b, strD_i, sumD_l, sumD_c, sumD_t, maxD_c, tupleD_l, tupleD_t, tupleD_c, listD_l, listD_t,
 ixD_l, ixD_r, ixD_t, ixD_s, ixD_c, slD_s, slD_l, slD_r, putIx_c, appendD_c, extendD_cl, isTy_c, isTy_s, isTy_l, iaddD, atI_0, atI_1, atI_2, atI_3, atI_4, low_int, low_str, low_bl, low_non, anyI_l, anyI_r, anyI_t, anyI_s, rng1I_i, rng2I_ii, ixN5, set_concat, get_concat, take_concat, len_concat, notInD_cs, inD_cs, sindexD_s, intD_s, tyN_s, tyN_i, tyN_b, tyN_n, tyN_t, tyN_l, tyIs_t, zipI_tt,
 startD, List.map_cons, List.map_nil, List.length_cons, List.length_nil, List.cons_append, List.nil_append, List.getElem?_cons_zero, List.getElem?_cons_succ, List.set_cons_zero, List.set_cons_succ, List.replicate_succ, List.replicate_zero, Option.bind_some, if_true, if_false, Bool.true_and, Bool.false_and, Bool.and_true, Bool.not_true, Bool.not_false, decide_true, decide_false, eq_self, Nat.zero_add, Nat.reduceAdd, Nat.reduceSub, reduceIte, reduceCtorEq, Int.reduceEq, Bool.false_eq_true, true_and, and_true, true_or, or_true, decide_eq_true_eq, e0, e1, c1, e2, r6, e3, c2, eqk, leave_rt, fz_bl, List.take_zero]

end Pr
open PySem PySem.W PyProof.Rows in
set_option maxRecDepth 100000 in
set_option maxHeartbeats 0 in
theorem PySem.Challenge.cw_wheelchorus_k00_what_is_a_number_holds : PySem.Challenge.rw_wheelchorus_k00_what_is_a_number.Holds := by
  w_on; o_law; k_head; (case hw => w_witness2)
  k_fill
  refine Pr.walk (l := PySem.Challenge.rw_wheelchorus_k00_what_is_a_number) rfl rfl (fun w h Y => PySem.W.kIn_of Y) ?F
  case F =>
    intro w mg fa h KX G hmg
    refine' Pr.all_mk Pr.law_true KX G hmg ?a0 ?l0 ?c0 ?k0 ?a1 ?l1 ?c1 ?k1 ?a2 ?l2 ?c2 ?k2 ?a3 ?l3 ?c3 ?k3 ?a4 ?l4 ?c4 ?k4 ?a5 ?l5 ?c5 ?k5 ?a6 ?l6 ?c6 ?k6 ?a7 ?l7 ?c7 ?k7 ?a8 ?l8 ?c8 ?k8 ?a9 ?l9 ?c9 ?k9 ?a10 ?l10 ?c10 ?k10 ?a11 ?l11 ?c11 ?k11 ?a12 ?l12 ?c12 ?k12 ?a13 ?l13 ?c13 ?k13 ?a14 ?l14 ?c14 ?k14 ?a15 ?l15 ?c15 ?k15 ?a16 ?l16 ?c16 ?k16 ?a17 ?l17 ?c17 ?k17 ?z_ValueError ?z_bool ?z_int ?z_isinstance ?z_len ?z_min ?z_range ?z_repr ?z_str ?z_sum ?z_tuple ?z_zip ?y_DIGITS ?y_MOST_DIGITS ?y_MOST_STROKES ?qc_WheelError ?lc_WheelError ?vc_WheelError ?sa_WheelError ?sx_WheelError ?ty_WheelError ?kx_WheelError ?ga_WheelError ?gg_WheelError ?hd_WheelError ?ca_WheelError ?mo_WheelError ?rb_WheelError ?gb_WheelError ?vb_WheelError ?qc_BadNumber ?lc_BadNumber ?vc_BadNumber ?sa_BadNumber ?sx_BadNumber ?ty_BadNumber ?kx_BadNumber ?ga_BadNumber ?gg_BadNumber ?hd_BadNumber ?ca_BadNumber ?mo_BadNumber ?fi_BadNumber ?ti_BadNumber ?li_BadNumber ?ci_BadNumber ?ki_BadNumber ?ff_BadNumber_number ?sv_BadNumber ?qc_BadOffset ?lc_BadOffset ?vc_BadOffset ?sa_BadOffset ?sx_BadOffset ?ty_BadOffset ?kx_BadOffset ?ga_BadOffset ?gg_BadOffset ?hd_BadOffset ?ca_BadOffset ?mo_BadOffset ?su_BadNumber_BadNumber ?su_BadNumber_BadOffset ?su_BadNumber_WheelError ?on_ ?ot_
    (case a0 => k_is)
    (case l0 => k_is)
    (case c0 => k_is)
    (case k0 => k_is)
    (case a1 => k_is)
    (case l1 => k_is)
    (case c1 => k_is)
    (case k1 => k_is)
    (case a2 => k_is)
    (case l2 => k_is)
    (case c2 => k_is)
    (case k2 => k_is)
    (case a3 => k_is)
    (case l3 => k_is)
    (case c3 => k_is)
    (case k3 => k_is)
    (case a4 => k_is)
    (case l4 => k_is)
    (case c4 => k_is)
    (case k4 => k_is)
    (case a5 => k_is)
    (case l5 => k_is)
    (case c5 => k_is)
    (case k5 => k_is)
    (case a6 => k_is)
    (case l6 => k_is)
    (case c6 => k_is)
    (case k6 => k_is)
    (case a7 => k_is)
    (case l7 => k_is)
    (case c7 => k_is)
    (case k7 => k_is)
    (case a8 => k_is)
    (case l8 => k_is)
    (case c8 => k_is)
    (case k8 => k_is)
    (case a9 => k_is)
    (case l9 => k_is)
    (case c9 => k_is)
    (case k9 => k_is)
    (case a10 => k_is)
    (case l10 => k_is)
    (case c10 => k_is)
    (case k10 => k_is)
    (case a11 => k_is)
    (case l11 => k_is)
    (case c11 => k_is)
    (case k11 => k_is)
    (case a12 => k_is)
    (case l12 => k_is)
    (case c12 => k_is)
    (case k12 => k_is)
    (case a13 => k_is)
    (case l13 => k_is)
    (case c13 => k_is)
    (case k13 => k_is)
    (case a14 => k_is)
    (case l14 => k_is)
    (case c14 => k_is)
    (case k14 => k_is)
    (case a15 => k_is)
    (case l15 => k_is)
    (case c15 => k_is)
    (case k15 => k_is)
    (case a16 => k_is)
    (case l16 => k_is)
    (case c16 => k_is)
    (case k16 => k_is)
    (case a17 => k_is)
    (case l17 => k_is)
    (case c17 => k_is)
    (case k17 => k_is)
    (case z_ValueError => k_is)
    (case z_bool => k_is)
    (case z_int => k_is)
    (case z_isinstance => k_is)
    (case z_len => k_is)
    (case z_min => k_is)
    (case z_range => k_is)
    (case z_repr => k_is)
    (case z_str => k_is)
    (case z_sum => k_is)
    (case z_tuple => k_is)
    (case z_zip => k_is)
    (case y_DIGITS => k_is)
    (case y_MOST_DIGITS => k_is)
    (case y_MOST_STROKES => k_is)
    (case qc_WheelError => k_is)
    (case lc_WheelError => k_is)
    (case vc_WheelError => rfl)
    (case sa_WheelError => k_is)
    (case sx_WheelError => k_is)
    (case ty_WheelError => k_is)
    (case kx_WheelError => k_is)
    (case ga_WheelError => k_is)
    (case gg_WheelError => k_is)
    (case hd_WheelError => k_is)
    (case ca_WheelError => k_is)
    (case mo_WheelError => k_is)
    (case rb_WheelError => k_is)
    (case gb_WheelError => k_is)
    (case vb_WheelError => k_is)
    (case qc_BadNumber => k_is)
    (case lc_BadNumber => k_is)
    (case vc_BadNumber => rfl)
    (case sa_BadNumber => k_is)
    (case sx_BadNumber => k_is)
    (case ty_BadNumber => k_is)
    (case kx_BadNumber => k_is)
    (case ga_BadNumber => k_is)
    (case gg_BadNumber => k_is)
    (case hd_BadNumber => k_is)
    (case ca_BadNumber => k_is)
    (case mo_BadNumber => k_is)
    (case fi_BadNumber => k_is)
    (case ti_BadNumber => k_is)
    (case li_BadNumber => k_is)
    (case ci_BadNumber => k_is)
    (case ki_BadNumber => k_is)
    (case ff_BadNumber_number => k_is)
    (case sv_BadNumber => k_is)
    (case qc_BadOffset => k_is)
    (case lc_BadOffset => k_is)
    (case vc_BadOffset => rfl)
    (case sa_BadOffset => k_is)
    (case sx_BadOffset => k_is)
    (case ty_BadOffset => k_is)
    (case kx_BadOffset => k_is)
    (case ga_BadOffset => k_is)
    (case gg_BadOffset => k_is)
    (case hd_BadOffset => k_is)
    (case ca_BadOffset => k_is)
    (case mo_BadOffset => k_is)
    (case su_BadNumber_BadNumber => k_is)
    (case su_BadNumber_BadOffset => k_is)
    (case su_BadNumber_WheelError => k_is)
    (case on_ => k_is)
    (case ot_ => k_is)

#print axioms PySem.Challenge.cw_wheelchorus_k00_what_is_a_number_holds
