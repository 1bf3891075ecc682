import PyProof.Rows.All
import Wide.All
import OpenK.AllK
import Wide.FinOn
import HandS.ForMost
import HandS.ForExc
import HandS.ExcInit
import HandS.ExcIs
import HandS.ExcField
import HandS.IsInst
import HandS.Wide
import HandS.Comp
import HandS.StrMore
import HandS.TupAny
import HandS.Style
import HandS.CallSlots
import HandS.Zip
import KE.KTupSum
import KE.Datum
import HandS.ClsMeth
import HandS.MakeKwOnly
import HandS.Property
import HandS.SlotsOwn
import KE.KOpsOwn
import HandS.Strs
import HandS.SetFor
import HandS.SortInts
import HandS.DictComp
import HandS.IterVal
import HandS.OwnIter
import HandS.MakeKw
import KE.IntTextLaws
import PyProof.Rows.StrDigitsNeg
import KE.GoesEnum
import PySem.Challenge.RW_wheelchorus_k05_patterns_tick_by_tick
set_option Elab.async false
set_option linter.all false
set_option maxRecDepth 100000
set_option maxHeartbeats 4000000
/-! Zd, the data layer: plain data D, how values stand for it, results, the relation of the states. -/
namespace Zd
open PySem PySem.Spec PyProof.Rows L2

inductive D where
  | non | bl (b : Bool) | int (i : Int) | str (s : Str)
  | tup (xs : List D) | lst (xs : List D) | rol (xs : List D)
  | cell (n : Nat)
  | obj (c : Str) (ks : List Str) (xs : List D)
  | dic (ks : List Key) (xs : List D)
  | exn (c : Str) (ks : List Str) (xs : List D)
  | junk

/-- what the text has: the written part, the module's names; the exception that a suite holds -/
structure Wd where
  K : PySem.W.Frag
  mg : Str → Option Value
  xi : Option (Addr × Value × Option Addr)

mutual
inductive Rp (W : Wd) (ms : List Addr) (G : Hp) : V → D → Prop
  | non : Rp W ms G .non .non
  | bl (b : Bool) : Rp W ms G (.bl b) (.bl b)
  | int (i : Int) : Rp W ms G (.int i) (.int i)
  | str (s : Str) : Rp W ms G (.str s) (.str s)
  | tup {a : Addr} {vs : List V} {ds : List D} : SqT W.K G a vs → RpL W ms G vs ds → Rp W ms G (.ref a) (.tup ds)
  | lst {a : Addr} {vs : List V} {ds : List D} : G a = some (.lst vs) → RpL W ms G vs ds → Rp W ms G (.ref a) (.lst ds)
  | rol {a : Addr} {vs : List V} {ds : List D} : SqL W.K G a vs → RpL W ms G vs ds → Rp W ms G (.ref a) (.rol ds)
  | cell {a : Addr} {n : Nat} : ms[n]? = some a → Rp W ms G (.ref a) (.cell n)
  | obj {a C dx : Addr} {c : Str} {ks : List Str} {vs : List V} {ds : List D} : W.mg c = some (.ref C) → G a = some (.ins C dx (ks.zip vs)) → ks.length = vs.length → RpL W ms G vs ds → Rp W ms G (.ref a) (.obj c ks ds)
  | dic {a : Addr} {ks : List Key} {vs : List V} {ds : List D} : G a = some (.dK (ks.zip vs)) → ks.length = vs.length → RpL W ms G vs ds → Rp W ms G (.ref a) (.dic ks ds)
  | exn {a C dd : Addr} {c : Str} {ks : List Str} {vs : List V} {ds : List D} : W.xi = some (a, .ref C, some dd) → W.mg c = some (.ref C) → G dd = some (.xd (ks.zip vs)) → ks.length = vs.length → RpL W ms G vs ds → Rp W ms G (.ref a) (.exn c ks ds)
  | junk (v : V) : Rp W ms G v .junk
inductive RpL (W : Wd) (ms : List Addr) (G : Hp) : List V → List D → Prop
  | nil : RpL W ms G [] []
  | cons {v : V} {vs : List V} {d : D} {ds : List D} : Rp W ms G v d → RpL W ms G vs ds → RpL W ms G (v :: vs) (d :: ds)
end

theorem Same.sqT {K : PySem.W.Frag} {H H' : Hp} {a : Addr} {xs : List V} (e : Same H H') (h : SqT K H a xs) : SqT K H' a xs := by
  rcases h with (h | ⟨o, h⟩) | h
  · exact .inl (.inl (e _ _ h))
  · exact .inl (.inr ⟨o, e _ _ h⟩)
  · exact .inr h

section
variable {W W' : Wd} {ms ms' : List Addr} {G G' : Hp}
theorem pre_get {l : List Addr} {n : Nat} {a : Addr} (h : ms[n]? = some a) : (ms ++ l)[n]? = some a := by
  rw [List.getElem?_append_left (List.getElem?_eq_some_iff.mp h).1]; exact h
mutual
theorem Rp.mono (hm : ∃ l, ms' = ms ++ l) (hs : Same G G') (hx : W.xi = none ∨ W'.xi = W.xi) (hK : W'.K = W.K) (hg : W'.mg = W.mg) : ∀ (d : D) (v : V), Rp W ms G v d → Rp W' ms' G' v d
  | .non, _, h => by cases h; exact .non
  | .bl _, _, h => by cases h; exact .bl _
  | .int _, _, h => by cases h; exact .int _
  | .str _, _, h => by cases h; exact .str _
  | .tup ds, _, h => by cases h with | tup a b => exact .tup (by rw [hK]; exact Same.sqT hs a) (RpL.mono hm hs hx hK hg ds _ b)
  | .lst ds, _, h => by cases h with | lst a b => exact .lst (hs _ _ a) (RpL.mono hm hs hx hK hg ds _ b)
  | .rol ds, _, h => by cases h with | rol a b => exact .rol (by rw [hK]; exact Same.seq hs a) (RpL.mono hm hs hx hK hg ds _ b)
  | .cell n, _, h => by cases h with | cell a => obtain ⟨l, rfl⟩ := hm; exact .cell (pre_get a)
  | .obj c ks ds, _, h => by cases h with | obj a b e r => exact .obj (by rw [hg]; exact a) (hs _ _ b) e (RpL.mono hm hs hx hK hg ds _ r)
  | .dic ks ds, _, h => by cases h with | dic b e r => exact .dic (hs _ _ b) e (RpL.mono hm hs hx hK hg ds _ r)
  | .exn c ks ds, _, h => by
    cases h with
    | exn x a b e r =>
      refine .exn ?_ (by rw [hg]; exact a) (hs _ _ b) e (RpL.mono hm hs hx hK hg ds _ r)
      rcases hx with q | q
      · rw [q] at x; cases x
      · rw [q]; exact x
  | .junk, _, _ => .junk _
theorem RpL.mono (hm : ∃ l, ms' = ms ++ l) (hs : Same G G') (hx : W.xi = none ∨ W'.xi = W.xi) (hK : W'.K = W.K) (hg : W'.mg = W.mg) : ∀ (ds : List D) (vs : List V), RpL W ms G vs ds → RpL W' ms' G' vs ds
  | [], _, h => by cases h; exact .nil
  | d :: ds, _, h => by cases h with | cons a b => exact .cons (Rp.mono hm hs hx hK hg d _ a) (RpL.mono hm hs hx hK hg ds _ b)
end
end

mutual
def low (n : Nat) : D → Bool
  | .tup xs => lowL n xs
  | .lst xs => lowL n xs
  | .rol xs => lowL n xs
  | .cell m => decide (m < n)
  | .obj _ _ xs => lowL n xs
  | .dic _ xs => lowL n xs
  | .exn _ _ xs => lowL n xs
  | _ => true
def lowL (n : Nat) : List D → Bool
  | [] => true
  | d :: ds => low n d && lowL n ds
end

section
variable {W : Wd} {ms : List Addr} {G : Hp}
mutual
theorem Rp.take {n : Nat} : ∀ (d : D) (v : V), low n d = true → Rp W ms G v d → Rp W (ms.take n) G v d
  | .non, _, _, h => by cases h; exact .non
  | .bl _, _, _, h => by cases h; exact .bl _
  | .int _, _, _, h => by cases h; exact .int _
  | .str _, _, _, h => by cases h; exact .str _
  | .tup ds, _, l, h => by cases h with | tup a b => exact .tup a (RpL.take ds _ l b)
  | .lst ds, _, l, h => by cases h with | lst a b => exact .lst a (RpL.take ds _ l b)
  | .rol ds, _, l, h => by cases h with | rol a b => exact .rol a (RpL.take ds _ l b)
  | .cell m, _, l, h => by
    cases h with
    | cell a =>
      have q : m < n := of_decide_eq_true l
      exact .cell (by rw [List.getElem?_take_of_lt q]; exact a)
  | .obj c ks ds, _, l, h => by cases h with | obj a b e r => exact .obj a b e (RpL.take ds _ l r)
  | .dic ks ds, _, l, h => by cases h with | dic b e r => exact .dic b e (RpL.take ds _ l r)
  | .exn c ks ds, _, l, h => by cases h with | exn x a b e r => exact .exn x a b e (RpL.take ds _ l r)
  | .junk, _, _, _ => .junk _
theorem RpL.take {n : Nat} : ∀ (ds : List D) (vs : List V), lowL n ds = true → RpL W ms G vs ds → RpL W (ms.take n) G vs ds
  | [], _, _, h => by cases h; exact .nil
  | d :: ds, _, l, h => by
    cases h with
    | cons a b =>
      have q := Bool.and_eq_true_iff.mp l
      exact .cons (Rp.take d _ q.1 a) (RpL.take ds _ q.2 b)
end
theorem RpL.length : ∀ {ds : List D} {vs : List V}, RpL W ms G vs ds → vs.length = ds.length
  | [], _, h => by cases h; rfl
  | d :: ds, _, h => by cases h with | cons a b => simp [RpL.length b]
theorem RpL.get : ∀ {ds : List D} {vs : List V} {i : Nat} {d : D}, RpL W ms G vs ds → ds[i]? = some d → ∃ v, vs[i]? = some v ∧ Rp W ms G v d
  | [], _, _, _, _, e => by simp at e
  | _ :: _, _, 0, _, h, e => by cases h with | cons a b => simp at e; subst e; exact ⟨_, rfl, a⟩
  | _ :: _, _, i + 1, _, h, e => by
    cases h with
    | cons a b =>
      obtain ⟨v, h1, h2⟩ := RpL.get b (i := i) (by simpa using e)
      exact ⟨v, by simpa using h1, h2⟩
theorem RpL.get' {ds : List D} {vs : List V} {i : Nat} {v : V} (h : RpL W ms G vs ds) (e : vs[i]? = some v) : ∃ d, ds[i]? = some d ∧ Rp W ms G v d := by
  have hl := h.length
  have hi : i < ds.length := by rw [← hl]; exact (List.getElem?_eq_some_iff.mp e).1
  obtain ⟨u, h1, h2⟩ := h.get (List.getElem?_eq_getElem hi)
  rw [e] at h1; cases h1
  exact ⟨_, List.getElem?_eq_getElem hi, h2⟩
theorem RpL.append : ∀ {ds es : List D} {vs us : List V}, RpL W ms G vs ds → RpL W ms G us es → RpL W ms G (vs ++ us) (ds ++ es)
  | [], _, _, _, h, k => by cases h; exact k
  | _ :: _, _, _, _, h, k => by cases h with | cons a b => exact .cons a (RpL.append b k)
theorem RpL.set {d : D} {v : V} (r : Rp W ms G v d) : ∀ {ds : List D} {vs : List V} (i : Nat), RpL W ms G vs ds → RpL W ms G (vs.set i v) (ds.set i d)
  | [], _, _, h => by cases h; exact .nil
  | _ :: _, _, 0, h => by cases h with | cons a b => exact .cons r b
  | _ :: _, _, i + 1, h => by cases h with | cons a b => exact .cons a (RpL.set r i b)
theorem RpL.takeN : ∀ {ds : List D} {vs : List V} (n : Nat), RpL W ms G vs ds → RpL W ms G (vs.take n) (ds.take n)
  | _, _, 0, _ => by simp; exact .nil
  | [], _, _ + 1, h => by cases h; exact .nil
  | _ :: _, _, n + 1, h => by cases h with | cons a b => exact .cons a (RpL.takeN n b)
theorem RpL.drop : ∀ {ds : List D} {vs : List V} (n : Nat), RpL W ms G vs ds → RpL W ms G (vs.drop n) (ds.drop n)
  | _, _, 0, h => h
  | [], _, _ + 1, h => by cases h; exact .nil
  | _ :: _, _, n + 1, h => by cases h with | cons a b => exact RpL.drop n b
theorem RpL.rep {d : D} {v : V} (r : Rp W ms G v d) : ∀ n, RpL W ms G (List.replicate n v) (List.replicate n d)
  | 0 => .nil
  | n + 1 => .cons r (RpL.rep r n)
theorem RpL.map {α : Type} {f : α → V} {g : α → D} (h : ∀ a, Rp W ms G (f a) (g a)) : ∀ l : List α, RpL W ms G (l.map f) (l.map g)
  | [] => .nil
  | a :: l => .cons (h a) (RpL.map h l)
theorem RpL.reverse {ds : List D} {vs : List V} (h : RpL W ms G vs ds) : RpL W ms G vs.reverse ds.reverse := by
  induction ds generalizing vs with
  | nil => cases h; exact .nil
  | cons d ds ih =>
    cases h with
    | cons a b =>
      rw [List.reverse_cons, List.reverse_cons]
      exact RpL.append (ih b) (.cons a .nil)
/-- the ints, texts of it -/
theorem RpL.ints {vs : List V} : ∀ {ns : List Int}, RpL W ms G vs (ns.map D.int) → vs = ns.map V.int := by
  induction vs with
  | nil => intro ns h; cases ns with | nil => rfl | cons a b => cases h
  | cons v vs ih =>
    intro ns h
    cases ns with
    | nil => cases h
    | cons a b => cases h with | cons x y => cases x; rw [ih y]; rfl
end

/-! ### the owned objects -/
inductive Cl where
  | lst (xs : List D) | obj (c : Str) (ks : List Str) (xs : List D) | dic (ks : List Key) (xs : List D) | dead
abbrev Sto := List Cl
abbrev Nv := List (Option D)

def era (ms : List Addr) (H : Hp) : Hp := fun a => if a ∈ ms then none else H a
theorem era_in {ms : List Addr} {H : Hp} {a : Addr} (h : a ∈ ms) : era ms H a = none := if_pos h
theorem era_out {ms : List Addr} {H : Hp} {a : Addr} (h : a ∉ ms) : era ms H a = H a := if_neg h
theorem era_same (ms : List Addr) (H : Hp) : Same (era ms H) H := fun a o e => by
  by_cases h : a ∈ ms
  · rw [era_in h] at e; cases e
  · rw [era_out h] at e; exact e
theorem era_nil (H : Hp) : era [] H = H := funext fun a => if_neg (by simp)

def CellOk (W : Wd) (ms : List Addr) (n : Nat) (H : Hp) (a : Addr) : Cl → Prop
  | .lst ds => ∃ vs, H a = some (.lst vs) ∧ RpL W (ms.take n) (era ms H) vs ds
  | .obj c ks ds => ∃ C dx vs, W.mg c = some (.ref C) ∧ H a = some (.ins C dx (ks.zip vs)) ∧ ks.length = vs.length ∧ RpL W (ms.take n) (era ms H) vs ds
  | .dic ks ds => ∃ vs, H a = some (.dK (ks.zip vs)) ∧ ks.length = vs.length ∧ RpL W (ms.take n) (era ms H) vs ds
  | .dead => ∃ o, H a = some o

structure StOk (W : Wd) (ms : List Addr) (S : Sto) (H : Hp) : Prop where
  nd : ms.Nodup
  len : ms.length = S.length
  cell : ∀ n a c, ms[n]? = some a → S[n]? = some c → CellOk W ms n H a c

structure Fut (ms : List Addr) (H : Hp) (ms' : List Addr) (H' : Hp) : Prop where
  ext : ∃ l, ms' = ms ++ l
  same : Same (era ms H) (era ms' H')
theorem Fut.refl (ms : List Addr) (H : Hp) : Fut ms H ms H := ⟨⟨[], by simp⟩, Same.refl _⟩
theorem Fut.trans {ms ms1 ms2 : List Addr} {H H1 H2 : Hp} (a : Fut ms H ms1 H1) (b : Fut ms1 H1 ms2 H2) : Fut ms H ms2 H2 := by
  obtain ⟨⟨l, rfl⟩, s⟩ := a
  obtain ⟨⟨k, rfl⟩, t⟩ := b
  exact ⟨⟨l ++ k, by rw [List.append_assoc]⟩, s.trans t⟩

section
variable {W : Wd} {ms ms' : List Addr} {H H' : Hp} {S S' : Sto}
theorem Rp.fut {v : V} {d : D} (h : Rp W ms (era ms H) v d) (f : Fut ms H ms' H') : Rp W ms' (era ms' H') v d := Rp.mono f.ext f.same (.inr rfl) rfl rfl d v h
theorem RpL.fut {v : List V} {d : List D} (h : RpL W ms (era ms H) v d) (f : Fut ms H ms' H') : RpL W ms' (era ms' H') v d := RpL.mono f.ext f.same (.inr rfl) rfl rfl d v h

theorem StOk.at (s : StOk W ms S H) {n : Nat} {a : Addr} (h : ms[n]? = some a) : ∃ c, S[n]? = some c ∧ CellOk W ms n H a c := by
  have hn : n < S.length := by rw [← s.len]; exact (List.getElem?_eq_some_iff.mp h).1
  exact ⟨_, List.getElem?_eq_getElem hn, s.cell n a _ h (List.getElem?_eq_getElem hn)⟩
theorem StOk.at' (s : StOk W ms S H) {n : Nat} {c : Cl} (h : S[n]? = some c) : ∃ a, ms[n]? = some a ∧ CellOk W ms n H a c := by
  have hn : n < ms.length := by rw [s.len]; exact (List.getElem?_eq_some_iff.mp h).1
  exact ⟨_, List.getElem?_eq_getElem hn, s.cell n _ c (List.getElem?_eq_getElem hn) h⟩
theorem CellOk.there {n : Nat} {a : Addr} {c : Cl} (h : CellOk W ms n H a c) : ∃ o, H a = some o := by
  cases c with
  | lst _ => obtain ⟨_, e, _⟩ := h; exact ⟨_, e⟩
  | obj _ _ _ => obtain ⟨_, _, _, _, e, _⟩ := h; exact ⟨_, e⟩
  | dic _ _ => obtain ⟨_, e, _⟩ := h; exact ⟨_, e⟩
  | dead => exact h
theorem StOk.there (s : StOk W ms S H) {a : Addr} (h : a ∈ ms) : ∃ o, H a = some o := by
  obtain ⟨n, hn⟩ := List.getElem?_of_mem h
  obtain ⟨c, _, k⟩ := s.at hn
  exact k.there
theorem StOk.fresh (s : StOk W ms S H) {a : Addr} (h : H a = none) : a ∉ ms := fun q => by
  obtain ⟨o, e⟩ := s.there q
  rw [h] at e; cases e
theorem CellOk.mono {n : Nat} {a : Addr} {c : Cl} (h : CellOk W ms n H a c) (hp : ∃ l, ms' = ms ++ l) (hn : n ≤ ms.length) (ha : H' a = H a) (hs : Same (era ms H) (era ms' H')) : CellOk W ms' n H' a c := by
  have tk : ms'.take n = ms.take n := by
    obtain ⟨l, rfl⟩ := hp
    exact List.take_append_of_le_length hn
  have mv : ∀ {vs ds}, RpL W (ms.take n) (era ms H) vs ds → RpL W (ms'.take n) (era ms' H') vs ds := fun {vs ds} r => by
    rw [tk]
    exact RpL.mono ⟨[], by simp⟩ hs (.inr rfl) rfl rfl ds vs r
  cases c with
  | lst _ => obtain ⟨vs, e, r⟩ := h; exact ⟨vs, ha.trans e, mv r⟩
  | obj _ _ _ => obtain ⟨C, dx, vs, g, e, l, r⟩ := h; exact ⟨C, dx, vs, g, ha.trans e, l, mv r⟩
  | dic _ _ => obtain ⟨vs, e, l, r⟩ := h; exact ⟨vs, ha.trans e, l, mv r⟩
  | dead => obtain ⟨o, e⟩ := h; exact ⟨o, ha.trans e⟩
theorem nth_le {n : Nat} {a : Addr} (h : ms[n]? = some a) : n ≤ ms.length := Nat.le_of_lt (List.getElem?_eq_some_iff.mp h).1

/-- a new object that is not owned -/
theorem Fut.new {p : Addr} {o : HO} (s : StOk W ms S H) (hp : H p = none) : Fut ms H ms (upd H p o) := by
  refine ⟨⟨[], by simp⟩, fun a u e => ?_⟩
  by_cases h : a ∈ ms
  · rw [era_in h] at e; cases e
  · rw [era_out h] at e ⊢
    rw [upd_ne (ne_of_none e hp)]
    exact e
theorem StOk.new {p : Addr} {o : HO} (s : StOk W ms S H) (hp : H p = none) : StOk W ms S (upd H p o) := by
  refine ⟨s.nd, s.len, fun n a c h k => (s.cell n a c h k).mono ⟨[], by simp⟩ (nth_le h) ?_ (Fut.new s hp).same⟩
  obtain ⟨u, e⟩ := s.there (List.mem_of_getElem? h)
  exact upd_ne (ne_of_none e hp)
theorem era_new {p : Addr} {o : HO} (s : StOk W ms S H) (hp : H p = none) : era ms (upd H p o) p = some o := by
  rw [era_out (s.fresh hp), upd_same]
/-- a new owned object -/
theorem era_snoc {p : Addr} {o : HO} (hp : H p = none) : era (ms ++ [p]) (upd H p o) = era ms H := by
  funext a
  unfold era
  by_cases h : a ∈ ms
  · rw [if_pos h, if_pos (List.mem_append_left _ h)]
  · rw [if_neg h]
    by_cases q : a = p
    · subst q
      rw [if_pos (by simp), hp]
    · rw [if_neg (by simp [h, q]), upd_ne q]
theorem Fut.own {p : Addr} {o : HO} (hp : H p = none) : Fut ms H (ms ++ [p]) (upd H p o) := ⟨⟨[p], rfl⟩, by rw [era_snoc hp]; exact Same.refl _⟩
theorem StOk.own {p : Addr} {o : HO} {c : Cl} (s : StOk W ms S H) (hp : H p = none) (hc : CellOk W (ms ++ [p]) ms.length (upd H p o) p c) : StOk W (ms ++ [p]) (S ++ [c]) (upd H p o) := by
  have np := s.fresh hp
  refine ⟨?_, by simp [s.len], fun n a k h q => ?_⟩
  · rw [List.nodup_append]
    refine ⟨s.nd, by simp, fun x hx y hy e => ?_⟩
    have : y = p := by simpa using hy
    subst this; subst e; exact np hx
  · by_cases hn : n < ms.length
    · rw [List.getElem?_append_left hn] at h
      rw [List.getElem?_append_left (by rw [← s.len]; exact hn)] at q
      refine (s.cell n a k h q).mono ⟨[p], rfl⟩ (nth_le h) ?_ (by rw [era_snoc hp]; exact Same.refl _)
      obtain ⟨u, e⟩ := s.there (List.mem_of_getElem? h)
      exact upd_ne (ne_of_none e hp)
    · have hb : n < (ms ++ [p]).length := (List.getElem?_eq_some_iff.mp h).1
      rw [List.length_append, List.length_singleton] at hb
      have e : n = ms.length := by omega
      subst e
      rw [List.getElem?_append_right (Nat.le_refl _), Nat.sub_self] at h
      rw [s.len, List.getElem?_append_right (Nat.le_refl _), Nat.sub_self] at q
      simp at h q
      subst h; subst q
      exact hc
theorem StOk.ownL {p : Addr} {vs : List V} {ds : List D} (s : StOk W ms S H) (hp : H p = none) (r : RpL W ms (era ms H) vs ds) : StOk W (ms ++ [p]) (S ++ [.lst ds]) (upd H p (.lst vs)) := by
  refine s.own hp ⟨vs, upd_same, ?_⟩
  rw [era_snoc hp, List.take_left' rfl]
  exact r
/-- an owned object is written -/
theorem era_write {p : Addr} {o : HO} (hp : p ∈ ms) : era ms (upd H p o) = era ms H := by
  funext a
  unfold era
  by_cases h : a ∈ ms
  · rw [if_pos h, if_pos h]
  · rw [if_neg h, if_neg h, upd_ne fun e => h (by rw [e]; exact hp)]
theorem Fut.write {p : Addr} {o : HO} (hp : p ∈ ms) : Fut ms H ms (upd H p o) := ⟨⟨[], by simp⟩, by rw [era_write hp]; exact Same.refl _⟩
theorem StOk.write {p : Addr} {n : Nat} {o : HO} {c : Cl} (s : StOk W ms S H) (hp : ms[n]? = some p) (hc : CellOk W ms n (upd H p o) p c) : StOk W ms (S.set n c) (upd H p o) := by
  refine ⟨s.nd, by simp [s.len], fun m a k h q => ?_⟩
  by_cases e : m = n
  · subst e
    rw [hp] at h; cases h
    have hl : m < S.length := by rw [← s.len]; exact (List.getElem?_eq_some_iff.mp hp).1
    rw [List.getElem?_set_self hl] at q
    cases q
    exact hc
  · rw [List.getElem?_set_ne (Ne.symm e)] at q
    refine (s.cell m a k h q).mono ⟨[], by simp⟩ (nth_le h) ?_ (by rw [era_write (List.mem_of_getElem? hp)]; exact Same.refl _)
    refine upd_ne fun z => e ?_
    subst z
    obtain ⟨h1, e1⟩ := List.getElem?_eq_some_iff.mp h
    obtain ⟨h2, e2⟩ := List.getElem?_eq_some_iff.mp hp
    exact (List.getElem_inj s.nd).mp (e1.trans e2.symm)
theorem StOk.writeL {p : Addr} {n : Nat} {vs : List V} {ds : List D} (s : StOk W ms S H) (hp : ms[n]? = some p) (r : RpL W (ms.take n) (era ms H) vs ds) : StOk W ms (S.set n (.lst ds)) (upd H p (.lst vs)) := by
  refine s.write hp ⟨vs, upd_same, ?_⟩
  rw [era_write (List.mem_of_getElem? hp)]
  exact r
theorem take_ext (n : Nat) : ∃ l, ms = ms.take n ++ l := ⟨ms.drop n, (List.take_append_drop n ms).symm⟩
/-- what a cell holds, read -/
theorem StOk.readL (s : StOk W ms S H) {n : Nat} {a : Addr} {ds : List D} (h : ms[n]? = some a) (k : S[n]? = some (.lst ds)) : ∃ vs, H a = some (.lst vs) ∧ RpL W ms (era ms H) vs ds := by
  obtain ⟨vs, e, r⟩ := s.cell n a _ h k
  exact ⟨vs, e, RpL.mono (take_ext n) (Same.refl _) (.inr rfl) rfl rfl ds vs r⟩
theorem StOk.readO (s : StOk W ms S H) {n : Nat} {a : Addr} {c : Str} {ks : List Str} {ds : List D} (h : ms[n]? = some a) (k : S[n]? = some (.obj c ks ds)) :
    ∃ C dx vs, W.mg c = some (.ref C) ∧ H a = some (.ins C dx (ks.zip vs)) ∧ ks.length = vs.length ∧ RpL W ms (era ms H) vs ds := by
  obtain ⟨C, dx, vs, g, e, l, r⟩ := s.cell n a _ h k
  exact ⟨C, dx, vs, g, e, l, RpL.mono (take_ext n) (Same.refl _) (.inr rfl) rfl rfl ds vs r⟩
/-- the last cells are let go: they stay as they are -/
theorem era_take (s : StOk W ms S H) (n : Nat) : Same (era ms H) (era (ms.take n) H) := fun a o e => by
  by_cases h : a ∈ ms
  · rw [era_in h] at e; cases e
  · rw [era_out h] at e
    rw [era_out fun q => h (List.mem_of_mem_take q)]
    exact e
theorem StOk.take (s : StOk W ms S H) (n : Nat) : StOk W (ms.take n) (S.take n) H := by
  refine ⟨s.nd.sublist (List.take_sublist n ms), by simp [s.len], fun m a c h k => ?_⟩
  have hm : m < n := by
    have := (List.getElem?_eq_some_iff.mp h).1
    rw [List.length_take] at this
    omega
  rw [List.getElem?_take_of_lt hm] at h k
  have tk : (ms.take n).take m = ms.take m := by rw [List.take_take]; congr 1; omega
  have mv : ∀ {vs ds}, RpL W (ms.take m) (era ms H) vs ds → RpL W ((ms.take n).take m) (era (ms.take n) H) vs ds := fun {vs ds} r => by
    rw [tk]
    exact RpL.mono ⟨[], by simp⟩ (era_take s n) (.inr rfl) rfl rfl ds vs r
  have q := s.cell m a c h k
  cases c with
  | lst _ => obtain ⟨vs, e, r⟩ := q; exact ⟨vs, e, mv r⟩
  | obj _ _ _ => obtain ⟨C, dx, vs, g, e, l, r⟩ := q; exact ⟨C, dx, vs, g, e, l, mv r⟩
  | dic _ _ => obtain ⟨vs, e, l, r⟩ := q; exact ⟨vs, e, l, mv r⟩
  | dead => exact q
theorem Fut.drop (s : StOk W ms' S' H') {n : Nat} (hn : n = ms.length) (f : Fut ms H ms' H') : ms'.take n = ms ∧ Fut ms H ms H' := by
  obtain ⟨⟨l, rfl⟩, q⟩ := f
  have e : (ms ++ l).take n = ms := by rw [hn]; exact List.take_left' rfl
  refine ⟨e, ⟨[], by simp⟩, fun a o z => ?_⟩
  have w := era_take s n a o (q a o z)
  rw [e] at w
  exact w
end

/-! ### letting go: what hangs on the new cells is data from then on -/
mutual
def sub (h : Nat → D) : D → D
  | .tup xs => .tup (subL h xs)
  | .lst xs => .lst (subL h xs)
  | .rol xs => .rol (subL h xs)
  | .cell m => h m
  | .obj c ks xs => .obj c ks (subL h xs)
  | .dic ks xs => .dic ks (subL h xs)
  | .exn c ks xs => .exn c ks (subL h xs)
  | .non => .non
  | .bl b => .bl b
  | .int i => .int i
  | .str s => .str s
  | .junk => .junk
def subL (h : Nat → D) : List D → List D
  | [] => []
  | d :: ds => sub h d :: subL h ds
end
def fz (n0 : Nat) (S : Sto) : Nat → D → D
  | 0 => sub fun n => if n < n0 then .cell n else .junk
  | k + 1 => sub fun n => if n < n0 then .cell n else match S[n]? with
    | some (.lst ds) => .lst (ds.map (fz n0 S k))
    | some (.obj c ks ds) => .obj c ks (ds.map (fz n0 S k))
    | some (.dic ks ds) => .dic ks (ds.map (fz n0 S k))
    | _ => .junk

section
variable {W : Wd} {ms : List Addr} {H : Hp} {S : Sto} {G : Hp} {ms' : List Addr}
mutual
theorem Rp.sub {h : Nat → D} (hc : ∀ n a, ms[n]? = some a → Rp W ms' G (.ref a) (h n)) : ∀ (d : D) (v : V), Rp W ms G v d → Rp W ms' G v (sub h d)
  | .non, _, k => by cases k; exact .non
  | .bl _, _, k => by cases k; exact .bl _
  | .int _, _, k => by cases k; exact .int _
  | .str _, _, k => by cases k; exact .str _
  | .tup ds, _, k => by cases k with | tup a b => exact .tup a (RpL.sub hc ds _ b)
  | .lst ds, _, k => by cases k with | lst a b => exact .lst a (RpL.sub hc ds _ b)
  | .rol ds, _, k => by cases k with | rol a b => exact .rol a (RpL.sub hc ds _ b)
  | .cell m, _, k => by cases k with | cell a => exact hc m _ a
  | .obj c ks ds, _, k => by cases k with | obj a b e r => exact .obj a b e (RpL.sub hc ds _ r)
  | .dic ks ds, _, k => by cases k with | dic b e r => exact .dic b e (RpL.sub hc ds _ r)
  | .exn c ks ds, _, k => by cases k with | exn x a b e r => exact .exn x a b e (RpL.sub hc ds _ r)
  | .junk, _, _ => .junk _
theorem RpL.sub {h : Nat → D} (hc : ∀ n a, ms[n]? = some a → Rp W ms' G (.ref a) (h n)) : ∀ (ds : List D) (vs : List V), RpL W ms G vs ds → RpL W ms' G vs (subL h ds)
  | [], _, k => by cases k; exact .nil
  | d :: ds, _, k => by cases k with | cons a b => exact .cons (Rp.sub hc d _ a) (RpL.sub hc ds _ b)
end
theorem RpL.mapD {G' : Hp} {f : D → D} (hf : ∀ d v, Rp W ms G v d → Rp W ms' G' v (f d)) : ∀ {ds : List D} {vs : List V}, RpL W ms G vs ds → RpL W ms' G' vs (ds.map f)
  | [], _, h => by cases h; exact .nil
  | _ :: _, _, h => by cases h with | cons a b => exact .cons (hf _ _ a) (RpL.mapD hf b)
theorem Rp.fz (s : StOk W ms S H) (n0 : Nat) : ∀ (k : Nat) (d : D) (v : V), Rp W ms (era ms H) v d → Rp W (ms.take n0) (era (ms.take n0) H) v (fz n0 S k d) := by
  have up := era_take s n0
  have lo : ∀ n a, n < n0 → ms[n]? = some a → Rp W (ms.take n0) (era (ms.take n0) H) (.ref a) (.cell n) := fun n a hn h => .cell (by rw [List.getElem?_take_of_lt hn]; exact h)
  have hi : ∀ n a, ¬ n < n0 → ms[n]? = some a → a ∉ ms.take n0 := fun n a hn h q => by
    obtain ⟨m, hm⟩ := List.getElem?_of_mem q
    have hlt : m < n0 := by
      have := (List.getElem?_eq_some_iff.mp hm).1
      rw [List.length_take] at this
      omega
    rw [List.getElem?_take_of_lt hlt] at hm
    obtain ⟨h1, e1⟩ := List.getElem?_eq_some_iff.mp h
    obtain ⟨h2, e2⟩ := List.getElem?_eq_some_iff.mp hm
    have := (List.getElem_inj s.nd).mp (e1.trans e2.symm)
    omega
  have g0 : ∀ {h : Nat → D}, (∀ n a, ms[n]? = some a → Rp W (ms.take n0) (era (ms.take n0) H) (.ref a) (h n)) → ∀ (d : D) (v : V), Rp W ms (era ms H) v d → Rp W (ms.take n0) (era (ms.take n0) H) v (Zd.sub h d) := fun {h} hc d v r =>
    Rp.sub hc d v (Rp.mono ⟨[], by simp⟩ up (.inr rfl) rfl rfl d v r)
  intro k
  induction k with
  | zero =>
    refine g0 fun n a h => ?_
    by_cases hn : n < n0
    · rw [if_pos hn]; exact lo n a hn h
    · rw [if_neg hn]; exact .junk _
  | succ k ih =>
    refine g0 fun n a h => ?_
    by_cases hn : n < n0
    · rw [if_pos hn]; exact lo n a hn h
    · rw [if_neg hn]
      obtain ⟨c, hc, q⟩ := s.at h
      have ha := hi n a hn h
      rw [hc]
      have mv : ∀ {vs ds}, RpL W (ms.take n) (era ms H) vs ds → RpL W (ms.take n0) (era (ms.take n0) H) vs (ds.map (Zd.fz n0 S k)) := fun {vs ds} r =>
        RpL.mapD ih (RpL.mono (take_ext n) (Same.refl _) (.inr rfl) rfl rfl ds vs r)
      cases c with
      | lst ds => obtain ⟨vs, e, r⟩ := q; exact .lst (by rw [era_out ha]; exact e) (mv r)
      | obj c ks ds => obtain ⟨C, dx, vs, g, e, l, r⟩ := q; exact .obj g (by rw [era_out ha]; exact e) l (mv r)
      | dic ks ds => obtain ⟨vs, e, l, r⟩ := q; exact .dic (by rw [era_out ha]; exact e) l (mv r)
      | dead => exact .junk _
end
end Zd

set_option Elab.async false
set_option linter.all false
set_option maxRecDepth 100000
set_option maxHeartbeats 4000000
set_option autoImplicit false
/-! Zd, the rules: expressions, tests, statements as functions over data. -/
namespace Zd
open PySem PySem.Spec L2
open PyProof.Rows hiding St

/-- a ≤ b, not to be reckoned with by the kernel -/
def NLe (a b : Nat) : Prop := a ≤ b
noncomputable instance {a b : Nat} : Decidable (NLe a b) := Classical.propDecidable _
/-- p, not to be reckoned with by the kernel -/
def Bd (p : Prop) : Prop := p
noncomputable instance {p : Prop} : Decidable (Bd p) := Classical.propDecidable _
/-! ### results -/
inductive R (α : Type) where
  | ok (a : α) (S : Sto)
  | exc (c : Str) (ks : List Str) (ds : List D) (S : Sto)
  | bad
inductive SR where
  | nx (ρ : Nv) (S : Sto)
  | rt (d : D) (S : Sto)
  | bk (ρ : Nv) (S : Sto)
  | ct (ρ : Nv) (S : Sto)
  | exc (c : Str) (ks : List Str) (ds : List D) (ρ : Nv) (S : Sto)
  | bad
def R.bind {α β : Type} (r : R α) (k : α → Sto → R β) : R β := match r with
  | .ok a S => k a S
  | .exc c ks ds S => .exc c ks ds S
  | .bad => .bad
theorem R.bind_ok {α β : Type} {a : α} {S : Sto} {k : α → Sto → R β} : (R.ok a S).bind k = k a S := rfl
theorem R.bind_exc {α β : Type} {c : Str} {ks : List Str} {ds : List D} {S : Sto} {k : α → Sto → R β} : (R.exc c ks ds S : R α).bind k = .exc c ks ds S := rfl
theorem R.bind_bad {α β : Type} {k : α → Sto → R β} : (R.bad : R α).bind k = .bad := rfl
/-- into a statement's result -/
def R.st {α : Type} (r : R α) (ρ : Nv) (k : α → Sto → SR) : SR := match r with
  | .ok a S => k a S
  | .exc c ks ds S => .exc c ks ds ρ S
  | .bad => .bad
theorem R.st_ok {α : Type} {a : α} {S : Sto} {ρ : Nv} {k : α → Sto → SR} : (R.ok a S).st ρ k = k a S := rfl
theorem R.st_exc {α : Type} {c : Str} {ks : List Str} {ds : List D} {S : Sto} {ρ : Nv} {k : α → Sto → SR} : (R.exc c ks ds S : R α).st ρ k = .exc c ks ds ρ S := rfl
def SR.seq (r : SR) (k : Nv → Sto → SR) : SR := match r with
  | .nx ρ S => k ρ S
  | r => r
theorem SR.seq_nx {ρ : Nv} {S : Sto} {k : Nv → Sto → SR} : (SR.nx ρ S).seq k = k ρ S := rfl
theorem SR.seq_rt {d : D} {S : Sto} {k : Nv → Sto → SR} : (SR.rt d S).seq k = .rt d S := rfl
theorem SR.seq_exc {c : Str} {ks : List Str} {ds : List D} {ρ : Nv} {S : Sto} {k : Nv → Sto → SR} : (SR.exc c ks ds ρ S).seq k = .exc c ks ds ρ S := rfl
theorem SR.seq_bk {ρ : Nv} {S : Sto} {k : Nv → Sto → SR} : (SR.bk ρ S).seq k = .bk ρ S := rfl
theorem SR.seq_ct {ρ : Nv} {S : Sto} {k : Nv → Sto → SR} : (SR.ct ρ S).seq k = .ct ρ S := rfl

/-- a loop's turn r, then k -/
def SR.turn (r : SR) (k : Nv → Sto → SR) : SR := match r with
  | .nx ρ S => k ρ S
  | .ct ρ S => k ρ S
  | .bk ρ S => .nx ρ S
  | r => r
theorem SR.turn_nx {ρ : Nv} {S : Sto} {k : Nv → Sto → SR} : (SR.nx ρ S).turn k = k ρ S := rfl
theorem SR.turn_ct {ρ : Nv} {S : Sto} {k : Nv → Sto → SR} : (SR.ct ρ S).turn k = k ρ S := rfl
theorem SR.turn_bk {ρ : Nv} {S : Sto} {k : Nv → Sto → SR} : (SR.bk ρ S).turn k = .nx ρ S := rfl
theorem SR.turn_rt {d : D} {S : Sto} {k : Nv → Sto → SR} : (SR.rt d S).turn k = .rt d S := rfl
theorem SR.turn_exc {c : Str} {ks : List Str} {ds : List D} {ρ : Nv} {S : Sto} {k : Nv → Sto → SR} : (SR.exc c ks ds ρ S).turn k = .exc c ks ds ρ S := rfl
abbrev F (α : Type) := Nv → Sto → R α
abbrev EF := F D
abbrev SF := Nv → Sto → SR

/-! ### what is wanted of a result -/
/-- an exception lies so -/
structure Xr (W : Wd) (ms : List Addr) (H : Hp) (c : Str) (ks : List Str) (ds : List D) (C dd : Addr) : Prop where
  g : W.mg c = some (.ref C)
  at_ : ∃ vs, era ms H dd = some (.xd (ks.zip vs)) ∧ ks.length = vs.length ∧ RpL W ms (era ms H) vs ds
def Post {α β : Type} (W : Wd) (Rel : List Addr → Hp → β → α → Prop) (ms : List Addr) (H : Hp) (r : R α) (Q : β → Hp → Prop) (E : XK) : Prop := match r with
  | .ok a S' => ∀ b ms' H', Fut ms H ms' H' → StOk W ms' S' H' → Rel ms' (era ms' H') b a → Q b H'
  | .exc c ks ds S' => ∀ C dd ms' H', Fut ms H ms' H' → StOk W ms' S' H' → Xr W ms' H' c ks ds C dd → E (.ref C) (some dd) H'
  | .bad => False
structure Ev (W : Wd) (ρ : Nv) (σ : St) (ms : List Addr) (H : Hp) : Prop where
  len : ρ.length = σ.length
  get : ∀ (i : Nat) (d : D), ρ[i]? = some (some d) → ∃ v, σ[i]? = some (some v) ∧ Rp W ms (era ms H) v d
def PostS (W : Wd) (ms : List Addr) (H : Hp) (r : SR) (D : Ends) (Wx : WX) : Prop := match r with
  | .nx ρ S' => ∀ σ ms' H', Fut ms H ms' H' → StOk W ms' S' H' → Ev W ρ σ ms' H' → D.nx σ H'
  | .rt d S' => ∀ v ms' H', Fut ms H ms' H' → StOk W ms' S' H' → Rp W ms' (era ms' H') v d → D.rt v H'
  | .bk ρ S' => ∀ σ ms' H', Fut ms H ms' H' → StOk W ms' S' H' → Ev W ρ σ ms' H' → D.bk σ H'
  | .ct ρ S' => ∀ σ ms' H', Fut ms H ms' H' → StOk W ms' S' H' → Ev W ρ σ ms' H' → D.ct σ H'
  | .exc c ks ds ρ S' => ∀ σ C dd ms' H', Fut ms H ms' H' → StOk W ms' S' H' → Ev W ρ σ ms' H' → Xr W ms' H' c ks ds C dd → Wx (.ref C) (some dd) σ H'
  | .bad => False

section
variable {W : Wd} {ms ms' : List Addr} {H H' : Hp} {ρ : Nv} {σ : St} {S : Sto}
theorem Ev.fut (e : Ev W ρ σ ms H) (f : Fut ms H ms' H') : Ev W ρ σ ms' H' := ⟨e.len, fun i d h => let ⟨v, a, b⟩ := e.get i d h; ⟨v, a, b.fut f⟩⟩
theorem Ev.set (e : Ev W ρ σ ms H) {v : V} {d : D} (r : Rp W ms (era ms H) v d) (i : Nat) : Ev W (ρ.set i (some d)) (σ.set i (some v)) ms H := by
  refine ⟨by simp [e.len], fun j x h => ?_⟩
  by_cases hj : j = i
  · subst hj
    have hl : j < ρ.length := by
      have := (List.getElem?_eq_some_iff.mp h).1
      simpa using this
    rw [List.getElem?_set_self hl] at h
    cases h
    exact ⟨v, by rw [List.getElem?_set_self (by rw [← e.len]; exact hl)], r⟩
  · rw [List.getElem?_set_ne (Ne.symm hj)] at h
    obtain ⟨u, a, b⟩ := e.get j x h
    exact ⟨u, by rw [List.getElem?_set_ne (Ne.symm hj)]; exact a, b⟩
theorem Ev.unset (e : Ev W ρ σ ms H) (i : Nat) : Ev W (ρ.set i none) (σ.set i none) ms H := by
  refine ⟨by simp [e.len], fun j x h => ?_⟩
  by_cases hj : j = i
  · subst hj
    by_cases hl : j < ρ.length
    · rw [List.getElem?_set_self hl] at h; cases h
    · rw [List.getElem?_eq_none (by simpa using hl)] at h; cases h
  · rw [List.getElem?_set_ne (Ne.symm hj)] at h
    obtain ⟨u, a, b⟩ := e.get j x h
    exact ⟨u, by rw [List.getElem?_set_ne (Ne.symm hj)]; exact a, b⟩
theorem Post.mono {α β : Type} {Rel : List Addr → Hp → β → α → Prop} {r : R α} {Q Q' : β → Hp → Prop} {E E' : XK} (h : Post W Rel ms H r Q E) (hq : ∀ b H, Q b H → Q' b H) (he : ∀ c d H, E c d H → E' c d H) : Post W Rel ms H r Q' E' := by
  cases r with
  | ok a S => exact fun b ms' H' f s x => hq _ _ (h b ms' H' f s x)
  | exc c ks ds S => exact fun C dd ms' H' f s x => he _ _ _ (h C dd ms' H' f s x)
  | bad => exact h
theorem Post.fut {α β : Type} {Rel : List Addr → Hp → β → α → Prop} {r : R α} {Q : β → Hp → Prop} {E : XK} (h : Post W Rel ms H r Q E) (f : Fut ms H ms' H') : Post W Rel ms' H' r Q E := by
  cases r with
  | ok a S => exact fun b m1 H1 g s x => h b m1 H1 (f.trans g) s x
  | exc c ks ds S => exact fun C dd m1 H1 g s x => h C dd m1 H1 (f.trans g) s x
  | bad => exact h
theorem PostS.fut {r : SR} {D : Ends} {Wx : WX} (h : PostS W ms H r D Wx) (f : Fut ms H ms' H') : PostS W ms' H' r D Wx := by
  cases r with
  | nx ρ S => exact fun σ m1 H1 g s x => h σ m1 H1 (f.trans g) s x
  | rt d S => exact fun v m1 H1 g s x => h v m1 H1 (f.trans g) s x
  | bk ρ S => exact fun σ m1 H1 g s x => h σ m1 H1 (f.trans g) s x
  | ct ρ S => exact fun σ m1 H1 g s x => h σ m1 H1 (f.trans g) s x
  | exc c ks ds ρ S => exact fun σ C dd m1 H1 g s e x => h σ C dd m1 H1 (f.trans g) s e x
  | bad => exact h
/-- first r, then k -/
theorem Post.split {α β α' β' : Type} {Rel : List Addr → Hp → β → α → Prop} {Rel' : List Addr → Hp → β' → α' → Prop} {r : R α} {k : α → Sto → R α'} {Q : β' → Hp → Prop} {E : XK} {Q1 : β → Hp → Prop} (h : Post W Rel' ms H (r.bind k) Q E)
    (hk : ∀ a S1 b ms1 H1, r = .ok a S1 → Fut ms H ms1 H1 → StOk W ms1 S1 H1 → Rel ms1 (era ms1 H1) b a → Post W Rel' ms1 H1 (k a S1) Q E → Q1 b H1) : Post W Rel ms H r Q1 E := by
  cases r with
  | ok a S => exact fun b ms1 H1 f s x => hk a S b ms1 H1 rfl f s x (Post.fut (r := k a S) h f)
  | exc c ks ds S => exact h
  | bad => exact h
theorem PostS.split {α β : Type} {Rel : List Addr → Hp → β → α → Prop} {r : R α} {k : α → Sto → SR} {D : Ends} {Wx : WX} {Q1 : β → Hp → Prop} (ev : Ev W ρ σ ms H) (h : PostS W ms H (r.st ρ k) D Wx)
    (hk : ∀ a S1 b ms1 H1, r = .ok a S1 → Fut ms H ms1 H1 → StOk W ms1 S1 H1 → Rel ms1 (era ms1 H1) b a → PostS W ms1 H1 (k a S1) D Wx → Q1 b H1) : Post W Rel ms H r Q1 (fun c d H' => Wx c d σ H') := by
  cases r with
  | ok a S => exact fun b ms1 H1 f s x => hk a S b ms1 H1 rfl f s x (PostS.fut (r := k a S) h f)
  | exc c ks ds S => exact fun C dd ms1 H1 f s x => h σ C dd ms1 H1 f s (ev.fut f) x
  | bad => exact h
end

/-- the relations -/
abbrev relD (W : Wd) : List Addr → Hp → V → D → Prop := fun ms G v d => Rp W ms G v d
abbrev relB : List Addr → Hp → Bool → Bool → Prop := fun _ _ b c => b = c
abbrev relL (W : Wd) : List Addr → Hp → List V → List D → Prop := fun ms G v d => RpL W ms G v d
abbrev relO : List Addr → Hp → Option Int → Option Int → Prop := fun _ _ b c => b = c

/-- the wish about exceptions, and the exception that is held -/
structure Yx where
  xi : Option (Addr × Value × Option Addr)
  wx : WX
abbrev wd (X : Cx) (Y : Yx) : Wd := ⟨X.K, X.mg, Y.xi⟩

def tX {α β : Type} (W : Wd) (Wx : WX) (Rel : List Addr → Hp → β → α → Prop) (f : F α) : St → Hp → (β → Hp → Prop) → Prop := fun σ H Q =>
  ∃ ms S ρ, Ev W ρ σ ms H ∧ StOk W ms S H ∧ Post W Rel ms H (f ρ S) Q (fun c d H' => Wx c d σ H')
def tDS (W : Wd) (Wx : WX) (g : SF) : TS := fun D σ H => ∃ ms S ρ, Ev W ρ σ ms H ∧ StOk W ms S H ∧ PostS W ms H (g ρ S) D Wx

abbrev DE (X : Cx) (Y : Yx) (e : Expr) (f : EF) : Prop := PE X e (tX (wd X Y) Y.wx (relD (wd X Y)) f)
abbrev DT (X : Cx) (Y : Yx) (e : Expr) (f : F Bool) : Prop := PT X e (tX (wd X Y) Y.wx relB f)
abbrev DW (X : Cx) (Y : Yx) (e : Expr) (f : F Bool) : Prop := PW X e (tX (wd X Y) Y.wx relB f)
abbrev DA (X : Cx) (Y : Yx) (es : List Expr) (f : F (List D)) : Prop := PA X es (tX (wd X Y) Y.wx (relL (wd X Y)) f)
abbrev DO (X : Cx) (Y : Yx) (e : Option Expr) (f : F (Option Int)) : Prop := PO X e (tX (wd X Y) Y.wx relO f)
abbrev DS (X : Cx) (Y : Yx) (st : Stmt) (g : SF) : Prop := PS X st (tDS (wd X Y) Y.wx g)
abbrev DSs (X : Cx) (Y : Yx) (st : List Stmt) (g : SF) : Prop := PSs X st (tDS (wd X Y) Y.wx g)

theorem PE.weak {X : Cx} {e : Expr} {t t' : TE} (h : PE X e t) (w : ∀ σ H Q, t' σ H Q → t σ H Q) : PE X e t' := ⟨fun pins s σ H Q I q => h.run pins s σ H Q I (w σ H Q q)⟩
theorem PT.weak {X : Cx} {e : Expr} {t t' : TT} (h : PT X e t) (w : ∀ σ H Q, t' σ H Q → t σ H Q) : PT X e t' := ⟨fun pins s σ H Q I q => h.run pins s σ H Q I (w σ H Q q)⟩
theorem PW.weak {X : Cx} {e : Expr} {t t' : TT} (h : PW X e t) (w : ∀ σ H Q, t' σ H Q → t σ H Q) : PW X e t' := ⟨fun wh pins s σ H Q I q => h.run wh pins s σ H Q I (w σ H Q q)⟩
theorem PA.weak {X : Cx} {e : List Expr} {t t' : TA} (h : PA X e t) (w : ∀ σ H Q, t' σ H Q → t σ H Q) : PA X e t' := ⟨fun pos pins s σ H Q I q => h.run pos pins s σ H Q I (w σ H Q q)⟩
theorem PO.weak {X : Cx} {e : Option Expr} {t t' : TO} (h : PO X e t) (w : ∀ σ H Q, t' σ H Q → t σ H Q) : PO X e t' := ⟨fun pins s σ H Q I q => h.run pins s σ H Q I (w σ H Q q)⟩
theorem PS.weak {X : Cx} {e : Stmt} {t t' : TS} (h : PS X e t) (w : ∀ D σ H, t' D σ H → t D σ H) : PS X e t' := ⟨fun pins s σ H D I q => h.run pins s σ H D I (w D σ H q)⟩
theorem PSs.weak {X : Cx} {e : List Stmt} {t t' : TS} (h : PSs X e t) (w : ∀ D σ H, t' D σ H → t D σ H) : PSs X e t' := ⟨fun pins s σ H D I q => h.run pins s σ H D I (w D σ H q)⟩

/-! ### names, constants -/
section
variable {X : Cx} {Y : Yx}
def varE (i : Nat) : EF := fun ρ S => match ρ[i]? with
  | some (some d) => .ok d S
  | _ => .bad
def cE (d : D) : EF := fun _ S => .ok d S
theorem dv (i : Nat) {x : Str} {pos : Pos} (hN : X.N[i]? = some x := by rfl) (hv : Vis X.env.scope x := by first | exact Or.inl rfl | exact Or.inr (Or.inl rfl) | exact Or.inr (Or.inr rfl)) (hd : (x == ("__debug__" : Str)) = false := by decide)
    (hcd : (x == ("__classdict__" : Str)) = false := by decide) : DE X Y (.Name x pos) (varE i) := by
  refine PE.weak (pe_var hN hv hd hcd) fun σ H Q h => ?_
  obtain ⟨ms, S, ρ, ev, st, p⟩ := h
  unfold varE at p
  split at p
  · rename_i d e
    obtain ⟨v, e1, r⟩ := ev.get i d e
    exact ⟨v, e1, p v ms H (Fut.refl _ _) st r⟩
  · exact p.elim
theorem dc {e : Expr} {v : V} {d : D} (h : PE X e (tC v)) (r : ∀ W ms G, Rp W ms G v d) : DE X Y e (cE d) := by
  refine PE.weak h fun σ H Q h => ?_
  obtain ⟨ms, S, ρ, ev, st, p⟩ := h
  exact p v ms H (Fut.refl _ _) st (r _ _ _)
theorem d_int {i : Int} {j : Nat} {pos : Pos} : DE X Y (.Constant (.int i) j pos) (cE (.int i)) := dc pe_int fun _ _ _ => .int i
theorem d_bl {b : Bool} {j : Nat} {pos : Pos} : DE X Y (.Constant (.bool b) j pos) (cE (.bl b)) := dc pe_bl fun _ _ _ => .bl b
theorem d_non {j : Nat} {pos : Pos} : DE X Y (.Constant .none j pos) (cE .non) := dc pe_non fun _ _ _ => .non
theorem d_str {x : Str} {j : Nat} {pos : Pos} : DE X Y (.Constant (.str x) j pos) (cE (.str x)) := dc pe_str fun _ _ _ => .str x
/-- a constant of the module -/
theorem d_glob {x : Str} {v : V} {d : D} {u : Value} {pos : Pos} (hg : Gl X x) (hm : X.mg x = some u) (r : RelV v u) (rd : ∀ W ms G, Rp W ms G v d) (hd : (x == ("__debug__" : Str)) = false := by decide) : DE X Y (.Name x pos) (cE d) := dc (pe_glob hg hm r hd) rd

/-! ### operators -/
def binF (g : D → D → Sto → R D) (fa fb : EF) : EF := fun ρ S => (fa ρ S).bind fun d S1 => (fb ρ S1).bind fun e S2 => g d e S2
/-- g says what the operator's reading r asks -/
def OpD (W : Wd) (r : R2) (g : D → D → Sto → R D) : Prop := ∀ (ms : List Addr) (S : Sto) (H : Hp) (x y : V) (d e : D) (Q : VK) (E : XK), StOk W ms S H → Rp W ms (era ms H) x d → Rp W ms (era ms H) y e → Post W (relD W) ms H (g d e S) Q E → r x y H Q
theorem two_of {W : Wd} {Wx : WX} {fa fb : EF} {g : D → D → Sto → R D} {r : R2} (hr : OpD W r g) {σ : St} {H : Hp} {Q : VK} (h : tX W Wx (relD W) (binF g fa fb) σ H Q) :
    tX W Wx (relD W) fa σ H fun x H1 => tX W Wx (relD W) fb σ H1 fun y H2 => r x y H2 Q := by
  obtain ⟨ms, S, ρ, ev, st, p⟩ := h
  refine ⟨ms, S, ρ, ev, st, Post.split p fun d S1 x ms1 H1 _ f1 s1 r1 p1 => ⟨ms1, S1, ρ, ev.fut f1, s1, Post.split p1 fun e S2 y ms2 H2 _ f2 s2 r2 p2 => ?_⟩⟩
  exact hr ms2 S2 H2 x y d e Q _ s2 (Rp.fut r1 f2) r2 p2
variable {a b : Expr} {fa fb : EF} {pos : Pos}
theorem d_op {op : Operator} {r : R2} {g : D → D → Sto → R D} (ho : OpR X (binaryOp op) r) (hr : OpD (wd X Y) r g) (ha : DE X Y a fa) (hb : DE X Y b fb) : DE X Y (.BinOp a op b pos) (binF g fa fb) :=
  PE.weak (pe_op ho ha hb) fun _ _ _ h => two_of hr h
theorem d_cmp {op : CmpOp} {r : R2} {g : D → D → Sto → R D} (ho : OpR X (compareOp op) r) (hr : OpD (wd X Y) r g) (ha : DE X Y a fa) (hb : DE X Y b fb) (hm : behindInMarks op b = false) : DE X Y (.Compare a [op] [b] pos) (binF g fa fb) :=
  PE.weak (pe_cmpR ho ha hb hm) fun _ _ _ h => two_of hr h
/-- a value that is True or False -/
def tstF (fe : EF) : F Bool := fun ρ S => (fe ρ S).bind fun d S1 => match d with
  | .bl b => .ok b S1
  | _ => .bad
theorem tst_of {W : Wd} {Wx : WX} {fe : EF} {σ : St} {H : Hp} {Q : Bool → Hp → Prop} (h : tX W Wx relB (tstF fe) σ H Q) : tX W Wx (relD W) fe σ H fun x H1 => ∃ c, x = .bl c ∧ Q c H1 := by
  obtain ⟨ms, S, ρ, ev, st, p⟩ := h
  refine ⟨ms, S, ρ, ev, st, Post.split p fun d S1 x ms1 H1 _ f1 s1 r1 p1 => ?_⟩
  cases r1 with
  | bl c => exact ⟨c, rfl, p1 c ms1 H1 (Fut.refl _ _) s1 rfl⟩
  | _ => exact p1.elim
theorem d_val {e : Expr} {fe : EF} (h : DE X Y e fe) (he : ∀ whole, isTrue e X.env whole = (do let v ← whole; standAt e.pos; holding [v] (truthy v)) := by intro _; rfl) : DT X Y e (tstF fe) :=
  PT.weak (pt_val h he) fun _ _ _ h => tst_of h
theorem d_cmpT {op : CmpOp} {r : R2} {g : D → D → Sto → R D} (ho : OpR X (compareOp op) r) (hr : OpD (wd X Y) r g) (ha : DE X Y a fa) (hb : DE X Y b fb) (hm : behindInMarks op b = false) : DT X Y (.Compare a [op] [b] pos) (tstF (binF g fa fb)) := by
  refine PT.weak (pt_cmpR ho ha hb hm) fun σ H Q h => ?_
  have := tst_of h
  exact two_of hr this
/-- chains -/
def chnF (g g' : D → D → Sto → R D) (fa fb fc : EF) : EF := fun ρ S => (fa ρ S).bind fun d S1 => (fb ρ S1).bind fun e S2 => (g d e S2).bind fun z S3 => match z with
  | .bl true => (fc ρ S3).bind fun k S4 => g' e k S4
  | .bl false => .ok (.bl false) S3
  | _ => .bad

/-! ### and, or, not -/
def andB (fa fb : F Bool) : F Bool := fun ρ S => (fa ρ S).bind fun k S1 => if k then fb ρ S1 else .ok false S1
def orB (fa fb : F Bool) : F Bool := fun ρ S => (fa ρ S).bind fun k S1 => if k then .ok true S1 else fb ρ S1
def notB (fa : F Bool) : F Bool := fun ρ S => (fa ρ S).bind fun k S1 => .ok (!k) S1
variable {ta tb : F Bool} {rest : List Expr}
theorem dw_and1 (h : DT X Y a ta) : DW X Y (.BoolOp .And [a] pos) ta := pw_and1 h
theorem dw_or1 (h : DT X Y a ta) : DW X Y (.BoolOp .Or [a] pos) ta := pw_or1 h
theorem dw_and (ha : DT X Y a ta) (hb : DW X Y (.BoolOp .And (b :: rest) pos) tb) : DW X Y (.BoolOp .And (a :: b :: rest) pos) (andB ta tb) := by
  refine PW.weak (pw_and ha hb) fun σ H Q h => ?_
  obtain ⟨ms, S, ρ, ev, st, p⟩ := h
  refine ⟨ms, S, ρ, ev, st, Post.split p fun k S1 x ms1 H1 _ f1 s1 r1 p1 => ?_⟩
  cases r1
  cases k with
  | true => exact iteT ⟨ms1, S1, ρ, ev.fut f1, s1, p1⟩
  | false => exact iteF (p1 false ms1 H1 (Fut.refl _ _) s1 rfl)
theorem dw_or (ha : DT X Y a ta) (hb : DW X Y (.BoolOp .Or (b :: rest) pos) tb) : DW X Y (.BoolOp .Or (a :: b :: rest) pos) (orB ta tb) := by
  refine PW.weak (pw_or ha hb) fun σ H Q h => ?_
  obtain ⟨ms, S, ρ, ev, st, p⟩ := h
  refine ⟨ms, S, ρ, ev, st, Post.split p fun k S1 x ms1 H1 _ f1 s1 r1 p1 => ?_⟩
  cases r1
  cases k with
  | true => exact iteT (p1 true ms1 H1 (Fut.refl _ _) s1 rfl)
  | false => exact iteF ⟨ms1, S1, ρ, ev.fut f1, s1, p1⟩
theorem d_not (ha : DT X Y a ta) : DT X Y (.UnaryOp .Not a pos) (notB ta) := by
  refine PT.weak (pt_not ha) fun σ H Q h => ?_
  obtain ⟨ms, S, ρ, ev, st, p⟩ := h
  refine ⟨ms, S, ρ, ev, st, Post.split p fun k S1 x ms1 H1 _ f1 s1 r1 p1 => ?_⟩
  cases r1
  exact p1 (!k) ms1 H1 (Fut.refl _ _) s1 rfl
theorem dw_t {e : Expr} {t : F Bool} (h : DW X Y e t) : DT X Y e t := h.pt
/-- as values: all but the last one True or False -/
def andV (fa fb : EF) : EF := fun ρ S => (fa ρ S).bind fun d S1 => match d with
  | .bl true => fb ρ S1
  | .bl false => .ok (.bl false) S1
  | _ => .bad
def orV (fa fb : EF) : EF := fun ρ S => (fa ρ S).bind fun d S1 => match d with
  | .bl true => .ok (.bl true) S1
  | .bl false => fb ρ S1
  | _ => .bad
def notV (fa : EF) : EF := fun ρ S => (fa ρ S).bind fun d S1 => match d with
  | .bl b => .ok (.bl (!b)) S1
  | _ => .bad
theorem d_one {op : BoolOp} (h : DE X Y a fa) : DE X Y (.BoolOp op [a] pos) fa := pe_one h
theorem d_andV (ha : DE X Y a fa) (hb : DE X Y (.BoolOp .And (b :: rest) pos) fb) : DE X Y (.BoolOp .And (a :: b :: rest) pos) (andV fa fb) := by
  refine PE.weak (pe_and ha hb) fun σ H Q h => ?_
  obtain ⟨ms, S, ρ, ev, st, p⟩ := h
  refine ⟨ms, S, ρ, ev, st, Post.split p fun d S1 x ms1 H1 _ f1 s1 r1 p1 => ?_⟩
  cases r1 with
  | bl k =>
    refine ⟨k, rfl, ?_⟩
    cases k with
    | true => exact iteT ⟨ms1, S1, ρ, ev.fut f1, s1, p1⟩
    | false => exact iteF (p1 _ ms1 H1 (Fut.refl _ _) s1 (.bl false))
  | _ => exact p1.elim
theorem d_orV (ha : DE X Y a fa) (hb : DE X Y (.BoolOp .Or (b :: rest) pos) fb) : DE X Y (.BoolOp .Or (a :: b :: rest) pos) (orV fa fb) := by
  refine PE.weak (pe_or ha hb) fun σ H Q h => ?_
  obtain ⟨ms, S, ρ, ev, st, p⟩ := h
  refine ⟨ms, S, ρ, ev, st, Post.split p fun d S1 x ms1 H1 _ f1 s1 r1 p1 => ?_⟩
  cases r1 with
  | bl k =>
    refine ⟨k, rfl, ?_⟩
    cases k with
    | true => exact iteT (p1 _ ms1 H1 (Fut.refl _ _) s1 (.bl true))
    | false => exact iteF ⟨ms1, S1, ρ, ev.fut f1, s1, p1⟩
  | _ => exact p1.elim
theorem d_notV (ha : DE X Y a fa) : DE X Y (.UnaryOp .Not a pos) (notV fa) := by
  refine PE.weak (pe_not ha) fun σ H Q h => ?_
  obtain ⟨ms, S, ρ, ev, st, p⟩ := h
  refine ⟨ms, S, ρ, ev, st, Post.split p fun d S1 x ms1 H1 _ f1 s1 r1 p1 => ?_⟩
  cases r1 with
  | bl k => exact ⟨k, rfl, p1 _ ms1 H1 (Fut.refl _ _) s1 (.bl _)⟩
  | _ => exact p1.elim
/-- a if t else b -/
def ifE (t : F Bool) (fa fb : EF) : EF := fun ρ S => (t ρ S).bind fun k S1 => if k then fa ρ S1 else fb ρ S1
theorem d_ifE {c : Expr} {t : F Bool} (hc : DT X Y c t) (ha : DE X Y a fa) (hb : DE X Y b fb) : DE X Y (.IfExp c a b pos) (ifE t fa fb) := by
  refine PE.weak (pe_ifExp hc ha hb) fun σ H Q h => ?_
  obtain ⟨ms, S, ρ, ev, st, p⟩ := h
  refine ⟨ms, S, ρ, ev, st, Post.split p fun k S1 x ms1 H1 _ f1 s1 r1 p1 => ?_⟩
  cases r1
  cases k with
  | true => exact iteT ⟨ms1, S1, ρ, ev.fut f1, s1, p1⟩
  | false => exact iteF ⟨ms1, S1, ρ, ev.fut f1, s1, p1⟩
theorem d_chn {c : Expr} {fc : EF} {op op' : CmpOp} {r r' : R2} {g g' : D → D → Sto → R D} (ho : OpR X (compareOp op) r) (ho' : OpR X (compareOp op') r') (hr : OpD (wd X Y) r g) (hr' : OpD (wd X Y) r' g')
    (ha : DE X Y a fa) (hb : DE X Y b fb) (hc : DE X Y c fc) (hm : lastMarks [op, op'] [b, c] = false := by rfl) : DE X Y (.Compare a [op, op'] [b, c] pos) (chnF g g' fa fb fc) := by
  refine PE.weak (pe_chain ho ho' ha hb hc hm) fun σ H Q h => ?_
  obtain ⟨ms, S, ρ, ev, st, p⟩ := h
  refine ⟨ms, S, ρ, ev, st, Post.split p fun d S1 x ms1 H1 _ f1 s1 r1 p1 => ⟨ms1, S1, ρ, ev.fut f1, s1, Post.split p1 fun e S2 y ms2 H2 _ f2 s2 r2 p2 => ?_⟩⟩
  refine hr ms2 S2 H2 x y d e _ _ s2 (Rp.fut r1 f2) r2 (Post.split p2 fun z S3 v ms3 H3 _ f3 s3 r3 p3 => ?_)
  cases r3 with
  | bl k =>
    refine ⟨k, rfl, ?_⟩
    cases k with
    | true =>
      refine iteT ⟨ms3, S3, ρ, ev.fut (f1.trans (f2.trans f3)), s3, Post.split p3 fun k S4 u ms4 H4 _ f4 s4 r4 p4 => ?_⟩
      exact hr' ms4 S4 H4 y u e k _ _ s4 (Rp.fut r2 (f3.trans f4)) r4 p4
    | false => exact iteF (p3 _ ms3 H3 (Fut.refl _ _) s3 (.bl false))
  | _ => exact p3.elim
theorem d_chnT {c : Expr} {fc : EF} {op op' : CmpOp} {r r' : R2} {g g' : D → D → Sto → R D} (ho : OpR X (compareOp op) r) (ho' : OpR X (compareOp op') r') (hr : OpD (wd X Y) r g) (hr' : OpD (wd X Y) r' g')
    (ha : DE X Y a fa) (hb : DE X Y b fb) (hc : DE X Y c fc) (hm : lastMarks [op, op'] [b, c] = false := by rfl) : DT X Y (.Compare a [op, op'] [b, c] pos) (tstF (chnF g g' fa fb fc)) := by
  refine PT.weak (pt_chain ho ho' ha hb hc hm) fun σ H Q h => ?_
  obtain ⟨ms, S, ρ, ev, st, p⟩ := tst_of h
  refine ⟨ms, S, ρ, ev, st, Post.split p fun d S1 x ms1 H1 _ f1 s1 r1 p1 => ⟨ms1, S1, ρ, ev.fut f1, s1, Post.split p1 fun e S2 y ms2 H2 _ f2 s2 r2 p2 => ?_⟩⟩
  refine hr ms2 S2 H2 x y d e _ _ s2 (Rp.fut r1 f2) r2 (Post.split p2 fun z S3 v ms3 H3 _ f3 s3 r3 p3 => ?_)
  cases r3 with
  | bl k =>
    refine ⟨k, rfl, ?_⟩
    cases k with
    | true =>
      refine iteT ⟨ms3, S3, ρ, ev.fut (f1.trans (f2.trans f3)), s3, Post.split p3 fun k S4 u ms4 H4 _ f4 s4 r4 p4 => ?_⟩
      exact hr' ms4 S4 H4 y u e k _ _ s4 (Rp.fut r2 (f3.trans f4)) r4 p4
    | false =>
      exact iteF (p3 _ ms3 H3 (Fut.refl _ _) s3 (.bl false))
  | _ => exact p3.elim

/-! ### arguments, displays -/
def nilF : F (List D) := fun _ S => .ok [] S
def consF (fe : EF) (fs : F (List D)) : F (List D) := fun ρ S => (fe ρ S).bind fun d S1 => (fs ρ S1).bind fun ds S2 => .ok (d :: ds) S2
theorem da_nil : DA X Y [] nilF := PA.weak pa_nil fun σ H Q ⟨ms, S, ρ, ev, st, p⟩ => p [] ms H (Fut.refl _ _) st .nil
theorem da_cons {e : Expr} {es : List Expr} {fe : EF} {fs : F (List D)} (he : DE X Y e fe) (hs : DA X Y es fs) (h1 : starEach (e :: es) X.env = (false, eval e X.env) :: starEach es X.env := by rfl) : DA X Y (e :: es) (consF fe fs) := by
  refine PA.weak (pa_cons he hs h1) fun σ H Q h => ?_
  obtain ⟨ms, S, ρ, ev, st, p⟩ := h
  refine ⟨ms, S, ρ, ev, st, Post.split p fun d S1 x ms1 H1 _ f1 s1 r1 p1 => ⟨ms1, S1, ρ, ev.fut f1, s1, Post.split p1 fun ds S2 xs ms2 H2 _ f2 s2 r2 p2 => ?_⟩⟩
  exact p2 (x :: xs) ms2 H2 (Fut.refl _ _) s2 (.cons (Rp.fut r1 f2) r2)
noncomputable def tupF (fs : F (List D)) : EF := fun ρ S => (fs ρ S).bind fun ds S1 => if NLe ds.length sizeLine then .ok (.tup ds) S1 else .bad
noncomputable def lstF (fs : F (List D)) : EF := fun ρ S => (fs ρ S).bind fun ds S1 => if NLe ds.length sizeLine then .ok (.lst ds) S1 else .bad
/-- an owned list -/
noncomputable def ownF (fs : F (List D)) : EF := fun ρ S => (fs ρ S).bind fun ds S1 => if NLe ds.length sizeLine then .ok (.cell S1.length) (S1 ++ [.lst ds]) else .bad
theorem d_tup {es : List Expr} {fs : F (List D)} {x1 : Nat} (h : DA X Y es fs) : DE X Y (.Tuple es x1 pos) (tupF fs) := by
  refine PE.weak (pe_tup h) fun σ H Q h => ?_
  obtain ⟨ms, S, ρ, ev, st, p⟩ := h
  refine ⟨ms, S, ρ, ev, st, Post.split p fun ds S1 xs ms1 H1 _ f1 s1 r1 p1 => ?_⟩
  by_cases hl : NLe ds.length sizeLine
  · rw [if_pos hl] at p1
    refine ⟨by rw [r1.length]; exact hl, fun a ha => p1 _ ms1 _ (Fut.new s1 ha) (s1.new ha) (.tup (.inl (.inl (era_new s1 ha))) (RpL.fut r1 (Fut.new s1 ha)))⟩
  · rw [if_neg hl] at p1; exact p1.elim
theorem d_lst {es : List Expr} {fs : F (List D)} (h : DA X Y es fs) : DE X Y (.List es pos) (lstF fs) := by
  refine PE.weak (pe_lst h) fun σ H Q h => ?_
  obtain ⟨ms, S, ρ, ev, st, p⟩ := h
  refine ⟨ms, S, ρ, ev, st, Post.split p fun ds S1 xs ms1 H1 _ f1 s1 r1 p1 => ?_⟩
  by_cases hl : NLe ds.length sizeLine
  · rw [if_pos hl] at p1
    refine ⟨by rw [r1.length]; exact hl, fun a ha => p1 _ ms1 _ (Fut.new s1 ha) (s1.new ha) (.lst (era_new s1 ha) (RpL.fut r1 (Fut.new s1 ha)))⟩
  · rw [if_neg hl] at p1; exact p1.elim
theorem d_own {es : List Expr} {fs : F (List D)} (h : DA X Y es fs) : DE X Y (.List es pos) (ownF fs) := by
  refine PE.weak (pe_lst h) fun σ H Q h => ?_
  obtain ⟨ms, S, ρ, ev, st, p⟩ := h
  refine ⟨ms, S, ρ, ev, st, Post.split p fun ds S1 xs ms1 H1 _ f1 s1 r1 p1 => ?_⟩
  by_cases hl : NLe ds.length sizeLine
  · rw [if_pos hl] at p1
    refine ⟨by rw [r1.length]; exact hl, fun a ha => p1 _ (ms1 ++ [a]) _ (Fut.own ha) (s1.ownL ha r1) (.cell ?_)⟩
    rw [← s1.len, List.getElem?_append_right (Nat.le_refl _), Nat.sub_self]
    rfl
  · rw [if_neg hl] at p1; exact p1.elim
end

/-! ### statements -/
section
variable {X : Cx} {Y : Yx} {st : Stmt} {rest : List Stmt} {g u : SF} {e : Expr} {fe : EF} {pos : Pos}
def nxS : SF := fun ρ S => .nx ρ S
def seqS (g u : SF) : SF := fun ρ S => (g ρ S).seq u
theorem dss_nil : DSs X Y [] nxS := PSs.weak pss_nil fun D σ H ⟨ms, S, ρ, ev, st, p⟩ => p σ ms H (Fut.refl _ _) st ev
theorem seq_of {W : Wd} {Wx : WX} {g u : SF} {D : Ends} {σ : St} {H : Hp} (h : tDS W Wx (seqS g u) D σ H) : tDS W Wx g { D with nx := tDS W Wx u D } σ H := by
  obtain ⟨ms, S, ρ, ev, st, p⟩ := h
  refine ⟨ms, S, ρ, ev, st, ?_⟩
  unfold seqS at p
  cases hg : g ρ S with
  | nx ρ' S' =>
    rw [hg] at p
    exact fun σ' ms' H' f s e => ⟨ms', S', ρ', e, s, PostS.fut (r := u ρ' S') p f⟩
  | rt d S' => rw [hg] at p; exact p
  | bk ρ' S' => rw [hg] at p; exact p
  | ct ρ' S' => rw [hg] at p; exact p
  | exc c ks ds ρ' S' => rw [hg] at p; exact p
  | bad => rw [hg] at p; exact p
theorem dss_cons (h1 : DS X Y st g) (h2 : DSs X Y rest u) : DSs X Y (st :: rest) (seqS g u) := PSs.weak (pss_cons h1 h2) fun _ _ _ h => seq_of h
theorem dss_one (h1 : DS X Y st g) : DSs X Y [st] g := pss_one h1
theorem ds_pass : DS X Y (.Pass pos) nxS := PS.weak ps_pass fun D σ H ⟨ms, S, ρ, ev, st, p⟩ => p σ ms H (Fut.refl _ _) st ev
def bkS : SF := fun ρ S => .bk ρ S
def ctS : SF := fun ρ S => .ct ρ S
theorem ds_break : DS X Y (.Break pos) bkS := PS.weak ps_break fun D σ H ⟨ms, S, ρ, ev, st, p⟩ => p σ ms H (Fut.refl _ _) st ev
theorem ds_continue : DS X Y (.Continue pos) ctS := PS.weak ps_continue fun D σ H ⟨ms, S, ρ, ev, st, p⟩ => p σ ms H (Fut.refl _ _) st ev
theorem ds_doc {x : Str} {j : Nat} {pos pos' : Pos} : DS X Y (.Expr (.Constant (.str x) j pos) pos') nxS := PS.weak ps_doc fun D σ H ⟨ms, S, ρ, ev, st, p⟩ => p σ ms H (Fut.refl _ _) st ev
def dropS (fe : EF) : SF := fun ρ S => (fe ρ S).st ρ fun _ S1 => .nx ρ S1
def retS (fe : EF) : SF := fun ρ S => (fe ρ S).st ρ fun d S1 => .rt d S1
def retN : SF := fun _ S => .rt .non S
def setS (i : Nat) (fe : EF) : SF := fun ρ S => (fe ρ S).st ρ fun d S1 => .nx (ρ.set i (some d)) S1
def ifS (t : F Bool) (g u : SF) : SF := fun ρ S => (t ρ S).st ρ fun k S1 => if k then g ρ S1 else u ρ S1
theorem ds_expr (he : DE X Y e fe) (hs : swapsWith e none pos.line X.env = pure false := by rfl) : DS X Y (.Expr e pos) (dropS fe) := by
  refine PS.weak (ps_expr he hs) fun D σ H h => ?_
  obtain ⟨ms, S, ρ, ev, st, p⟩ := h
  exact ⟨ms, S, ρ, ev, st, PostS.split ev p fun d S1 x ms1 H1 _ f1 s1 r1 p1 => p1 σ ms1 H1 (Fut.refl _ _) s1 (ev.fut f1)⟩
theorem ds_ret (he : DE X Y e fe) : DS X Y (.Return (some e) pos) (retS fe) := by
  refine PS.weak (ps_ret he) fun D σ H h => ?_
  obtain ⟨ms, S, ρ, ev, st, p⟩ := h
  exact ⟨ms, S, ρ, ev, st, PostS.split ev p fun d S1 x ms1 H1 _ f1 s1 r1 p1 => p1 x ms1 H1 (Fut.refl _ _) s1 r1⟩
theorem ds_retN : DS X Y (.Return none pos) retN := PS.weak ps_retN fun D σ H ⟨ms, S, ρ, ev, st, p⟩ => p .non ms H (Fut.refl _ _) st .non
theorem ds_set {i : Nat} {x : Str} {pos' : Pos} (hN : X.N.Nodup) (hi : X.N[i]? = some x) (hx : Loc X.env.scope x) (he : DE X Y e fe) (hs : swapsWith e (some (.Name x pos')) pos.line X.env = pure false := by rfl)
    (hf : X.fn x = true ∨ X.env.scope.names.lookup x = some .local := by first | exact .inl rfl | exact .inr rfl | assumption) : DS X Y (.Assign [.Name x pos'] e pos) (setS i fe) := by
  refine PS.weak (ps_set hN hi hx he hs hf) fun D σ H h => ?_
  obtain ⟨ms, S, ρ, ev, st, p⟩ := h
  exact ⟨ms, S, ρ, ev, st, PostS.split ev p fun d S1 x ms1 H1 _ f1 s1 r1 p1 => p1 _ ms1 H1 (Fut.refl _ _) s1 ((ev.fut f1).set r1 i)⟩
theorem ds_if {c : Expr} {a b : List Stmt} {t : F Bool} (hc : DT X Y c t) (ha : DSs X Y a g) (hb : DSs X Y b u) : DS X Y (.If c a b pos) (ifS t g u) := by
  refine PS.weak (ps_if hc ha hb) fun D σ H h => ?_
  obtain ⟨ms, S, ρ, ev, st, p⟩ := h
  refine ⟨ms, S, ρ, ev, st, PostS.split ev p fun k S1 x ms1 H1 _ f1 s1 r1 p1 => ?_⟩
  cases r1
  cases k with
  | true => exact iteT ⟨ms1, S1, ρ, ev.fut f1, s1, p1⟩
  | false => exact iteF ⟨ms1, S1, ρ, ev.fut f1, s1, p1⟩
/-- code that is never come to -/
def badS : SF := fun _ _ => .bad
theorem ds_never : DS X Y st badS := PS.weak ps_never fun D σ H ⟨ms, S, ρ, ev, st, p⟩ => p.elim
theorem dss_never {sts : List Stmt} : DSs X Y sts badS := PSs.weak pss_never fun D σ H ⟨ms, S, ρ, ev, st, p⟩ => p.elim
end

/-! ### targets -/
abbrev GF := D → Nv → Sto → Option Nv
abbrev GsF := List D → Nv → Sto → Option Nv
/-- σ' is σ but at the slots is -/
def Sets (is : List Nat) (σ σ' : St) : Prop := ∀ vs : List Nat, (∀ i ∈ is, i ∈ vs) → wipe σ' vs = wipe σ vs
theorem wipe_at (σ : St) (j : Nat) : ∀ vs : List Nat, (wipe σ vs)[j]? = if j ∈ vs then (if j < σ.length then some none else none) else σ[j]?
  | [] => by simp [wipe]
  | v :: vs => by
    have ih := wipe_at σ j vs
    unfold wipe
    by_cases h : v = j
    · subst h
      rw [if_pos (by simp)]
      by_cases hl : v < σ.length
      · rw [if_pos hl, List.getElem?_set_self (by rw [wipe_length]; exact hl)]
      · rw [if_neg hl, List.getElem?_eq_none (by simpa [wipe_length] using hl)]
    · rw [List.getElem?_set_ne h, ih]
      by_cases hv : j ∈ vs
      · rw [if_pos hv, if_pos (List.mem_cons_of_mem _ hv)]
      · rw [if_neg hv, if_neg (by simp [hv, Ne.symm h])]
theorem Sets.one (σ : St) (i : Nat) (v : Option V) : Sets [i] σ (σ.set i v) := fun vs h => by
  have hi : i ∈ vs := h i (by simp)
  apply List.ext_getElem?
  intro j
  rw [wipe_at, wipe_at, List.length_set]
  by_cases hj : j ∈ vs
  · rw [if_pos hj, if_pos hj]
  · rw [if_neg hj, if_neg hj, List.getElem?_set_ne (fun e => hj (by rw [← e]; exact hi))]
theorem Sets.refl (is : List Nat) (σ : St) : Sets is σ σ := fun _ _ => rfl
theorem Sets.trans {is js : List Nat} {σ σ1 σ2 : St} (a : Sets is σ σ1) (b : Sets js σ1 σ2) : Sets (is ++ js) σ σ2 := fun vs h =>
  (b vs fun i hi => h i (List.mem_append_right _ hi)).trans (a vs fun i hi => h i (List.mem_append_left _ hi))
def tG (W : Wd) (is : List Nat) (g : GF) : TG := fun v σ H Q => ∃ ms S ρ d, Rp W ms (era ms H) v d ∧ Ev W ρ σ ms H ∧ StOk W ms S H ∧ ∃ ρ', g d ρ S = some ρ' ∧ ∀ σ', Ev W ρ' σ' ms H → Sets is σ σ' → Q σ' H
def tGs (W : Wd) (is : List Nat) (g : GsF) : TGs := fun vs σ H Q => ∃ ms S ρ ds, RpL W ms (era ms H) vs ds ∧ Ev W ρ σ ms H ∧ StOk W ms S H ∧ ∃ ρ', g ds ρ S = some ρ' ∧ ∀ σ', Ev W ρ' σ' ms H → Sets is σ σ' → Q σ' H
abbrev DG (X : Cx) (Y : Yx) (t : Expr) (is : List Nat) (g : GF) : Prop := PG X t (tG (wd X Y) is g)
abbrev DGs (X : Cx) (Y : Yx) (ts : List Expr) (is : List Nat) (g : GsF) : Prop := PGs X ts (tGs (wd X Y) is g)
theorem PG.weak {X : Cx} {e : Expr} {t t' : TG} (h : PG X e t) (w : ∀ v σ H Q, t' v σ H Q → t v σ H Q) : PG X e t' := ⟨fun pins s σ H v u Q I r q => h.run pins s σ H v u Q I r (w v σ H Q q)⟩
theorem PGs.weak {X : Cx} {e : List Expr} {t t' : TGs} (h : PGs X e t) (w : ∀ v σ H Q, t' v σ H Q → t v σ H Q) : PGs X e t' := ⟨fun pins s σ H v u Q I r q => h.run pins s σ H v u Q I r (w v σ H Q q)⟩
section
variable {X : Cx} {Y : Yx} {pos : Pos}
def nmG (i : Nat) : GF := fun d ρ _ => some (ρ.set i (some d))
theorem dg_name {i : Nat} {x : Str} (hN : X.N.Nodup) (hi : X.N[i]? = some x) (hx : Loc X.env.scope x) (hf : X.fn x = true ∨ X.env.scope.names.lookup x = some .local := by first | exact .inl rfl | exact .inr rfl | assumption) : DG X Y (.Name x pos) [i] (nmG i) := by
  refine PG.weak (pg_name hN hi hx hf) fun v σ H Q h => ?_
  obtain ⟨ms, S, ρ, d, r, ev, st, ρ', e, p⟩ := h
  cases e
  exact p _ (ev.set r i) (Sets.one σ i _)
def nilG : GsF := fun ds ρ _ => match ds with
  | [] => some ρ
  | _ => none
def consG (g : GF) (gs : GsF) : GsF := fun ds ρ S => match ds with
  | d :: ds => (g d ρ S).bind fun ρ' => gs ds ρ' S
  | [] => none
def tupG (n : Nat) (gs : GsF) : GF := fun d ρ S => match d with
  | .tup ds => if ds.length = n then gs ds ρ S else none
  | _ => none
theorem dgs_nil : DGs X Y [] [] nilG := by
  refine PGs.weak pgs_nil fun v σ H Q h => ?_
  obtain ⟨ms, S, ρ, ds, r, ev, st, ρ', e, p⟩ := h
  cases ds with
  | nil => cases r; cases e; exact ⟨rfl, p _ ev (Sets.refl _ _)⟩
  | cons a b => cases e
theorem dgs_cons {e : Expr} {es : List Expr} {is js : List Nat} {g : GF} {gs : GsF} (h1 : DG X Y e is g) (h2 : DGs X Y es js gs) (hs : (assignEach (e :: es) X.env).map (·.2) = assign e X.env :: (assignEach es X.env).map (·.2) := by rfl) : DGs X Y (e :: es) (is ++ js) (consG g gs) := by
  refine PGs.weak (pgs_cons h1 h2 hs) fun v σ H Q h => ?_
  obtain ⟨ms, S, ρ, ds, r, ev, st, ρ', e, p⟩ := h
  cases ds with
  | nil => cases e
  | cons d ds =>
    cases r with
    | cons r1 r2 =>
      obtain ⟨ρ1, e1, e2⟩ := Option.bind_eq_some_iff.mp e
      exact ⟨_, _, rfl, ms, S, ρ, d, r1, ev, st, ρ1, e1, fun σ' ev' t1 => ⟨ms, S, ρ1, ds, r2, ev', st, ρ', e2, fun σ2 ev2 t2 => p σ2 ev2 (t1.trans t2)⟩⟩
theorem dg_tup {es : List Expr} {k : Nat} {is : List Nat} {gs : GsF} {n : Nat} (hc : X.calm = true) (h : DGs X Y es is gs)
    (hn : (assignEach es X.env).length = n := by rfl) (hst : (assignEach es X.env).findIdx? (·.1) = none := by rfl) : DG X Y (.Tuple es k pos) is (tupG n gs) := by
  refine PG.weak (pg_tup hc h hn hst) fun v σ H Q h => ?_
  obtain ⟨ms, S, ρ, d, r, ev, st, ρ', e, p⟩ := h
  cases r with
  | tup a b =>
    unfold tupG at e
    dsimp only at e
    split at e
    · rename_i hl
      exact ⟨_, _, rfl, Same.sqT (era_same _ _) a, by rw [b.length, hl], ms, S, ρ, _, b, ev, st, ρ', e, p⟩
    · cases e
  | _ => cases e
end

/-! ### what is walked -/
/-- the walk J yields the items ds from the state (ms, H) on -/
structure IsIt (W : Wd) (J : It) (ds : List D) (ms : List Addr) (H : Hp) : Prop where
  step : ∀ ms1 H1 S1 i, Fut ms H ms1 H1 → StOk W ms1 S1 H1 → i < ds.length → J.go i H1 ∧ ∀ x H2, J.yld i H1 x H2 → Fut ms1 H1 ms1 H2 ∧ StOk W ms1 S1 H2 ∧ ∀ d, ds[i]? = some d → Rp W ms1 (era ms1 H2) x d
  stop : ∀ ms1 H1 S1, Fut ms H ms1 H1 → StOk W ms1 S1 H1 → J.stop ds.length H1
theorem IsIt.fut {W : Wd} {J : It} {ds : List D} {ms ms' : List Addr} {H H' : Hp} (h : IsIt W J ds ms H) (f : Fut ms H ms' H') : IsIt W J ds ms' H' :=
  ⟨fun ms1 H1 S1 i g => h.step ms1 H1 S1 i (f.trans g), fun ms1 H1 S1 g => h.stop ms1 H1 S1 (f.trans g)⟩
/-- reads a walk: relation of It and items -/
abbrev relI (W : Wd) : List Addr → Hp → It → List D → Prop := fun _ _ _ _ => True
def tI (W : Wd) (Wx : WX) (f : F (List D)) : TI := fun σ H R => ∃ ms S ρ, Ev W ρ σ ms H ∧ StOk W ms S H ∧ (match f ρ S with
  | .ok ds S' => ∀ J ms' H', Fut ms H ms' H' → StOk W ms' S' H' → IsIt W J ds ms' H' → R J H'
  | .exc c ks ds S' => ∀ C dd ms' H', Fut ms H ms' H' → StOk W ms' S' H' → Xr W ms' H' c ks ds C dd → Wx (.ref C) (some dd) σ H'
  | .bad => False)
abbrev DI (X : Cx) (Y : Yx) (tg iter : Expr) (f : F (List D)) : Prop := PI X tg iter (tI (wd X Y) Y.wx f)
theorem PI.weak {X : Cx} {tg e : Expr} {t t' : TI} (h : PI X tg e t) (w : ∀ σ H R, t' σ H R → t σ H R) : PI X tg e t' := ⟨fun pins s σ H R I q => h.run pins s σ H R I (w σ H R q)⟩

/-- from an expression (or arguments) to its walk -/
theorem tI_of {α β : Type} {W : Wd} {Wx : WX} {Rel : List Addr → Hp → β → α → Prop} {f : F α} {k : α → Sto → R (List D)} {σ : St} {H : Hp} {R' : It → Hp → Prop} {Q1 : β → Hp → Prop}
    (h : tI W Wx (fun ρ S => (f ρ S).bind k) σ H R')
    (hk : ∀ a S1 b ms1 H1 ds S', k a S1 = .ok ds S' → StOk W ms1 S1 H1 → Rel ms1 (era ms1 H1) b a →
      (∀ J ms' H', Fut ms1 H1 ms' H' → StOk W ms' S' H' → IsIt W J ds ms' H' → R' J H') → Q1 b H1) (hne : ∀ a S1 c ks ds S', k a S1 ≠ .exc c ks ds S') : tX W Wx Rel f σ H Q1 := by
  obtain ⟨ms, S, ρ, ev, st, p⟩ := h
  refine ⟨ms, S, ρ, ev, st, ?_⟩
  dsimp only at p
  cases hf : f ρ S with
  | ok a S1 =>
    rw [hf, R.bind_ok] at p
    intro b ms1 H1 g s r
    cases hka : k a S1 with
    | ok ds S' => rw [hka] at p; exact hk a S1 b ms1 H1 ds S' hka s r fun J ms' H' g' s' i => p J ms' H' (g.trans g') s' i
    | exc c ks ds S' => exact absurd hka (hne a S1 c ks ds S')
    | bad => rw [hka] at p; exact p.elim
  | exc c ks ds S' => rw [hf] at p; exact p
  | bad => rw [hf] at p; exact p
section
variable {X : Cx} {Y : Yx} {tg : Expr}
theorem Itl.is {W : Wd} {ms : List Addr} {H : Hp} {a : Addr} {vs : List V} {ds : List D} (h : SqL W.K (era ms H) a vs) (r : RpL W ms (era ms H) vs ds) : IsIt W (Itl W.K a) ds ms H := by
  refine ⟨fun ms1 H1 S1 i f s hi => ?_, fun ms1 H1 S1 f s => ?_⟩
  · have q : SqL W.K H1 a vs := Same.seq (f.same.trans (era_same _ _)) h
    have hv : i < vs.length := by rw [r.length]; exact hi
    refine ⟨⟨vs, vs[i], q, List.getElem?_eq_getElem hv⟩, fun x H2 y => ?_⟩
    obtain ⟨rfl, hy⟩ := y
    refine ⟨Fut.refl _ _, s, fun d hd => ?_⟩
    obtain ⟨v, e, rr⟩ := r.get hd
    have := hy vs q
    rw [e] at this; cases this
    exact Rp.fut rr f
  · exact ⟨vs, Same.seq (f.same.trans (era_same _ _)) h, by rw [r.length]; exact Nat.le_refl _⟩
theorem Itt.is {W : Wd} {ms : List Addr} {H : Hp} {a : Addr} {vs : List V} {ds : List D} (h : SqT W.K (era ms H) a vs) (r : RpL W ms (era ms H) vs ds) : IsIt W (Itt W.K a) ds ms H := by
  refine ⟨fun ms1 H1 S1 i f s hi => ?_, fun ms1 H1 S1 f s => ?_⟩
  · have q : SqT W.K H1 a vs := Same.sqT (f.same.trans (era_same _ _)) h
    have hv : i < vs.length := by rw [r.length]; exact hi
    refine ⟨⟨vs, vs[i], q, List.getElem?_eq_getElem hv⟩, fun x H2 y => ?_⟩
    obtain ⟨rfl, hy⟩ := y
    refine ⟨Fut.refl _ _, s, fun d hd => ?_⟩
    obtain ⟨v, e, rr⟩ := r.get hd
    have := hy vs q
    rw [e] at this; cases this
    exact Rp.fut rr f
  · exact ⟨vs, Same.sqT (f.same.trans (era_same _ _)) h, by rw [r.length]; exact Nat.le_refl _⟩
theorem Itr.is {W : Wd} {ms : List Addr} {H : Hp} (lo : Int) (n : Nat) : IsIt W (Itr lo n) ((List.range n).map fun k => D.int (lo + (k : Nat))) ms H := by
  refine ⟨fun ms1 H1 S1 i f s hi => ?_, fun ms1 H1 S1 f s => ?_⟩
  · have hi' : i < n := by simpa using hi
    refine ⟨hi', fun x H2 y => ?_⟩
    obtain ⟨rfl, rfl⟩ := y
    refine ⟨Fut.refl _ _, s, fun d hd => ?_⟩
    rw [List.getElem?_map, List.getElem?_range hi'] at hd
    cases hd
    exact .int _
  · show n ≤ _
    simp
theorem Its.is {W : Wd} {ms : List Addr} {H : Hp} (z : Str) : IsIt W (Its z) (z.cps.toList.map fun c => D.str ⟨#[c]⟩) ms H := by
  refine ⟨fun ms1 H1 S1 i f s hi => ?_, fun ms1 H1 S1 f s => ?_⟩
  · have hi' : i < z.cps.size := by simpa using hi
    refine ⟨hi', fun x H2 y => ?_⟩
    obtain ⟨rfl, c, hc, rfl⟩ := y
    refine ⟨Fut.refl _ _, s, fun d hd => ?_⟩
    rw [List.getElem?_map, Array.getElem?_toList, hc] at hd
    cases hd
    exact .str _
  · show z.cps.size ≤ _
    simp
/-- a list, a tuple, a text -/
def seqI (d : D) (S : Sto) : R (List D) := match d with
  | .lst ds => .ok ds S
  | .rol ds => .ok ds S
  | _ => .bad
def tupI (d : D) (S : Sto) : R (List D) := match d with
  | .tup ds => .ok ds S
  | _ => .bad
def strI (d : D) (S : Sto) : R (List D) := match d with
  | .str z => .ok (z.cps.toList.map fun c => D.str ⟨#[c]⟩) S
  | _ => .bad
def itF (k : D → Sto → R (List D)) (fe : EF) : F (List D) := fun ρ S => (fe ρ S).bind k
theorem di_list {e : Expr} {fe : EF} (he : DE X Y e fe) : DI X Y tg e (itF seqI fe) := by
  refine PI.weak (pi_list he) fun σ H R' h => tI_of (k := seqI) h (fun d S1 v ms1 H1 ds' S' e s r p => ?_) fun d S1 c ks ds S' => by unfold seqI; split <;> simp
  cases r with
  | lst a b =>
    cases e
    have q : SqL X.K (era ms1 H1) _ _ := .inl (.inl a)
    exact ⟨_, rfl, ⟨_, Same.seq (era_same _ _) q⟩, p _ ms1 H1 (Fut.refl _ _) s (Itl.is (W := wd X Y) q b)⟩
  | rol a b => cases e; exact ⟨_, rfl, ⟨_, Same.seq (era_same _ _) a⟩, p _ ms1 H1 (Fut.refl _ _) s (Itl.is (W := wd X Y) a b)⟩
  | _ => cases e
theorem di_tup {e : Expr} {fe : EF} (he : DE X Y e fe) : DI X Y tg e (itF tupI fe) := by
  refine PI.weak (pi_tup he) fun σ H R' h => tI_of (k := tupI) h (fun d S1 v ms1 H1 ds' S' e s r p => ?_) fun d S1 c ks ds S' => by unfold tupI; split <;> simp
  cases r with
  | tup a b => cases e; exact ⟨_, rfl, ⟨_, Same.sqT (era_same _ _) a⟩, p _ ms1 H1 (Fut.refl _ _) s (Itt.is (W := wd X Y) a b)⟩
  | _ => cases e
theorem di_str {e : Expr} {fe : EF} (he : DE X Y e fe) : DI X Y tg e (itF strI fe) := by
  refine PI.weak (pi_str he) fun σ H R' h => tI_of (k := strI) h (fun d S1 v ms1 H1 ds' S' e s r p => ?_) fun d S1 c ks ds S' => by unfold strI; split <;> simp
  cases r with
  | str z => cases e; exact ⟨z, rfl, p _ ms1 H1 (Fut.refl _ _) s (Its.is (W := wd X Y) z)⟩
  | _ => cases e
noncomputable def rng1I (ds : List D) (S : Sto) : R (List D) := match ds with
  | [.int j] => if Bd (-(2 ^ 62) ≤ j ∧ j < 2 ^ 62) then .ok ((List.range j.toNat).map fun k => D.int (0 + (k : Nat))) S else .bad
  | _ => .bad
noncomputable def rng2I (ds : List D) (S : Sto) : R (List D) := match ds with
  | [.int i, .int j] => if Bd (-(2 ^ 62) ≤ i ∧ i < 2 ^ 62 ∧ -(2 ^ 62) ≤ j ∧ j < 2 ^ 62) then .ok ((List.range (j - i).toNat).map fun k => D.int (i + (k : Nat))) S else .bad
  | _ => .bad
def itA (k : List D → Sto → R (List D)) (fe : F (List D)) : F (List D) := fun ρ S => (fe ρ S).bind k
theorem di_range1 {a : Expr} {fa : F (List D)} {p pos : Pos} (hg : Gl X "range") (hm : X.mg "range" = none) (ha : DA X Y [a] fa) (hs : starEach [a] X.env = [(false, eval a X.env)] := by rfl) : DI X Y tg (.Call (.Name "range" p) [a] [] pos) (itA rng1I fa) := by
  refine PI.weak (pi_range1 hg hm ha hs) fun σ H R' h => tI_of (k := rng1I) h (fun ds S1 vs ms1 H1 ds' S' e s r p => ?_) fun ds S1 c ks es S' => by unfold rng1I; split <;> (try split) <;> simp
  unfold rng1I at e
  split at e
  · rename_i j
    split at e
    · rename_i hb
      cases e
      cases r with
      | cons r1 r2 =>
        cases r1; cases r2
        exact ⟨j, rfl, hb.1, hb.2, p _ ms1 H1 (Fut.refl _ _) s (Itr.is 0 j.toNat)⟩
    · cases e
  · cases e
theorem di_range2 {a b : Expr} {fa : F (List D)} {p pos : Pos} (hg : Gl X "range") (hm : X.mg "range" = none) (ha : DA X Y [a, b] fa) (hs : starEach [a, b] X.env = [(false, eval a X.env), (false, eval b X.env)] := by rfl) (hs2 : starEach [b] X.env = [(false, eval b X.env)] := by rfl) :
    DI X Y tg (.Call (.Name "range" p) [a, b] [] pos) (itA rng2I fa) := by
  refine PI.weak (pi_range2 hg hm ha hs hs2) fun σ H R' h => tI_of (k := rng2I) h (fun ds S1 vs ms1 H1 ds' S' e s r p => ?_) fun ds S1 c ks es S' => by unfold rng2I; split <;> (try split) <;> simp
  unfold rng2I at e
  split at e
  · rename_i i j
    split at e
    · rename_i hb
      cases e
      cases r with
      | cons r1 r2 =>
        cases r2 with
        | cons r2 r3 =>
          cases r1; cases r2; cases r3
          exact ⟨i, j, rfl, hb, p _ ms1 H1 (Fut.refl _ _) s (Itr.is i (j - i).toNat)⟩
    · cases e
  · cases e
end

/-! ### for -/
def forL (g : GF) (body : SF) : List D → SF
  | [] => fun ρ S => .nx ρ S
  | d :: ds => fun ρ S => match g d ρ S with
    | none => .bad
    | some ρ1 => (body ρ1 S).turn (forL g body ds)
def forS (fi : F (List D)) (g : GF) (body : SF) : SF := fun ρ S => (fi ρ S).st ρ fun ds S1 => forL g body ds ρ S1
section
variable {X : Cx} {Y : Yx} {tg : Expr}
theorem ds_for {iter : Expr} {body : List Stmt} {fi : F (List D)} {is : List Nat} {g : GF} {u : SF} {pos : Pos} (hp : PassesOwn (model X.prog X.w) X.A X.env X.xe) (hc : X.calm = true) (hi : DI X Y tg iter fi) (hg : DG X Y tg is g) (hb : DSs X Y body u)
    (hs : ∀ x, foldedSetIterable iter X.env x = pure x := by intro _; rfl) : DS X Y (.For tg iter body [] pos) (forS fi g u) := by
  refine PS.weak (ps_for hp hc hi hg hb hs) fun D σ H h => ?_
  obtain ⟨ms, S, ρ, ev, st, p⟩ := h
  refine ⟨ms, S, ρ, ev, st, ?_⟩
  unfold forS at p
  cases hf : fi ρ S with
  | bad => rw [hf] at p; exact p
  | exc c ks ds S' => rw [hf] at p; exact fun C dd ms1 H1 f s x => p σ C dd ms1 H1 f s (ev.fut f) x
  | ok ds S1 =>
    rw [hf, R.st_ok] at p
    intro J ms1 H1 f1 s1 isI
    -- the invariant: from turn i on what is left of the items gives the wanted end
    refine ⟨fun i m σ' H' => m = ds.length - i ∧ i ≤ ds.length ∧ ∃ ms' S' ρ', Fut ms1 H1 ms' H' ∧ StOk (wd X Y) ms' S' H' ∧ Ev (wd X Y) ρ' σ' ms' H' ∧ PostS (wd X Y) ms' H' (forL g u (ds.drop i) ρ' S') D Y.wx,
      ⟨ds.length, by simp, Nat.zero_le _, ms1, S1, ρ, Fut.refl _ _, s1, ev.fut f1, PostS.fut (r := forL g u ds ρ S1) p f1⟩, ?_⟩
    rintro i m σ' H' ⟨rfl, hi, ms', S', ρ', f', s', ev', p'⟩
    by_cases hlt : i < ds.length
    · refine .inr ⟨(isI.step ms' H' S' i f' s' hlt).1, fun σ' H' => ∃ ms' S' ρ', Fut ms1 H1 ms' H' ∧ StOk (wd X Y) ms' S' H' ∧ Ev (wd X Y) ρ' σ' ms' H' ∧ PostS (wd X Y) ms' H' (forL g u (ds.drop (i + 1)) ρ' S') D Y.wx,
        fun σ2 H2 ⟨ms2, S2, ρ2, q⟩ => ⟨ds.length - (i + 1), by omega, rfl, hlt, ms2, S2, ρ2, q⟩, fun x H2 y => ?_⟩
      obtain ⟨f2, s2, r2⟩ := (isI.step ms' H' S' i f' s' hlt).2 x H2 y
      rw [List.drop_eq_getElem_cons hlt] at p'
      have r3 := r2 ds[i] (List.getElem?_eq_getElem hlt)
      unfold forL at p'
      cases hgd : g ds[i] ρ' S' with
      | none => rw [hgd] at p'; exact p'.elim
      | some ρ1 =>
        rw [hgd] at p'
        have p' : PostS (wd X Y) ms' H' ((u ρ1 S').turn (forL g u (List.drop (i + 1) ds))) D Y.wx := p'
        refine ⟨ms', S', ρ', ds[i], r3, ev'.fut f2, s2, ρ1, hgd, fun σ3 ev3 _ => ⟨ms', S', ρ1, ev3, s2, ?_⟩⟩
        cases hu : u ρ1 S' with
        | nx ρ2 S2 => rw [hu] at p'; exact fun σ4 ms4 H4 f4 s4 ev4 => ⟨ms4, S2, ρ2, f'.trans (f2.trans f4), s4, ev4, PostS.fut p' (f2.trans f4)⟩
        | ct ρ2 S2 => rw [hu] at p'; exact fun σ4 ms4 H4 f4 s4 ev4 => ⟨ms4, S2, ρ2, f'.trans (f2.trans f4), s4, ev4, PostS.fut p' (f2.trans f4)⟩
        | bk ρ2 S2 => rw [hu] at p'; exact fun σ4 ms4 H4 f4 s4 ev4 => p' σ4 ms4 H4 (f2.trans f4) s4 ev4
        | rt d S2 => rw [hu] at p'; exact fun v ms4 H4 f4 s4 r4 => p' v ms4 H4 (f2.trans f4) s4 r4
        | exc c ks es ρ2 S2 => rw [hu] at p'; exact fun σ4 C dd ms4 H4 f4 s4 ev4 x4 => p' σ4 C dd ms4 H4 (f2.trans f4) s4 ev4 x4
        | bad => rw [hu] at p'; exact p'
    · have e : i = ds.length := by omega
      subst e
      refine .inl ⟨isI.stop ms' H' S' f' s', ?_⟩
      rw [List.drop_length] at p'
      exact p' σ' ms' H' (Fut.refl _ _) s' ev'
/-- while, with so many turns at most -/
def whileL (t : F Bool) (body : SF) : Nat → SF
  | 0 => fun _ _ => .bad
  | n + 1 => fun ρ S => (t ρ S).st ρ fun k S1 => if k then (body ρ S1).turn (whileL t body n) else .nx ρ S1
theorem ds_while {c : Expr} {body : List Stmt} {t : F Bool} {u : SF} {pos : Pos} (n : Nat) (hp : PassesOwn (model X.prog X.w) X.A X.env X.xe) (hc : DT X Y c t) (hb : DSs X Y body u) : DS X Y (.While c body [] pos) (whileL t u n) := by
  refine PS.weak (ps_while hp hc hb) fun D σ H h => ?_
  refine ⟨fun m σ H => tDS (wd X Y) Y.wx (whileL t u m) D σ H, ⟨n, h⟩, fun m σ H h => ?_⟩
  obtain ⟨ms, S, ρ, ev, st, p⟩ := h
  cases m with
  | zero => exact p.elim
  | succ m =>
    refine ⟨ms, S, ρ, ev, st, PostS.split ev p fun k S1 x ms1 H1 _ f1 s1 r1 p1 => ?_⟩
    cases r1
    cases k with
    | false => exact iteF (p1 σ ms1 H1 (Fut.refl _ _) s1 (ev.fut f1))
    | true =>
      rw [if_pos rfl] at p1
      refine iteT ⟨tDS (wd X Y) Y.wx (whileL t u m) D, fun σ' H' h' => ⟨m, Nat.lt_succ_self m, h'⟩, ms1, S1, ρ, ev.fut f1, s1, ?_⟩
      cases hu : u ρ S1 with
      | nx ρ2 S2 => rw [hu] at p1; exact fun σ4 ms4 H4 f4 s4 ev4 => ⟨ms4, S2, ρ2, ev4, s4, PostS.fut p1 f4⟩
      | ct ρ2 S2 => rw [hu] at p1; exact fun σ4 ms4 H4 f4 s4 ev4 => ⟨ms4, S2, ρ2, ev4, s4, PostS.fut p1 f4⟩
      | bk ρ2 S2 => rw [hu] at p1; exact p1
      | rt d S2 => rw [hu] at p1; exact p1
      | exc c ks es ρ2 S2 => rw [hu] at p1; exact p1
      | bad => rw [hu] at p1; exact p1
end
end Zd

set_option Elab.async false
set_option linter.all false
set_option maxRecDepth 100000
set_option maxHeartbeats 4000000
set_option autoImplicit false
/-! Zd, the operators, the calls. -/
namespace Zd
open PySem PySem.Spec L2
open PyProof.Rows hiding St

theorem op_weak {X : Cx} {f : Value → Value → Sem Value} {r r' : R2} (h : OpR X f r) (w : ∀ x y H Q, r' x y H Q → r x y H Q) : OpR X f r' := fun pins s σ H x y v u Q I rx ry q => h pins s σ H x y v u Q I rx ry (w x y H Q q)
/-- a result of one value that leaves all -/
def valD (d : D) (S : Sto) : R D := .ok d S

section
variable {W : Wd} {ms : List Addr} {S : Sto} {H : Hp} {Q : VK} {E : XK}
theorem Post.val {d : D} {v : V} (h : Post W (relD W) ms H (.ok d S) Q E) (s : StOk W ms S H) (r : Rp W ms (era ms H) v d) : Q v H := h v ms H (Fut.refl _ _) s r
theorem Post.newL {ds : List D} {vs : List V} (h : Post W (relD W) ms H (.ok (.lst ds) S) Q E) (s : StOk W ms S H) (r : RpL W ms (era ms H) vs ds) : ∀ p, H p = none → Q (.ref p) (upd H p (.lst vs)) := fun p hp =>
  h _ ms _ (Fut.new s hp) (s.new hp) (.lst (era_new s hp) (RpL.fut r (Fut.new s hp)))
theorem Post.newT {ds : List D} {vs : List V} (h : Post W (relD W) ms H (.ok (.tup ds) S) Q E) (s : StOk W ms S H) (r : RpL W ms (era ms H) vs ds) : ∀ p, H p = none → Q (.ref p) (upd H p (.tup vs)) := fun p hp =>
  h _ ms _ (Fut.new s hp) (s.new hp) (.tup (.inl (.inl (era_new s hp))) (RpL.fut r (Fut.new s hp)))
end

/-! ### a list, a tuple as they stand -/
/-- the items of a list: of data, or of a cell -/
def asL (d : D) (S : Sto) : Option (List D) := match d with
  | .lst ds => some ds
  | .rol ds => some ds
  | .cell n => match S[n]? with
    | some (.lst ds) => some ds
    | _ => none
  | _ => none
/-- .. that is tracked -/
def asT (d : D) (S : Sto) : Option (List D) := match d with
  | .lst ds => some ds
  | .cell n => match S[n]? with
    | some (.lst ds) => some ds
    | _ => none
  | _ => none
section
variable {W : Wd} {ms : List Addr} {S : Sto} {H : Hp} {d : D} {v : V} {ds : List D}
theorem asT_of (st : StOk W ms S H) (r : Rp W ms (era ms H) v d) (h : asT d S = some ds) : ∃ a vs, v = .ref a ∧ H a = some (.lst vs) ∧ RpL W ms (era ms H) vs ds := by
  unfold asT at h
  split at h
  · cases h; cases r with | lst a b => exact ⟨_, _, rfl, era_same _ _ _ _ a, b⟩
  · rename_i n
    split at h
    · rename_i es e
      cases h
      cases r with
      | cell a =>
        obtain ⟨vs, e1, r1⟩ := st.readL a e
        exact ⟨_, vs, rfl, e1, r1⟩
    · cases h
  · cases h
theorem asL_of (st : StOk W ms S H) (r : Rp W ms (era ms H) v d) (h : asL d S = some ds) : ∃ a vs, v = .ref a ∧ SqL W.K H a vs ∧ RpL W ms (era ms H) vs ds := by
  by_cases q : ∃ es, d = .rol es
  · obtain ⟨es, rfl⟩ := q
    cases h
    cases r with | rol a b => exact ⟨_, _, rfl, Same.seq (era_same _ _) a, b⟩
  · have h' : asT d S = some ds := by
      unfold asL at h; unfold asT
      cases d <;> first | exact h | exact absurd ⟨_, rfl⟩ q
    obtain ⟨a, vs, e, e1, r1⟩ := asT_of st r h'
    exact ⟨a, vs, e, SqL.of e1, r1⟩
theorem tup_of (r : Rp W ms (era ms H) v (.tup ds)) : ∃ a vs, v = .ref a ∧ SqT W.K H a vs ∧ RpL W ms (era ms H) vs ds := by
  cases r with | tup a b => exact ⟨_, _, rfl, Same.sqT (era_same _ _) a, b⟩
end

/-! ### arithmetic -/
section
variable {X : Cx} {Y : Yx}
def mulOk (i j : Int) : Bool := decide (i.natAbs < 2 ^ 200000) && decide (j.natAbs < 2 ^ 200000)
noncomputable def addD (d e : D) (S : Sto) : R D := match d, e with
  | .int i, .int j => .ok (.int (i + j)) S
  | .str a, .str b => if NLe (a.length + b.length) sizeLine then .ok (.str (a ++ b)) S else .bad
  | .tup xs, .tup ys => if NLe (xs.length + ys.length) sizeLine then .ok (.tup (xs ++ ys)) S else .bad
  | d, e => match asT d S, asT e S with
    | some xs, some ys => if NLe (xs.length + ys.length) sizeLine then .ok (.lst (xs ++ ys)) S else .bad
    | _, _ => .bad
def rAddD (K : PySem.W.Frag) : R2 := fun x y H Q => rI0 (fun i j => .int (i + j)) x y H Q ∨ (fun x y H Q => ∃ i j, x = .str i ∧ y = .str j ∧ i.length + j.length ≤ sizeLine ∧ Q (.str (i ++ j)) H) x y H Q ∨ rCat x y H Q ∨ rCatA K x y H Q
theorem op_addD : OpR X (binaryOp .Add) (rAddD X.K) := op_add.or (op_add_str.or (op_cat.or op_catA))
theorem s_addL {W : Wd} {ms : List Addr} {S : Sto} {H : Hp} {x y : V} {d e : D} {Q : VK} {E : XK} (st : StOk W ms S H) (rx : Rp W ms (era ms H) x d) (ry : Rp W ms (era ms H) y e)
    (p : Post W (relD W) ms H (match asT d S, asT e S with
    | some xs, some ys => if NLe (xs.length + ys.length) sizeLine then .ok (.lst (xs ++ ys)) S else .bad
    | _, _ => .bad) Q E) : rCat x y H Q := by
  split at p
  · rename_i xs ys e1 e2
    obtain ⟨a, vs, rfl, h1, r1⟩ := asT_of st rx e1
    obtain ⟨b, us, rfl, h2, r2⟩ := asT_of st ry e2
    split at p
    · rename_i hl
      exact ⟨a, b, vs, us, rfl, rfl, h1, h2, by rw [r1.length, r2.length]; exact hl, p.newL st (r1.append r2)⟩
    · exact p.elim
  · exact p.elim
theorem s_add : OpD (wd X Y) (rAddD X.K) addD := by
  intro ms S H x y d e Q E st rx ry p
  unfold addD at p
  split at p
  · cases rx; cases ry; exact .inl ⟨_, _, rfl, rfl, p.val st (.int _)⟩
  · cases rx; cases ry
    split at p
    · rename_i hl; exact .inr (.inl ⟨_, _, rfl, rfl, hl, p.val st (.str _)⟩)
    · exact p.elim
  · rename_i xs ys
    obtain ⟨a, vs, rfl, h1, r1⟩ := tup_of rx
    obtain ⟨b, us, rfl, h2, r2⟩ := tup_of ry
    split at p
    · rename_i hl
      refine .inr (.inr (.inr ⟨a, b, vs, us, rfl, rfl, h1, h2, by rw [r1.length, r2.length]; exact hl, fun z => ?_, fun _ z => ?_, fun _ _ => p.newT st (r1.append r2)⟩))
      · have e : xs = [] := by subst z; cases r1; rfl
        subst e
        exact p.val st ry
      · have e : ys = [] := by subst z; cases r2; rfl
        subst e
        rw [List.append_nil] at p
        exact p.val st rx
    · exact p.elim
  · exact .inr (.inr (.inl (s_addL st rx ry p)))
def subD (d e : D) (S : Sto) : R D := match d, e with
  | .int i, .int j => .ok (.int (i - j)) S
  | _, _ => .bad
theorem s_sub : OpD (wd X Y) (rI0 fun i j => .int (i - j)) subD := by
  intro ms S H x y d e Q E st rx ry p
  unfold subD at p
  split at p
  · cases rx; cases ry; exact ⟨_, _, rfl, rfl, p.val st (.int _)⟩
  · exact p.elim
/-- a text so many times -/
def repS (z : Str) (k : Nat) : Str := ⟨(List.replicate k z.cps.toList).flatten.toArray⟩
theorem repS_fold (z : Str) : ∀ (k : Nat) (acc : Array Nat), ((List.replicate k z.cps).foldl (· ++ ·) acc).toList = acc.toList ++ (List.replicate k z.cps.toList).flatten
  | 0, acc => by simp
  | k + 1, acc => by
    rw [List.replicate_succ, List.foldl_cons, repS_fold z k, Array.toList_append, List.replicate_succ, List.flatten_cons, List.append_assoc]
theorem repS_eq (z : Str) (k : Nat) : (⟨(List.replicate k z.cps).foldl (· ++ ·) #[]⟩ : Str) = repS z k := by
  apply Str.ext'
  apply Array.toList_inj.mp
  rw [repS_fold]
  simp [repS]
def rMulS : R2 := fun x y H Q => ∃ (z : Str) (n : Int), x = .str z ∧ y = .int n ∧ 0 ≤ n ∧ n ≤ 1000000 ∧ z.length * n.toNat ≤ 1000000 ∧ Q (.str (repS z n.toNat)) H
theorem op_mulS : OpR X (binaryOp .Mult) rMulS := by
  intro pins s σ H x y v u Q I rx ry h
  obtain ⟨z, n, rfl, rfl, h0, h1, h2, q⟩ := h
  obtain ⟨t, rfl⟩ := rx
  obtain ⟨t', rfl⟩ := ry
  have line : z.length * n.toNat ≤ sizeLine := by rw [sizeLine_eq]; omega
  refine PySem.P.mul_str (by rw [decide_eq_false (by omega), decide_eq_false (by omega)]; rfl) (fun a b => ?_) (fun a b => ?_) ?_
  · have hz : z.length ≤ 1000000 := Nat.le_trans (Nat.le_mul_of_pos_right _ (by omega)) h2
    have : (1000000 : Int) ≤ (2 ^ 63 - 1) / n := (Int.le_ediv_iff_mul_le (by omega)).mpr (by omega)
    omega
  · show decide (z.length * n.toNat > sizeLine) = false
    exact decide_eq_false (by omega)
  · by_cases c1 : n < 1
    · rw [if_pos c1]
      have : n.toNat = 0 := by omega
      rw [this] at q
      exact ⟨by decide, .str _, H, I.tok _, ⟨_, rfl⟩, q⟩
    · rw [if_neg c1]
      by_cases c2 : (n == 1 || z.length == 0) = true
      · rw [if_pos c2]
        have e : repS z n.toNat = z := by
          apply Str.ext'
          apply Array.toList_inj.mp
          rcases Bool.or_eq_true_iff.mp c2 with c | c
          · have : n.toNat = 1 := by have := beq_iff_eq.mp c; omega
            rw [this]; simp [repS]
          · have hz : z.cps.toList = [] := by
              have := beq_iff_eq.mp c
              apply List.eq_nil_of_length_eq_zero
              simpa [Str.length] using this
            simp [repS, hz]
        rw [e] at q
        exact ⟨.str _, H, I, ⟨_, rfl⟩, q⟩
      · rw [if_neg c2, repS_eq]
        refine ⟨?_, .str _, H, I.tok _, ⟨_, rfl⟩, q⟩
        have : (repS z n.toNat).length = n.toNat * z.length := by simp [repS, Str.length]
        rw [this, Nat.mul_comm]; exact line
/-- products: a factor below 2 ^ 64, or both below 2 ^ 1000; a list, a text so many times -/
noncomputable def mulD (d e : D) (S : Sto) : R D := match d, e with
  | .int i, .int j => if Bd ((-(2 ^ 64) < i ∧ i < 2 ^ 64) ∨ (-(2 ^ 64) < j ∧ j < 2 ^ 64)) then .ok (.int (i * j)) S else .bad
  | .str z, .int j => if Bd (0 ≤ j ∧ j ≤ 1000000 ∧ z.length * j.toNat ≤ 1000000) then .ok (.str (repS z j.toNat)) S else .bad
  | d, .int k => match asT d S with
    | some xs => if Bd (-(2 ^ 63) ≤ k ∧ k < 2 ^ 63 ∧ xs.length * k.toNat ≤ sizeLine) then .ok (.lst (List.replicate k.toNat xs).flatten) S else .bad
    | none => .bad
  | _, _ => .bad
def rMulD : R2 := fun x y H Q => (rI CMul (fun i j => .int (i * j)) x y H Q ∨ rRep x y H Q) ∨ rMulS x y H Q
theorem op_mulD : OpR X (binaryOp .Mult) rMulD := (op_mul.or op_rep).or op_mulS
theorem RpL.flat {W : Wd} {ms : List Addr} {G : Hp} {vs : List V} {ds : List D} (r : RpL W ms G vs ds) : ∀ n, RpL W ms G (List.replicate n vs).flatten (List.replicate n ds).flatten
  | 0 => .nil
  | n + 1 => by
    rw [List.replicate_succ, List.replicate_succ, List.flatten_cons, List.flatten_cons]
    exact r.append (RpL.flat r n)
theorem s_mul : OpD (wd X Y) rMulD mulD := by
  intro ms S H x y d e Q E st rx ry p
  unfold mulD at p
  split at p
  · cases rx; cases ry
    split at p
    · rename_i hc; exact .inl (.inl ⟨_, _, rfl, rfl, hc, p.val st (.int _)⟩)
    · exact p.elim
  · rename_i z k
    cases rx; cases ry
    split at p
    · rename_i hc; exact .inr ⟨z, k, rfl, rfl, hc.1, hc.2.1, hc.2.2, p.val st (.str _)⟩
    · exact p.elim
  · rename_i k _ _
    cases ry
    split at p
    · rename_i xs e1
      obtain ⟨a, vs, rfl, h1, r1⟩ := asT_of st rx e1
      split at p
      · rename_i hc
        exact .inl (.inr ⟨a, k, vs, rfl, rfl, h1, hc.1, hc.2.1, by rw [r1.length]; exact hc.2.2, p.newL st (r1.flat _)⟩)
      · exact p.elim
    · exact p.elim
  · exact p.elim
/-- floor and rest by a divisor above 0 -/
noncomputable def fdivD (d e : D) (S : Sto) : R D := match d, e with
  | .int i, .int j => if Bd (0 < j ∧ j < 2 ^ 1000) then .ok (.int (i / j)) S else .bad
  | _, _ => .bad
theorem s_fdiv : OpD (wd X Y) (rI CDivW fun i j => .int (i / j)) fdivD := by
  intro ms S H x y d e Q E st rx ry p
  unfold fdivD at p
  split at p
  · cases rx; cases ry
    split at p
    · rename_i hc; exact ⟨_, _, rfl, rfl, wide_div hc.1 (b := 1000) (by have := hc.1; have := hc.2; omega) (by decide) (by decide), p.val st (.int _)⟩
    · exact p.elim
  · exact p.elim
noncomputable def modD (d e : D) (S : Sto) : R D := match d, e with
  | .int i, .int j => if Bd (0 < j) then .ok (.int (i % j)) S else .bad
  | _, _ => .bad
theorem s_mod : OpD (wd X Y) (rI (fun _ j => 0 < j) fun i j => .int (i % j)) modD := by
  intro ms S H x y d e Q E st rx ry p
  unfold modD at p
  split at p
  · cases rx; cases ry
    split at p
    · rename_i hc; exact ⟨_, _, rfl, rfl, hc, p.val st (.int _)⟩
    · exact p.elim
  · exact p.elim
noncomputable def powD (d e : D) (S : Sto) : R D := match d, e with
  | .int i, .int j => if Bd (0 ≤ j ∧ j ≤ 1000000 ∧ i.natAbs < 2 ^ 64) then .ok (.int (i ^ j.toNat)) S else .bad
  | _, _ => .bad
theorem s_pow : OpD (wd X Y) (rI CPow fun i j => .int (i ^ j.toNat)) powD := by
  intro ms S H x y d e Q E st rx ry p
  unfold powD at p
  split at p
  · cases rx; cases ry
    split at p
    · rename_i hc; exact ⟨_, _, rfl, rfl, hc, p.val st (.int _)⟩
    · exact p.elim
  · exact p.elim
def negF (fa : EF) : EF := fun ρ S => (fa ρ S).bind fun d S1 => match d with
  | .int i => .ok (.int (-i)) S1
  | _ => .bad
theorem d_neg {a : Expr} {fa : EF} {pos : Pos} (ha : DE X Y a fa) : DE X Y (.UnaryOp .USub a pos) (negF fa) := by
  refine PE.weak (pe_un un_neg ha) fun σ H Q h => ?_
  obtain ⟨ms, S, ρ, ev, st, p⟩ := h
  refine ⟨ms, S, ρ, ev, st, Post.split p fun d S1 x ms1 H1 _ f1 s1 r1 p1 => ?_⟩
  cases r1 with
  | int i => exact ⟨i, rfl, p1.val s1 (.int _)⟩
  | _ => exact p1.elim

/-! ### comparisons -/
def ltD (d e : D) (S : Sto) : R D := match d, e with
  | .int i, .int j => .ok (.bl (decide (i < j))) S
  | .str a, .str b => .ok (.bl (decide (a.cps.toList < b.cps.toList))) S
  | _, _ => .bad
def leD (d e : D) (S : Sto) : R D := match d, e with
  | .int i, .int j => .ok (.bl (decide (i ≤ j))) S
  | .str a, .str b => .ok (.bl (!decide (b.cps.toList < a.cps.toList))) S
  | _, _ => .bad
def gtD (d e : D) (S : Sto) : R D := match d, e with
  | .int i, .int j => .ok (.bl (decide (j < i))) S
  | .str a, .str b => .ok (.bl (decide (b.cps.toList < a.cps.toList))) S
  | _, _ => .bad
def geD (d e : D) (S : Sto) : R D := match d, e with
  | .int i, .int j => .ok (.bl (decide (j ≤ i))) S
  | .str a, .str b => .ok (.bl (!decide (a.cps.toList < b.cps.toList))) S
  | _, _ => .bad
theorem s_lt : OpD (wd X Y) (fun x y H Q => rI0 (fun i j => .bl (decide (i < j))) x y H Q ∨ (∃ i j, x = V.str i ∧ y = V.str j ∧ Q (.bl (decide (i.cps.toList < j.cps.toList))) H)) ltD := by
  intro ms S H x y d e Q E st rx ry p
  unfold ltD at p
  split at p
  · cases rx; cases ry; exact .inl ⟨_, _, rfl, rfl, p.val st (.bl _)⟩
  · cases rx; cases ry; exact .inr ⟨_, _, rfl, rfl, p.val st (.bl _)⟩
  · exact p.elim
theorem op_ltD : OpR X (compareOp .Lt) (fun x y H Q => rI0 (fun i j => .bl (decide (i < j))) x y H Q ∨ (∃ i j, x = V.str i ∧ y = V.str j ∧ Q (.bl (decide (i.cps.toList < j.cps.toList))) H)) := op_lt.or op_lt_str
theorem s_le : OpD (wd X Y) (fun x y H Q => rI0 (fun i j => .bl (decide (i ≤ j))) x y H Q ∨ (∃ i j, x = V.str i ∧ y = V.str j ∧ Q (.bl (!decide (j.cps.toList < i.cps.toList))) H)) leD := by
  intro ms S H x y d e Q E st rx ry p
  unfold leD at p
  split at p
  · cases rx; cases ry; exact .inl ⟨_, _, rfl, rfl, p.val st (.bl _)⟩
  · cases rx; cases ry; exact .inr ⟨_, _, rfl, rfl, p.val st (.bl _)⟩
  · exact p.elim
theorem op_leD : OpR X (compareOp .LtE) (fun x y H Q => rI0 (fun i j => .bl (decide (i ≤ j))) x y H Q ∨ (∃ i j, x = V.str i ∧ y = V.str j ∧ Q (.bl (!decide (j.cps.toList < i.cps.toList))) H)) := op_le.or op_le_str
theorem s_gt : OpD (wd X Y) (fun x y H Q => rI0 (fun i j => .bl (decide (j < i))) x y H Q ∨ (∃ i j, x = V.str i ∧ y = V.str j ∧ Q (.bl (decide (j.cps.toList < i.cps.toList))) H)) gtD := by
  intro ms S H x y d e Q E st rx ry p
  unfold gtD at p
  split at p
  · cases rx; cases ry; exact .inl ⟨_, _, rfl, rfl, p.val st (.bl _)⟩
  · cases rx; cases ry; exact .inr ⟨_, _, rfl, rfl, p.val st (.bl _)⟩
  · exact p.elim
theorem op_gtD : OpR X (compareOp .Gt) (fun x y H Q => rI0 (fun i j => .bl (decide (j < i))) x y H Q ∨ (∃ i j, x = V.str i ∧ y = V.str j ∧ Q (.bl (decide (j.cps.toList < i.cps.toList))) H)) := op_gt.or op_gt_str
theorem s_ge : OpD (wd X Y) (fun x y H Q => rI0 (fun i j => .bl (decide (j ≤ i))) x y H Q ∨ (∃ i j, x = V.str i ∧ y = V.str j ∧ Q (.bl (!decide (i.cps.toList < j.cps.toList))) H)) geD := by
  intro ms S H x y d e Q E st rx ry p
  unfold geD at p
  split at p
  · cases rx; cases ry; exact .inl ⟨_, _, rfl, rfl, p.val st (.bl _)⟩
  · cases rx; cases ry; exact .inr ⟨_, _, rfl, rfl, p.val st (.bl _)⟩
  · exact p.elim
theorem op_geD : OpR X (compareOp .GtE) (fun x y H Q => rI0 (fun i j => .bl (decide (j ≤ i))) x y H Q ∨ (∃ i j, x = V.str i ∧ y = V.str j ∧ Q (.bl (!decide (i.cps.toList < j.cps.toList))) H)) := op_ge.or op_ge_str

/-! equality of data -/
mutual
def toPD (S : Sto) : D → Option PyData
  | .non => some .none
  | .bl b => some (.bool b)
  | .int i => some (.int i)
  | .str s => some (.str s)
  | .tup ds => (toPDs S ds).map .tuple
  | .lst ds => (toPDs S ds).map .list
  | .rol ds => (toPDs S ds).map .list
  | _ => none
def toPDs (S : Sto) : List D → Option (List PyData)
  | [] => some []
  | d :: ds => (toPD S d).bind fun p => (toPDs S ds).map fun ps => p :: ps
end
/-- a cell at the top is looked into -/
def toP (S : Sto) (d : D) : Option PyData := match d with
  | .cell n => match S[n]? with
    | some (.lst ds) => (toPDs S ds).map .list
    | _ => none
  | d => toPD S d
section
variable {W : Wd} {ms : List Addr} {S : Sto} {H : Hp}
mutual
theorem toPD_of : ∀ (d : D) (v : V) (p : PyData), Rp W ms (era ms H) v d → toPD S d = some p → Dp W.K H v p
  | .non, _, _, r, h => by cases r; cases h; exact .non
  | .bl _, _, _, r, h => by cases r; cases h; exact .bl _
  | .int _, _, _, r, h => by cases r; cases h; exact .int _
  | .str _, _, _, r, h => by cases r; cases h; exact .str _
  | .tup ds, _, _, r, h => by
    obtain ⟨ps, e, rfl⟩ := Option.map_eq_some_iff.mp h
    cases r with | tup a b => exact .tup (Same.sqT (era_same _ _) a) (toPDs_of ds _ ps b e)
  | .lst ds, _, _, r, h => by
    obtain ⟨ps, e, rfl⟩ := Option.map_eq_some_iff.mp h
    cases r with | lst a b => exact .lst (SqL.of (era_same _ _ _ _ a)) (toPDs_of ds _ ps b e)
  | .rol ds, _, _, r, h => by
    obtain ⟨ps, e, rfl⟩ := Option.map_eq_some_iff.mp h
    cases r with | rol a b => exact .lst (Same.seq (era_same _ _) a) (toPDs_of ds _ ps b e)
  | .cell _, _, _, _, h => by cases h
  | .obj _ _ _, _, _, _, h => by cases h
  | .dic _ _, _, _, _, h => by cases h
  | .exn _ _ _, _, _, _, h => by cases h
  | .junk, _, _, _, h => by cases h
theorem toPDs_of : ∀ (ds : List D) (vs : List V) (ps : List PyData), RpL W ms (era ms H) vs ds → toPDs S ds = some ps → DpAll W.K H vs ps
  | [], _, _, r, h => by cases r; cases h; exact .nil
  | d :: ds, _, _, r, h => by
    obtain ⟨p, e1, h⟩ := Option.bind_eq_some_iff.mp h
    obtain ⟨ps, e2, rfl⟩ := Option.map_eq_some_iff.mp h
    cases r with | cons a b => exact .cons (toPD_of d _ p a e1) (toPDs_of ds _ ps b e2)
end
theorem toP_of (st : StOk W ms S H) {d : D} {v : V} {p : PyData} (r : Rp W ms (era ms H) v d) (h : toP S d = some p) : Dp W.K H v p := by
  unfold toP at h
  split at h
  · rename_i n
    split at h
    · rename_i ds e
      obtain ⟨ps, e1, rfl⟩ := Option.map_eq_some_iff.mp h
      cases r with
      | cell a =>
        obtain ⟨vs, e2, r2⟩ := st.readL a e
        exact .lst (SqL.of e2) (toPDs_of ds vs ps r2 e1)
    · cases h
  · exact toPD_of _ _ _ r h
end
def eqvG (S : Sto) (d e : D) : Option Bool := match toP S d, toP S e with
  | some p, some q => if SeqAt.shaped p && SeqAt.shaped q then some (PyData.eqv p q) else none
  | _, _ => none
/-- two flat things of one kind (None with any): by themselves -/
def eqvF (d e : D) : Option Bool := match d, e with
  | .non, .non => some true
  | .bl a, .bl b => some (decide (a = b))
  | .int a, .int b => some (decide (a = b))
  | .str a, .str b => some (decide (a = b))
  | .non, .bl _ => some false
  | .bl _, .non => some false
  | .non, .int _ => some false
  | .int _, .non => some false
  | .non, .str _ => some false
  | .str _, .non => some false
  | .int _, .str _ => some false
  | .str _, .int _ => some false
  | .bl _, .str _ => some false
  | .str _, .bl _ => some false
  | _, _ => none
def eqvD (S : Sto) (d e : D) : Option Bool := match eqvF d e with
  | some b => some b
  | none => eqvG S d e
theorem eqvF_of {W : Wd} {ms : List Addr} {G : Hp} {x y : V} {d e : D} {b : Bool} (rx : Rp W ms G x d) (ry : Rp W ms G y e) (h : eqvF d e = some b) : scal x y = true ∧ b = decide (x = y) := by
  unfold eqvF at h
  split at h
  · cases rx; cases ry; cases h; exact ⟨rfl, rfl⟩
  · cases rx; cases ry; cases h; exact ⟨rfl, by rw [Bool.eq_iff_iff]; simp⟩
  · cases rx; cases ry; cases h; exact ⟨rfl, by rw [Bool.eq_iff_iff]; simp⟩
  · cases rx; cases ry; cases h; exact ⟨rfl, by rw [Bool.eq_iff_iff]; simp⟩
  all_goals first
    | (cases h; done)
    | (cases rx; cases ry; cases h; exact ⟨rfl, by rw [Bool.eq_iff_iff]; simp⟩)
theorem op_eqA (hu : X.A.units + 64 < cLine) : OpR X (compareOp .Eq) (fun x y H Q => rEq x y H Q ∨ rEqD X.K x y H Q) := op_eq.or (op_eqD hu)
theorem op_neA (hu : X.A.units + 64 < cLine) : OpR X (compareOp .NotEq) (fun x y H Q => rNe x y H Q ∨ rNeD X.K x y H Q) := op_ne.or (op_neD hu)
def eqD (d e : D) (S : Sto) : R D := match eqvD S d e with
  | some b => .ok (.bl b) S
  | none => .bad
def neD (d e : D) (S : Sto) : R D := match eqvD S d e with
  | some b => .ok (.bl (!b)) S
  | none => .bad
theorem s_eqv {W : Wd} {ms : List Addr} {S : Sto} {H : Hp} {x y : V} {d e : D} {b : Bool} (st : StOk W ms S H) (rx : Rp W ms (era ms H) x d) (ry : Rp W ms (era ms H) y e) (h : eqvD S d e = some b) :
    (scal x y = true ∧ b = decide (x = y)) ∨ ∃ p q, Dp W.K H x p ∧ Dp W.K H y q ∧ SeqAt.shaped p = true ∧ SeqAt.shaped q = true ∧ b = PyData.eqv p q := by
  unfold eqvD at h
  split at h
  · rename_i c hc
    cases h
    exact .inl (eqvF_of rx ry hc)
  · unfold eqvG at h
    split at h
    · rename_i p q e1 e2
      split at h
      · rename_i hs
        cases h
        obtain ⟨s1, s2⟩ := Bool.and_eq_true_iff.mp hs
        exact .inr ⟨p, q, toP_of st rx e1, toP_of st ry e2, s1, s2, rfl⟩
      · cases h
    · cases h
theorem s_eq : OpD (wd X Y) (fun x y H Q => rEq x y H Q ∨ rEqD X.K x y H Q) eqD := by
  intro ms S H x y d e Q E st rx ry p
  unfold eqD at p
  split at p
  · rename_i b hb
    rcases s_eqv st rx ry hb with ⟨h1, rfl⟩ | ⟨p1, q1, h1, h2, h3, h4, rfl⟩
    · exact .inl ⟨h1, p.val st (.bl _)⟩
    · exact .inr ⟨p1, q1, h1, h2, h3, h4, p.val st (.bl _)⟩
  · exact p.elim
theorem s_ne : OpD (wd X Y) (fun x y H Q => rNe x y H Q ∨ rNeD X.K x y H Q) neD := by
  intro ms S H x y d e Q E st rx ry p
  unfold neD at p
  split at p
  · rename_i b hb
    rcases s_eqv st rx ry hb with ⟨h1, rfl⟩ | ⟨p1, q1, h1, h2, h3, h4, rfl⟩
    · exact .inl ⟨h1, p.val st (.bl _)⟩
    · exact .inr ⟨p1, q1, h1, h2, h3, h4, p.val st (.bl _)⟩
  · exact p.elim
/-! is None, is True, is False -/
def isNoneD : D → Option Bool
  | .non => some true
  | .junk => none
  | _ => some false
def isND (d e : D) (S : Sto) : R D := match e with
  | .non => match isNoneD d with
    | some b => .ok (.bl b) S
    | none => .bad
  | _ => .bad
def notND (d e : D) (S : Sto) : R D := match e with
  | .non => match isNoneD d with
    | some b => .ok (.bl (!b)) S
    | none => .bad
  | _ => .bad
theorem isNone_of {W : Wd} {ms : List Addr} {G : Hp} {x : V} {d : D} {b : Bool} (r : Rp W ms G x d) (h : isNoneD d = some b) : decide (x = .non) = b := by
  cases r <;> first | (cases h; rfl) | (cases h; exact decide_eq_false (fun z => nomatch z)) | cases h
theorem s_isN : OpD (wd X Y) (fun x y H Q => y = .non ∧ Q (.bl (decide (x = .non))) H) isND := by
  intro ms S H x y d e Q E st rx ry p
  unfold isND at p
  split at p
  · cases ry
    split at p
    · rename_i b hb
      exact ⟨rfl, by rw [isNone_of rx hb]; exact p.val st (.bl _)⟩
    · exact p.elim
  · exact p.elim
theorem s_notN : OpD (wd X Y) (fun x y H Q => y = .non ∧ Q (.bl (!decide (x = .non))) H) notND := by
  intro ms S H x y d e Q E st rx ry p
  unfold notND at p
  split at p
  · cases ry
    split at p
    · rename_i b hb
      exact ⟨rfl, by rw [isNone_of rx hb]; exact p.val st (.bl _)⟩
    · exact p.elim
  · exact p.elim
def isBD (d e : D) (S : Sto) : R D := match d, e with
  | .bl a, .bl b => .ok (.bl (decide (a = b))) S
  | _, _ => .bad
def notBD (d e : D) (S : Sto) : R D := match d, e with
  | .bl a, .bl b => .ok (.bl (!decide (a = b))) S
  | _, _ => .bad
theorem s_isB : OpD (wd X Y) rIsB isBD := by
  intro ms S H x y d e Q E st rx ry p
  unfold isBD at p
  split at p
  · cases rx; cases ry; exact ⟨_, _, rfl, rfl, p.val st (.bl _)⟩
  · exact p.elim
theorem s_notB : OpD (wd X Y) rNotB notBD := by
  intro ms S H x y d e Q E st rx ry p
  unfold notBD at p
  split at p
  · cases rx; cases ry; exact ⟨_, _, rfl, rfl, p.val st (.bl _)⟩
  · exact p.elim
/-! in, not in: a sign in a text; a flat thing in a list or a tuple of flat things -/
def flatD : D → Option V
  | .non => some .non
  | .bl b => some (.bl b)
  | .int i => some (.int i)
  | .str s => some (.str s)
  | _ => none
def flatDs : List D → Option (List V)
  | [] => some []
  | d :: ds => (flatD d).bind fun v => (flatDs ds).map fun vs => v :: vs
theorem flatD_of {W : Wd} {ms : List Addr} {G : Hp} {x v : V} {d : D} (r : Rp W ms G x d) (h : flatD d = some v) : x = v ∧ flatV x = true := by
  cases r <;> first | (cases h; exact ⟨rfl, rfl⟩) | cases h
theorem flatDs_of {W : Wd} {ms : List Addr} {G : Hp} : ∀ {ds : List D} {xs vs : List V}, RpL W ms G xs ds → flatDs ds = some vs → xs = vs ∧ xs.all flatV = true
  | [], _, _, r, h => by cases r; cases h; exact ⟨rfl, rfl⟩
  | d :: ds, _, _, r, h => by
    obtain ⟨v, e1, h⟩ := Option.bind_eq_some_iff.mp h
    obtain ⟨vs, e2, rfl⟩ := Option.map_eq_some_iff.mp h
    cases r with
    | cons a b =>
      obtain ⟨rfl, f1⟩ := flatD_of a e1
      obtain ⟨rfl, f2⟩ := flatDs_of b e2
      exact ⟨rfl, by rw [List.all_cons, f1, f2]; rfl⟩
def asQ (d : D) (S : Sto) : Option (List D) := match d with
  | .tup ds => some ds
  | d => asL d S
def inB (d e : D) (S : Sto) : Option Bool := match d, e with
  | .str ⟨⟨[c]⟩⟩, .str z => some (decide (c ∈ z.cps.toList))
  | .str _, .str _ => none
  | d, e => (flatD d).bind fun x => (asQ e S).bind fun es => (flatDs es).map fun xs => inV x xs
def inD (d e : D) (S : Sto) : R D := match inB d e S with
  | some b => .ok (.bl b) S
  | none => .bad
def notInD (d e : D) (S : Sto) : R D := match inB d e S with
  | some b => .ok (.bl (!b)) S
  | none => .bad
theorem asQ_of {W : Wd} {ms : List Addr} {S : Sto} {H : Hp} {d : D} {v : V} {ds : List D} (st : StOk W ms S H) (r : Rp W ms (era ms H) v d) (h : asQ d S = some ds) : ∃ a vs, v = .ref a ∧ (SqL W.K H a vs ∨ SqT W.K H a vs) ∧ RpL W ms (era ms H) vs ds := by
  unfold asQ at h
  split at h
  · cases h
    obtain ⟨a, vs, e, h1, r1⟩ := tup_of r
    exact ⟨a, vs, e, .inr h1, r1⟩
  · obtain ⟨a, vs, e, h1, r1⟩ := asL_of st r h
    exact ⟨a, vs, e, .inl h1, r1⟩
theorem s_inB {W : Wd} {ms : List Addr} {S : Sto} {H : Hp} {x y : V} {d e : D} {b : Bool} (st : StOk W ms S H) (rx : Rp W ms (era ms H) x d) (ry : Rp W ms (era ms H) y e) (h : inB d e S = some b) :
    (∃ c z, x = .str ⟨#[c]⟩ ∧ y = .str z ∧ b = decide (c ∈ z.cps.toList)) ∨ (∃ p xs, y = .ref p ∧ (SqL W.K H p xs ∨ SqT W.K H p xs) ∧ flatV x = true ∧ xs.all flatV = true ∧ b = inV x xs) := by
  unfold inB at h
  split at h
  · cases rx; cases ry; cases h; exact .inl ⟨_, _, rfl, rfl, rfl⟩
  · cases h
  · obtain ⟨v, e1, h⟩ := Option.bind_eq_some_iff.mp h
    obtain ⟨es, e2, h⟩ := Option.bind_eq_some_iff.mp h
    obtain ⟨xs, e3, rfl⟩ := Option.map_eq_some_iff.mp h
    obtain ⟨a, vs, rfl, h1, r1⟩ := asQ_of st ry e2
    obtain ⟨rfl, f1⟩ := flatD_of rx e1
    obtain ⟨rfl, f2⟩ := flatDs_of r1 e3
    exact .inr ⟨a, vs, rfl, h1, f1, f2, rfl⟩
def rInD (K : PySem.W.Frag) : R2 := fun x y H Q => (∃ (c : Nat) (z : Str), x = .str ⟨#[c]⟩ ∧ y = .str z ∧ Q (.bl (decide (c ∈ z.cps.toList))) H) ∨ rIn K false x y H Q
def rNotInD (K : PySem.W.Frag) : R2 := fun x y H Q => (∃ (c : Nat) (z : Str), x = .str ⟨#[c]⟩ ∧ y = .str z ∧ Q (.bl (!decide (c ∈ z.cps.toList))) H) ∨ rIn K true x y H Q
theorem op_inD : OpR X (compareOp .In) (rInD X.K) := op_in_sign.or op_in_seq
theorem op_notInD : OpR X (compareOp .NotIn) (rNotInD X.K) := op_notIn_sign.or op_notIn_seq
theorem s_in : OpD (wd X Y) (rInD X.K) inD := by
  intro ms S H x y d e Q E st rx ry p
  unfold inD at p
  split at p
  · rename_i b hb
    rcases s_inB st rx ry hb with ⟨c, z, rfl, rfl, rfl⟩ | ⟨a, xs, rfl, h1, h2, h3, rfl⟩
    · exact .inl ⟨c, z, rfl, rfl, p.val st (.bl _)⟩
    · exact .inr ⟨a, xs, rfl, h1, h2, h3, p.val st (.bl _)⟩
  · exact p.elim
theorem s_notIn : OpD (wd X Y) (rNotInD X.K) notInD := by
  intro ms S H x y d e Q E st rx ry p
  unfold notInD at p
  split at p
  · rename_i b hb
    rcases s_inB st rx ry hb with ⟨c, z, rfl, rfl, rfl⟩ | ⟨a, xs, rfl, h1, h2, h3, rfl⟩
    · exact .inl ⟨c, z, rfl, rfl, p.val st (.bl _)⟩
    · exact .inr ⟨a, xs, rfl, h1, h2, h3, p.val st (.bl _)⟩
  · exact p.elim
end

/-! ### subscripts, slices -/
section
variable {X : Cx} {Y : Yx} {a b : Expr} {fa fb : EF} {pos : Pos}
noncomputable def ixD (d e : D) (S : Sto) : R D := match e with
  | .int i => match d with
    | .str z => if NLe z.length sizeLine then match atI z.cps.toList i with
      | some c => .ok (.str ⟨#[c]⟩) S
      | none => .bad else .bad
    | d => match asQ d S with
      | some ds => match atI ds i with
        | some x => .ok x S
        | none => .bad
      | none => .bad
  | _ => .bad
theorem atI_rel {W : Wd} {ms : List Addr} {G : Hp} {vs : List V} {ds : List D} {i : Int} {d : D} (r : RpL W ms G vs ds) (h : atI ds i = some d) : ∃ v, atI vs i = some v ∧ Rp W ms G v d := by
  unfold atI at h ⊢
  rw [r.length]
  obtain ⟨j, e1, e2⟩ := Option.bind_eq_some_iff.mp h
  obtain ⟨v, e3, r3⟩ := r.get e2
  exact ⟨v, by rw [e1]; exact e3, r3⟩
theorem s_ix {W : Wd} {ms : List Addr} {S : Sto} {H : Hp} {x y : V} {d e : D} {Q : VK} {E : XK} (st : StOk W ms S H) (rx : Rp W ms (era ms H) x d) (ry : Rp W ms (era ms H) y e) (p : Post W (relD W) ms H (ixD d e S) Q E) : rIx W.K x y H Q := by
  unfold ixD at p
  split at p
  · rename_i i
    cases ry
    split at p
    · rename_i z
      cases rx
      split at p
      · rename_i hz
        split at p
        · rename_i c hc
          exact .inr (.inr ⟨z, i, c, rfl, rfl, hz, hc, p.val st (.str _)⟩)
        · exact p.elim
      · exact p.elim
    · split at p
      · rename_i ds hds
        split at p
        · rename_i v hv
          obtain ⟨a, vs, rfl, h1, r1⟩ := asQ_of st rx hds
          obtain ⟨u, h2, r2⟩ := atI_rel r1 hv
          rcases h1 with h1 | h1
          · exact .inl ⟨a, vs, i, u, rfl, rfl, h1, h2, p.val st r2⟩
          · exact .inr (.inl ⟨a, vs, i, u, rfl, rfl, h1, h2, p.val st r2⟩)
        · exact p.elim
      · exact p.elim
  · exact p.elim
theorem d_ix (ha : DE X Y a fa) (hb : DE X Y b fb) (hs : PlainIx b) : DE X Y (.Subscript a b pos) (binF ixD fa fb) :=
  PE.weak (pe_ix ix_seq ha hb hs) fun _ _ _ h => two_of (fun ms S H x y d e Q E st rx ry p => s_ix (W := wd X Y) st rx ry p) h
def noO : F (Option Int) := fun _ S => .ok none S
def someO (fe : EF) : F (Option Int) := fun ρ S => (fe ρ S).bind fun d S1 => match d with
  | .int i => .ok (some i) S1
  | _ => .bad
theorem do_none : DO X Y none noO := PO.weak po_none fun σ H Q ⟨ms, S, ρ, ev, st, p⟩ => p none ms H (Fut.refl _ _) st rfl
theorem do_some (ha : DE X Y a fa) : DO X Y (some a) (someO fa) := by
  refine PO.weak (po_some ha) fun σ H Q h => ?_
  obtain ⟨ms, S, ρ, ev, st, p⟩ := h
  refine ⟨ms, S, ρ, ev, st, Post.split p fun d S1 x ms1 H1 _ f1 s1 r1 p1 => ?_⟩
  cases r1 with
  | int i => exact ⟨i, rfl, p1 _ ms1 H1 (Fut.refl _ _) s1 rfl⟩
  | _ => exact p1.elim
def cutD (ds : List D) (lo hi : Option Int) : List D := (ds.drop (HT.sIx ds.length 0 lo)).take (HT.sIx ds.length ds.length hi - HT.sIx ds.length 0 lo)
noncomputable def slD (d : D) (lo hi : Option Int) (S : Sto) : R D := match d with
  | .str z => if NLe z.length sizeLine then .ok (.str (cutS z lo hi)) S else .bad
  | .tup ds => .ok (.tup (cutD ds lo hi)) S
  | d => match asL d S with
    | some ds => .ok (.lst (cutD ds lo hi)) S
    | none => .bad
noncomputable def slF (fe : EF) (fl fh : F (Option Int)) : EF := fun ρ S => (fe ρ S).bind fun d S1 => (fl ρ S1).bind fun l S2 => (fh ρ S2).bind fun h S3 => slD d l h S3
theorem RpL.cut {W : Wd} {ms : List Addr} {G : Hp} {vs : List V} {ds : List D} (r : RpL W ms G vs ds) (lo hi : Option Int) : RpL W ms G (cutV vs lo hi) (cutD ds lo hi) := by
  unfold cutV cutD
  rw [r.length]
  exact (r.drop _).takeN _
def rSlD (K : PySem.W.Frag) : V → Option Int → Option Int → Hp → VK → Prop := fun x lo hi H Q => rSlL K x lo hi H Q ∨ rSlA K x lo hi H Q ∨ rSlS x lo hi H Q
theorem s_sl {W : Wd} {ms : List Addr} {S : Sto} {H : Hp} {x : V} {d : D} {lo hi : Option Int} {Q : VK} {E : XK} (st : StOk W ms S H) (rx : Rp W ms (era ms H) x d) (p : Post W (relD W) ms H (slD d lo hi S) Q E) : rSlD W.K x lo hi H Q := by
  unfold slD at p
  split at p
  · cases rx
    split at p
    · rename_i hz; exact .inr (.inr ⟨_, rfl, hz, p.val st (.str _)⟩)
    · exact p.elim
  · rename_i ds
    obtain ⟨a, vs, rfl, h1, r1⟩ := tup_of rx
    refine .inr (.inl ⟨a, vs, rfl, h1, fun hw => ?_, fun _ => p.newT st (r1.cut lo hi)⟩)
    rw [r1.length] at hw
    have e : cutD ds lo hi = ds := by unfold cutD; rw [hw.1, hw.2]; simp
    rw [e] at p
    exact p.val st rx
  · split at p
    · rename_i ds hds
      obtain ⟨a, vs, rfl, h1, r1⟩ := asL_of st rx hds
      exact .inl ⟨a, vs, rfl, h1, p.newL st (r1.cut lo hi)⟩
    · exact p.elim
theorem d_slice {lo hi : Option Expr} {fl fh : F (Option Int)} {p2 : Pos} (ha : DE X Y a fa) (hl : DO X Y lo fl) (hh : DO X Y hi fh) : DE X Y (.Subscript a (.Slice lo hi none p2) pos) (slF fa fl fh) := by
  refine PE.weak (pe_slice (sl_list.or (sl_tupA.or sl_str)) ha hl hh) fun σ H Q h => ?_
  obtain ⟨ms, S, ρ, ev, st, p⟩ := h
  refine ⟨ms, S, ρ, ev, st, Post.split p fun d S1 x ms1 H1 _ f1 s1 r1 p1 => ⟨ms1, S1, ρ, ev.fut f1, s1, Post.split p1 fun l S2 y ms2 H2 _ f2 s2 r2 p2 => ⟨ms2, S2, ρ, ev.fut (f1.trans f2), s2, Post.split p2 fun u S3 z ms3 H3 _ f3 s3 r3 p3 => ?_⟩⟩⟩
  cases r2
  cases r3
  exact s_sl (W := wd X Y) s3 (Rp.fut r1 (f2.trans f3)) p3
end
end Zd

set_option Elab.async false
set_option linter.all false
set_option maxRecDepth 100000
set_option maxHeartbeats 4000000
set_option autoImplicit false
/-! Zd, functions and calls, built-ins, methods, comprehensions. -/
namespace Zd
open PySem PySem.Spec L2
open PyProof.Rows hiding St

/-! ### functions -/
abbrev DFun := List D → Sto → R D
/-- what a function's body gives, its own cells let go -/
def leave (n0 : Nat) (r : SR) : R D := match r with
  | .nx _ S => .ok .non (S.take n0)
  | .rt d S => .ok (fz n0 S S.length d) (S.take n0)
  | .exc c ks ds _ S => .exc c ks (ds.map (fz n0 S S.length)) (S.take n0)
  | _ => .bad
def startD (m : Nat) (ds : List D) : Nv := ds.map some ++ List.replicate (m - ds.length) none
def fnF (m : Nat) (g : SF) : DFun := fun ds S => leave S.length (g (startD m ds) S)
/-- .. its own cells kept (a maker of owned things) -/
def fnK (m : Nat) (g : SF) : DFun := fun ds S => match g (startD m ds) S with
  | .nx _ S => .ok .non S
  | .rt d S => .ok d S
  | .exc c ks ds _ S => .exc c ks ds S
  | _ => .bad
def spD (W : Wd) (Ff : DFun) (n : Nat) : Sp := fun vs H Q E => vs.length = n ∧ ∃ ms S ds, RpL W ms (era ms H) vs ds ∧ StOk W ms S H ∧ Post W (relD W) ms H (Ff ds S) Q E

section
variable {W : Wd} {ms : List Addr} {H : Hp} {S : Sto} {ds : List D} {vs : List V}
theorem Ev.start (N : List Str) (r : RpL W ms (era ms H) vs ds) : Ev W (startD N.length ds) (start N vs) ms H := by
  refine ⟨by simp [startD, L2.start, r.length], fun i d h => ?_⟩
  unfold startD at h
  by_cases hi : i < ds.length
  · rw [List.getElem?_append_left (by simpa using hi), List.getElem?_map] at h
    obtain ⟨x, hx, e⟩ := Option.map_eq_some_iff.mp h
    cases e
    obtain ⟨v, e1, r1⟩ := r.get hx
    refine ⟨v, ?_, r1⟩
    unfold L2.start
    rw [List.getElem?_append_left (by simp [r.length]; exact hi), List.getElem?_map, e1]
    rfl
  · rw [List.getElem?_append_right (by simpa using hi)] at h
    have := List.mem_of_getElem? h
    rw [List.mem_replicate] at this
    cases this.2
theorem leave_of {Q : VK} {E : XK} {r : SR} (st : StOk W ms S H) (p : Post W (relD W) ms H (leave S.length r) Q E) :
    PostS W ms H r { nx := fun _ H' => Q .non H', rt := Q } (fun c d _ H => E c d H) := by
  cases r with
  | nx ρ S' =>
    intro σ ms' H' f s e
    obtain ⟨e1, f1⟩ := Fut.drop s st.len.symm f
    have s1 := s.take S.length
    rw [e1] at s1
    exact p .non ms H' f1 s1 .non
  | rt d S' =>
    intro v ms' H' f s r
    obtain ⟨e1, f1⟩ := Fut.drop s st.len.symm f
    have s1 := s.take S.length
    have r1 := Rp.fz s S.length S'.length d v r
    rw [e1] at s1 r1
    exact p v ms H' f1 s1 r1
  | exc c ks ds ρ S' =>
    intro σ C dd ms' H' f s e x
    obtain ⟨e1, f1⟩ := Fut.drop s st.len.symm f
    have s1 := s.take S.length
    obtain ⟨g, us, hz, hl, rr⟩ := x
    have hz1 := era_take s S.length _ _ hz
    have rr1 : RpL W (ms'.take S.length) (era (ms'.take S.length) H') us (ds.map (fz S.length S' S'.length)) := RpL.mapD (fun d v r => Rp.fz s S.length S'.length d v r) rr
    rw [e1] at s1 hz1 rr1
    exact p C dd ms H' f1 s1 ⟨g, us, hz1, hl, rr1⟩
  | bk _ _ => exact p.elim
  | ct _ _ => exact p.elim
  | bad => exact p.elim
theorem keep_of {Q : VK} {E : XK} {r : SR} (p : Post W (relD W) ms H (match r with
  | .nx _ S => .ok .non S
  | .rt d S => .ok d S
  | .exc c ks ds _ S => .exc c ks ds S
  | _ => .bad) Q E) :
    PostS W ms H r { nx := fun _ H' => Q .non H', rt := Q } (fun c d _ H => E c d H) := by
  cases r with
  | nx ρ S' => exact fun σ ms' H' f s e => p .non ms' H' f s .non
  | rt d S' => exact fun v ms' H' f s r => p v ms' H' f s r
  | exc c ks ds ρ S' => exact fun σ C dd ms' H' f s e x => p C dd ms' H' f s x
  | bk _ _ => exact p.elim
  | ct _ _ => exact p.elim
  | bad => exact p.elim
end

/-- what one knows of a def named x of n parameters: it does Ff -/
structure KD (P : Program) (w : World) (K : PySem.W.Frag) (mg : Str → Option Value) (base : Heap) (x : Str) (n : Nat) (Ff : DFun) (k : Nat) : Prop where
  ex : ∃ (f : Addr) (fd : FuncData) (ps : List Str), FnOk P w K mg base (L2.CX P w) k f fd ps (spD ⟨K, mg, none⟩ Ff n) ∧ mg x = some (.ref f) ∧ PySem.W.keepIn K (.ref f) = true ∧ Binds K fd ps []
section
variable {P : Program} {w : World} {K : PySem.W.Frag} {mg : Str → Option Value} {base : Heap}
/-- the context of a def's body -/
abbrev yE (E : XK) : Yx := ⟨none, fun c d _ H => E c d H⟩
theorem fn_okD {x qual : Str} {st : Stmt} {f : Addr} {fd : FuncData} {N ps : List Str} {k : Nat} {g : SF} {Ff : DFun} (F : Fun K x qual st f fd) (S : FnScope N ps (defScope st)) (hF : Ff = fnF N.length g ∨ Ff = fnK N.length g)
    (body : ∀ (cdv : Value) (A : Around) (outer : List Env) (s : Shared) (H : Hp) (E : XK), Room k (A.deeper (envOfC qual (defScope st) s.heap.objs.size f cdv)) →
      Takes (cxOf (L2.CX P w) P w K mg base N qual (defScope st) f cdv A outer s H E) (fun c d _ H => E c d H) →
      PassesOwn (model P w) (A.deeper (envOfC qual (defScope st) s.heap.objs.size f cdv)) (envOfC qual (defScope st) s.heap.objs.size f cdv) (cxOf (L2.CX P w) P w K mg base N qual (defScope st) f cdv A outer s H E).xe →
      DSs (cxOf (L2.CX P w) P w K mg base N qual (defScope st) f cdv A outer s H E) (yE E) (defBody st) g) : FnOk P w K mg base (L2.CX P w) (k + 1) f fd ps (spD ⟨K, mg, none⟩ Ff ps.length) := by
  refine F.okX S (fun vs H Q E h => h.1) (fun cdv A outer s H vs Q E hr h => ⟨_, body cdv A outer s H E hr (takes_of rfl rfl rfl rfl) (passes_of rfl), ?_⟩)
  obtain ⟨_, ms, Sto, ds, r, st, p⟩ := h
  refine ⟨ms, Sto, startD N.length ds, Ev.start N r, st, ?_⟩
  rcases hF with e | e
  · subst e; exact leave_of st p
  · subst e; exact keep_of p
theorem kd_mk {x qual : Str} {st : Stmt} {f : Addr} {fd : FuncData} {N ps : List Str} {k : Nat} {g : SF} {Ff : DFun} (F : Fun K x qual st f fd) (S : FnScope N ps (defScope st)) (hF : Ff = fnF N.length g ∨ Ff = fnK N.length g)
    (hm : mg x = some (.ref f)) (hb : Binds K fd ps [])
    (body : ∀ (cdv : Value) (A : Around) (outer : List Env) (s : Shared) (H : Hp) (E : XK), Room k (A.deeper (envOfC qual (defScope st) s.heap.objs.size f cdv)) →
      Takes (cxOf (L2.CX P w) P w K mg base N qual (defScope st) f cdv A outer s H E) (fun c d _ H => E c d H) →
      PassesOwn (model P w) (A.deeper (envOfC qual (defScope st) s.heap.objs.size f cdv)) (envOfC qual (defScope st) s.heap.objs.size f cdv) (cxOf (L2.CX P w) P w K mg base N qual (defScope st) f cdv A outer s H E).xe →
      DSs (cxOf (L2.CX P w) P w K mg base N qual (defScope st) f cdv A outer s H E) (yE E) (defBody st) g) : KD P w K mg base x ps.length Ff (k + 1) :=
  ⟨f, fd, ps, fn_okD F S hF body, hm, F.kp, hb⟩
theorem KD.mono {x : Str} {n : Nat} {Ff : DFun} {j k : Nat} (h : KD P w K mg base x n Ff j) (l : j ≤ k) : KD P w K mg base x n Ff k := by
  obtain ⟨f, fd, ps, F, a, b, c⟩ := h.ex
  exact ⟨f, fd, ps, F.mono l, a, b, c⟩
end

section
variable {X : Cx} {wx : WX}
def callF (n : Nat) (Ff : DFun) (fs : F (List D)) : EF := fun ρ S => (fs ρ S).bind fun ds S1 => if ds.length = n then Ff ds S1 else .bad
/-- f(e, ..) -/
theorem d_call {x : Str} {n k : Nat} {Ff : DFun} {e : Expr} {es : List Expr} {fs : F (List D)} {p pos : Pos} (h : KD X.prog X.w X.K X.mg X.base x n Ff k) (hr : Room k X.A) (tk : Takes X wx) (hg : Gl X x) (ha : DA X ⟨none, wx⟩ (e :: es) fs)
    (hdb : (x == ("__debug__" : Str)) = false := by decide) (he : starEach (e :: es) X.env = (false, eval e X.env) :: starEach es X.env := by rfl) (hpl : (backTo pos (starEach es X.env)).any (·.1) = false := by rfl) :
    DE X ⟨none, wx⟩ (.Call (.Name x p) (e :: es) [] pos) (callF n Ff fs) := by
  obtain ⟨f, fd, ps, F, hm, hk, hb⟩ := h.ex
  refine PE.weak (pe_callS (E := WE wx) F hr hg hm hk hb (fun σ => passAt tk σ) ha hdb he hpl) fun σ H Q h => ?_
  obtain ⟨ms, S, ρ, ev, st, p⟩ := h
  refine ⟨ms, S, ρ, ev, st, Post.split p fun ds S1 vs ms1 H1 _ f1 s1 r1 p1 => ?_⟩
  split at p1
  · rename_i hn
    exact ⟨by rw [r1.length]; exact hn, ms1, S1, ds, r1, s1, p1⟩
  · exact p1.elim
/-- f() -/
theorem d_call0 {x : Str} {k : Nat} {Ff : DFun} {p pos : Pos} (h : KD X.prog X.w X.K X.mg X.base x 0 Ff k) (hr : Room k X.A) (hw : ∀ c d H, (∃ σ, wx c d σ H) → ∀ σ, wx c d σ H) (tk : Takes X wx) (hg : Gl X x)
    (hdb : (x == ("__debug__" : Str)) = false := by decide) : DE X ⟨none, wx⟩ (.Call (.Name x p) [] [] pos) (fun _ S => Ff [] S) := by
  obtain ⟨f, fd, ps, F, hm, hk, hb⟩ := h.ex
  refine PE.weak (pe_call0 (E := fun c d H => ∃ σ, wx c d σ H) F hr hg hm hk hb .nil (passes_call tk fun c d σ H h => hw c d H h σ) hdb) fun σ H Q h => ?_
  obtain ⟨ms, S, ρ, ev, st, p⟩ := h
  exact ⟨rfl, ms, S, [], .nil, st, Post.mono p (fun _ _ q => q) fun c d H q => ⟨σ, q⟩⟩
end

/-- a constant of the module, its token open -/
theorem d_globE {X : Cx} {Y : Yx} {x : Str} {v : V} {d : D} {pos : Pos} (hm : ∃ u, X.mg x = some u ∧ RelV v u) (hg : Gl X x) (rd : ∀ W ms G, Rp W ms G v d) (hd : (x == ("__debug__" : Str)) = false := by decide) : DE X Y (.Name x pos) (cE d) := by
  obtain ⟨u, e, r⟩ := hm
  exact d_glob hg e r rd hd
/-! ### built-ins, by values -/
section
variable {X : Cx} {Y : Yx}
def CallD (W : Wd) (r : List V → Hp → VK → Prop) (g : List D → Sto → R D) : Prop := ∀ (ms : List Addr) (S : Sto) (H : Hp) (vs : List V) (ds : List D) (Q : VK) (E : XK), StOk W ms S H → RpL W ms (era ms H) vs ds → Post W (relD W) ms H (g ds S) Q E → r vs H Q
def appF (g : List D → Sto → R D) (fs : F (List D)) : EF := fun ρ S => (fs ρ S).bind fun ds S1 => g ds S1
theorem app_of {W : Wd} {Wx : WX} {fs : F (List D)} {g : List D → Sto → R D} {r : List V → Hp → VK → Prop} (hr : CallD W r g) {σ : St} {H : Hp} {Q : VK} (h : tX W Wx (relD W) (appF g fs) σ H Q) : tX W Wx (relL W) fs σ H fun vs H1 => r vs H1 Q := by
  obtain ⟨ms, S, ρ, ev, st, p⟩ := h
  exact ⟨ms, S, ρ, ev, st, Post.split p fun ds S1 vs ms1 H1 _ f1 s1 r1 p1 => hr ms1 S1 H1 vs ds Q _ s1 r1 p1⟩
variable {x : Str} {p pos : Pos} {e : Expr} {es : List Expr} {fs : F (List D)} {id T : String} {r : List V → Hp → VK → Prop} {g : List D → Sto → R D}
theorem d_callB (hc : CallR X (.builtin id) r) (hr : CallD (wd X Y) r g) (hg : Gl X x) (hm : X.mg x = none) (hv : bootBuiltins x = some (.builtin id)) (ha : DA X Y (e :: es) fs) (hn : x ≠ "__name__" := by decide) (hdb : (x == ("__debug__" : Str)) = false := by decide)
    (he : starEach (e :: es) X.env = (false, eval e X.env) :: starEach es X.env := by rfl) (hpl : (backTo pos (starEach es X.env)).any (·.1) = false := by rfl) : DE X Y (.Call (.Name x p) (e :: es) [] pos) (appF g fs) :=
  PE.weak (pe_callB hc hg hm hv ha hn hdb he hpl) fun _ _ _ h => app_of hr h
theorem d_callTy (hc : CallR X (.type T) r) (hr : CallD (wd X Y) r g) (hg : Gl X x) (hm : X.mg x = none) (hv : bootBuiltins x = some (.type T)) (ha : DA X Y (e :: es) fs) (hn : x ≠ "__name__" := by decide) (hdb : (x == ("__debug__" : Str)) = false := by decide)
    (he : starEach (e :: es) X.env = (false, eval e X.env) :: starEach es X.env := by rfl) (hpl : (backTo pos (starEach es X.env)).any (·.1) = false := by rfl) : DE X Y (.Call (.Name x p) (e :: es) [] pos) (appF g fs) :=
  PE.weak (pe_callTy hc hg hm hv ha hn hdb he hpl) fun _ _ _ h => app_of hr h
theorem RpL.one {W : Wd} {ms : List Addr} {G : Hp} {vs : List V} {d : D} (r : RpL W ms G vs [d]) : ∃ v, vs = [v] ∧ Rp W ms G v d := by
  cases r with | cons a b => cases b; exact ⟨_, rfl, a⟩
theorem RpL.two {W : Wd} {ms : List Addr} {G : Hp} {vs : List V} {d e : D} (r : RpL W ms G vs [d, e]) : ∃ v u, vs = [v, u] ∧ Rp W ms G v d ∧ Rp W ms G u e := by
  cases r with | cons a b => obtain ⟨u, rfl, c⟩ := RpL.one b; exact ⟨_, _, rfl, a, c⟩

noncomputable def lenD (ds : List D) (S : Sto) : R D := match ds with
  | [.str z] => if NLe z.length sizeLine then .ok (.int z.length) S else .bad
  | [d] => match asQ d S with
    | some xs => .ok (.int xs.length) S
    | none => .bad
  | _ => .bad
theorem s_len : CallD (wd X Y) (fun xs H Q => ∃ x n, xs = [x] ∧ LenV X.K x H n ∧ Q (.int n) H) lenD := by
  intro ms S H vs ds Q E st r p
  unfold lenD at p
  split at p
  · obtain ⟨v, rfl, a⟩ := r.one
    cases a
    split at p
    · rename_i hz; exact ⟨_, _, rfl, ⟨hz, rfl⟩, p.val st (.int _)⟩
    · exact p.elim
  · obtain ⟨v, rfl, a⟩ := r.one
    split at p
    · rename_i xs hx
      obtain ⟨q, us, rfl, h1, r1⟩ := asQ_of st a hx
      refine ⟨_, us.length, rfl, ?_, by rw [r1.length]; exact p.val st (.int _)⟩
      rcases h1 with h1 | h1
      · exact .inl ⟨us, h1, rfl⟩
      · exact .inr ⟨us, h1, rfl⟩
    · exact p.elim
  · exact p.elim
def max2D (ds : List D) (S : Sto) : R D := match ds with
  | [.int i, .int j] => .ok (.int (if j > i then j else i)) S
  | _ => .bad
theorem s_max2 : CallD (wd X Y) (fun xs H Q => ∃ i j, xs = [.int i, .int j] ∧ Q (.int (if j > i then j else i)) H) max2D := by
  intro ms S H vs ds Q E st r p
  unfold max2D at p
  split at p
  · obtain ⟨v, u, rfl, a, b⟩ := r.two
    cases a; cases b; exact ⟨_, _, rfl, p.val st (.int _)⟩
  · exact p.elim
def min2D (ds : List D) (S : Sto) : R D := match ds with
  | [.int i, .int j] => .ok (.int (if j < i then j else i)) S
  | _ => .bad
theorem s_min2 : CallD (wd X Y) (fun xs H Q => ∃ i j, xs = [.int i, .int j] ∧ Q (.int (if j < i then j else i)) H) min2D := by
  intro ms S H vs ds Q E st r p
  unfold min2D at p
  split at p
  · obtain ⟨v, u, rfl, a, b⟩ := r.two
    cases a; cases b; exact ⟨_, _, rfl, p.val st (.int _)⟩
  · exact p.elim
def absD (ds : List D) (S : Sto) : R D := match ds with
  | [.int i] => .ok (.int (if i < 0 then -i else i)) S
  | _ => .bad
theorem s_abs : CallD (wd X Y) (fun xs H Q => ∃ i, xs = [.int i] ∧ Q (.int (if i < 0 then -i else i)) H) absD := by
  intro ms S H vs ds Q E st r p
  unfold absD at p
  split at p
  · obtain ⟨v, rfl, a⟩ := r.one
    cases a; exact ⟨_, rfl, p.val st (.int _)⟩
  · exact p.elim
noncomputable def intD (ds : List D) (S : Sto) : R D := match ds with
  | [.int i] => .ok (.int i) S
  | [.bl b] => .ok (.int (if b then 1 else 0)) S
  | [.str z] => match PySem.intText? z with
    | some n => if NLe z.length 640 then .ok (.int n) S else .bad
    | none => .bad
  | _ => .bad
theorem call_intD : CallR X (.type "int") (fun xs H Q => ((∃ i, xs = [.int i] ∧ Q (.int i) H) ∨ ∃ k, xs = [.bl k] ∧ Q (.int (if k then 1 else 0)) H) ∨ ∃ a n, xs = [.str a] ∧ PySem.intText? a = some n ∧ a.length ≤ 640 ∧ Q (.int n) H) := call_int1.or call_int_str
theorem s_int : CallD (wd X Y) (fun xs H Q => ((∃ i, xs = [.int i] ∧ Q (.int i) H) ∨ ∃ k, xs = [.bl k] ∧ Q (.int (if k then 1 else 0)) H) ∨ ∃ a n, xs = [.str a] ∧ PySem.intText? a = some n ∧ a.length ≤ 640 ∧ Q (.int n) H) intD := by
  intro ms S H vs ds Q E st r p
  unfold intD at p
  split at p
  · obtain ⟨v, rfl, a⟩ := r.one; cases a; exact .inl (.inl ⟨_, rfl, p.val st (.int _)⟩)
  · obtain ⟨v, rfl, a⟩ := r.one; cases a; exact .inl (.inr ⟨_, rfl, p.val st (.int _)⟩)
  · obtain ⟨v, rfl, a⟩ := r.one; cases a
    split at p
    · rename_i n hn
      split at p
      · rename_i hz; exact .inr ⟨_, n, rfl, hn, hz, p.val st (.int _)⟩
      · exact p.elim
    · exact p.elim
  · exact p.elim
noncomputable def strD (ds : List D) (S : Sto) : R D := match ds with
  | [.int i] => if NLe (i.natAbs.log2 + 1) 1920 then .ok (.str (toString i)) S else .bad
  | _ => .bad
theorem s_str : CallD (wd X Y) (fun xs H Q => ∃ i, xs = [.int i] ∧ i.natAbs.log2 < 1920 ∧ Q (.str (toString i)) H) strD := by
  intro ms S H vs ds Q E st r p
  unfold strD at p
  split at p
  · obtain ⟨v, rfl, a⟩ := r.one; cases a
    split at p
    · rename_i h; exact ⟨_, rfl, h, p.val st (.str _)⟩
    · exact p.elim
  · exact p.elim
def intsOf : List D → Option (List Int)
  | [] => some []
  | .int i :: ds => (intsOf ds).map fun ns => i :: ns
  | _ :: _ => none
theorem intsOf_of {W : Wd} {ms : List Addr} {G : Hp} : ∀ {ds : List D} {vs : List V} {ns : List Int}, RpL W ms G vs ds → intsOf ds = some ns → vs = ns.map V.int
  | [], _, _, r, h => by cases r; cases h; rfl
  | d :: ds, _, _, r, h => by
    cases d <;> first
      | cases h
      | (obtain ⟨ns, e, rfl⟩ := Option.map_eq_some_iff.mp h
         cases r with | cons a b => cases a; rw [intsOf_of b e]; rfl)
def sumD (ds : List D) (S : Sto) : R D := match ds with
  | [d] => match (asQ d S).bind intsOf with
    | some ns => .ok (.int ns.sum) S
    | none => .bad
  | _ => .bad
/-- the sum of a list or a tuple of whole numbers -/
def rSumA (K : PySem.W.Frag) : List V → Hp → VK → Prop := fun vs H Q => ∃ (a : Addr) (ns : List Int), vs = [V.ref a] ∧ (SqL K H a (ns.map V.int) ∨ SqT K H a (ns.map V.int)) ∧ Q (.int ns.sum) H
theorem call_sumA {X : Cx} (hc : X.calm = true) : CallR X (.builtin "sum") (rSumA X.K) := by
  intro pins s σ H vs us Q I r h
  obtain ⟨a, ns, rfl, hs | hs, q⟩ := h
  · exact cr_sum hc pins s σ H _ us Q I r ⟨a, ns, rfl, hs, q⟩
  · obtain ⟨its, rv, ht, _⟩ := I.tuple hs
    rw [Vals.ref1 r]
    have whole := rv.ints
    obtain ⟨xs, ex⟩ := whole.allInts.items
    have en : numsOf (intItems xs).toList = ns := by rw [← ex]; exact whole.numsOf
    rw [nums_intItems] at en
    rw [ex] at ht
    refine PySem.W.ktm_sumG (I.ok.hd hc) ht fun h' tk t' hk => ?_
    rw [preSum_eq, List.take_of_length_le (by simp), en]
    exact ⟨.int _, H, I.kept hk, ⟨_, rfl⟩, q⟩
theorem s_sum : CallD (wd X Y) (rSumA X.K) sumD := by
  intro ms S H vs ds Q E st r p
  unfold sumD at p
  split at p
  · obtain ⟨v, rfl, a⟩ := r.one
    split at p
    · rename_i ns hn
      obtain ⟨xs, e1, e2⟩ := Option.bind_eq_some_iff.mp hn
      obtain ⟨q, us, rfl, h1, r1⟩ := asQ_of st a e1
      rw [intsOf_of r1 e2] at h1
      exact ⟨q, ns, rfl, h1, p.val st (.int _)⟩
    · exact p.elim
  · exact p.elim
/-- the greatest of a list that is not empty -/
def maxI : List Int → Int
  | [] => 0
  | [a] => a
  | a :: l => max a (maxI l)
theorem maxI_mem : ∀ l : List Int, l ≠ [] → maxI l ∈ l
  | [], h => absurd rfl h
  | [a], _ => by simp [maxI]
  | a :: b :: l, _ => by
    have ih := maxI_mem (b :: l) (by simp)
    show max a (maxI (b :: l)) ∈ _
    rw [Int.max_def]
    split
    · exact List.mem_cons_of_mem _ ih
    · exact List.mem_cons_self
theorem maxI_le : ∀ (l : List Int) (y : Int), y ∈ l → y ≤ maxI l
  | [], _, h => by cases h
  | [a], y, h => by simp at h; subst h; exact Int.le_refl _
  | a :: b :: l, y, h => by
    show y ≤ max a (maxI (b :: l))
    rcases List.mem_cons.mp h with rfl | h
    · omega
    · have := maxI_le (b :: l) y h; omega
def maxD (ds : List D) (S : Sto) : R D := match ds with
  | [d] => match (asL d S).bind intsOf with
    | some ns => if ns = [] then .bad else .ok (.int (maxI ns)) S
    | none => .bad
  | _ => .bad
theorem s_max : CallD (wd X Y) (rMax X.K) maxD := by
  intro ms S H vs ds Q E st r p
  unfold maxD at p
  split at p
  · obtain ⟨v, rfl, a⟩ := r.one
    split at p
    · rename_i ns hn
      obtain ⟨xs, e1, e2⟩ := Option.bind_eq_some_iff.mp hn
      obtain ⟨q, us, rfl, h1, r1⟩ := asL_of st a e1
      rw [intsOf_of r1 e2] at h1
      split at p
      · exact p.elim
      · rename_i hne
        refine ⟨q, ns, rfl, h1, List.length_pos_iff.mpr hne, fun m hm hle => ?_⟩
        have e : m = maxI ns := Int.le_antisymm (maxI_le ns m hm) (hle _ (maxI_mem ns hne))
        rw [e]
        exact p.val st (.int _)
    · exact p.elim
  · exact p.elim
def tupleD (ds : List D) (S : Sto) : R D := match ds with
  | [.tup xs] => .ok (.tup xs) S
  | [d] => match asL d S with
    | some xs => .ok (.tup xs) S
    | none => .bad
  | _ => .bad
theorem s_tuple : CallD (wd X Y) (fun xs H Q => ∃ p ys, xs = [.ref p] ∧ ((SqL X.K H p ys ∧ ∀ l, H l = none → Q (.ref l) (upd H l (.tup ys))) ∨ (SqT X.K H p ys ∧ Q (.ref p) H))) tupleD := by
  intro ms S H vs ds Q E st r p
  unfold tupleD at p
  split at p
  · obtain ⟨v, rfl, a⟩ := r.one
    obtain ⟨q, us, rfl, h1, r1⟩ := tup_of a
    exact ⟨q, us, rfl, .inr ⟨h1, p.val st a⟩⟩
  · obtain ⟨v, rfl, a⟩ := r.one
    split at p
    · rename_i xs hx
      obtain ⟨q, us, rfl, h1, r1⟩ := asL_of st a hx
      exact ⟨q, us, rfl, .inl ⟨h1, p.newT st r1⟩⟩
    · exact p.elim
  · exact p.elim
def listD (ds : List D) (S : Sto) : R D := match ds with
  | [d] => match asQ d S with
    | some xs => .ok (.lst xs) S
    | none => .bad
  | _ => .bad
theorem s_list : CallD (wd X Y) (fun xs H Q => ∃ p ys, xs = [.ref p] ∧ (SqL X.K H p ys ∨ SqT X.K H p ys) ∧ ∀ l, H l = none → Q (.ref l) (upd H l (.lst ys))) listD := by
  intro ms S H vs ds Q E st r p
  unfold listD at p
  split at p
  · obtain ⟨v, rfl, a⟩ := r.one
    split at p
    · rename_i xs hx
      obtain ⟨q, us, rfl, h1, r1⟩ := asQ_of st a hx
      exact ⟨q, us, rfl, h1, p.newL st r1⟩
    · exact p.elim
  · exact p.elim

/-! isinstance of one built-in class -/
def tyN (d : D) (S : Sto) : Option String := match d with
  | .non => some "NoneType"
  | .bl _ => some "bool"
  | .int _ => some "int"
  | .str _ => some "str"
  | .tup _ => some "tuple"
  | .lst _ => some "list"
  | .dic _ _ => some "dict"
  | .cell n => match S[n]? with
    | some (.lst _) => some "list"
    | some (.dic _ _) => some "dict"
    | _ => none
  | _ => none
/-- the answer for the classes that occur -/
def tyIs (t n : String) : Option Bool := match n with
  | "str" => some (t == "str")
  | "bool" => some (t == "bool")
  | "int" => some (t == "int" || t == "bool")
  | "tuple" => some (t == "tuple")
  | "list" => some (t == "list")
  | "dict" => some (t == "dict")
  | _ => none
theorem tyIs_ok : ∀ t ∈ ["NoneType", "bool", "int", "str", "tuple", "list", "dict"], ∀ n ∈ ["str", "bool", "int", "tuple", "list", "dict"], kitB t n = tyIs t n := by decide +kernel
theorem tyN_mem {d : D} {S : Sto} {t : String} (h : tyN d S = some t) : t ∈ ["NoneType", "bool", "int", "str", "tuple", "list", "dict"] := by
  unfold tyN at h
  split at h <;> first | (cases h; decide) | (split at h <;> first | (cases h; decide) | cases h) | cases h
theorem tyIs_mem {t n : String} {b : Bool} (h : tyIs t n = some b) : n ∈ ["str", "bool", "int", "tuple", "list", "dict"] := by
  unfold tyIs at h
  split at h <;> first | decide | cases h
theorem sqT_ty {W : Wd} {ms : List Addr} {H : Hp} {a : Addr} {vs : List V} (h : SqT W.K (era ms H) a vs) : TyX W.K H (.ref a) (.type "tuple") := by
  rcases h with (h | ⟨o, h⟩) | ⟨o, its, n, hk, hc, _⟩
  · exact .base (.tup (era_same _ _ _ _ h))
  · exact .fTuple (era_same _ _ _ _ h)
  · exact .kTuple hk hc
theorem tyN_of {W : Wd} {ms : List Addr} {S : Sto} {H : Hp} {d : D} {v : V} {t : String} (st : StOk W ms S H) (r : Rp W ms (era ms H) v d) (h : tyN d S = some t) : TyX W.K H v (.type t) := by
  unfold tyN at h
  split at h
  · cases h; cases r; exact .base .non
  · cases h; cases r; exact .base (.bl _)
  · cases h; cases r; exact .base (.int _)
  · cases h; cases r; exact .base (.str _)
  · cases h; cases r with | tup a b => exact sqT_ty a
  · cases h; cases r with | lst a b => exact .base (.lst (era_same _ _ _ _ a))
  · cases h; cases r with | dic a e b => exact .base (.dK (era_same _ _ _ _ a))
  · cases r with
    | cell a =>
      split at h
      · rename_i xs e
        cases h
        obtain ⟨vs, e1, _⟩ := st.readL a e
        exact .base (.lst e1)
      · rename_i ks xs e
        cases h
        obtain ⟨vs, e1, _⟩ := st.cell _ _ _ a e
        exact .base (.dK e1)
      · cases h
  · cases h
def isiF (n : String) (fe : EF) : EF := fun ρ S => (fe ρ S).bind fun d S1 => match (tyN d S1).bind fun t => tyIs t n with
  | some b => .ok (.bl b) S1
  | none => .bad
theorem d_isi {n : String} {fe : EF} {nm : Str} {q : Pos} (hg : Gl X "isinstance") (hm : X.mg "isinstance" = none) (he : DE X Y e fe) (hgn : Gl X nm) (hmn : X.mg nm = none) (hv : bootBuiltins nm = some (.type n)) (hnn : nm ≠ "__name__" := by decide) (hdn : (nm == ("__debug__" : Str)) = false := by decide)
    (h1 : starEach [e, .Name nm q] X.env = (false, eval e X.env) :: starEach [.Name nm q] X.env := by rfl) (h2 : starEach [.Name nm q] X.env = (false, eval (.Name nm q) X.env) :: starEach [] X.env := by rfl) (hpl : (backTo pos (starEach [.Name nm q] X.env)).any (·.1) = false := by rfl) :
    DE X Y (.Call (.Name "isinstance" p) [e, .Name nm q] [] pos) (isiF n fe) := by
  refine PE.weak (pe_callB call_isi hg hm boot_isinstance (pa_cons he (pa_cons (pe_bltn (v := .ty n) hgn hmn hv rfl hnn hdn) pa_nil h2) h1) (by decide) (by decide) h1 hpl) fun σ H Q h => ?_
  obtain ⟨ms, S, ρ, ev, st, p⟩ := h
  refine ⟨ms, S, ρ, ev, st, Post.split p fun d S1 v ms1 H1 _ f1 s1 r1 p1 => ?_⟩
  split at p1
  · rename_i b hb
    obtain ⟨t, e1, e2⟩ := Option.bind_eq_some_iff.mp hb
    refine ⟨v, .ty n, .type t, .type n, b, rfl, .ty n, tyN_of (W := wd X Y) s1 r1 e1, kit_ty ?_, p1.val s1 (.bl _)⟩
    rw [tyIs_ok t (tyN_mem e1) n (tyIs_mem e2)]
    exact e2
  · exact p1.elim
end

/-! ### methods of built-in types -/
section
variable {X : Cx} {Y : Yx} {o e : Expr} {es : List Expr} {fo : EF} {fs : F (List D)} {name : Str} {apos cpos : Pos} {T id : String}
/-- o.m(e, ..), o a list (a cell) or a text: g of its datum and the arguments -/
def methF (g : D → List D → Sto → R D) (fo : EF) (fs : F (List D)) : EF := fun ρ S => (fo ρ S).bind fun d S1 => (fs ρ S1).bind fun ds S2 => g d ds S2
def MethD (W : Wd) (T : String) (r : V → List V → Hp → VK → Prop) (g : D → List D → Sto → R D) : Prop := ∀ (ms : List Addr) (S : Sto) (H : Hp) (x : V) (d : D) (vs : List V) (ds : List D) (Q : VK) (E : XK), StOk W ms S H → Rp W ms (era ms H) x d → RpL W ms (era ms H) vs ds → Post W (relD W) ms H (g d ds S) Q E → r x vs H Q
/-- what is asked of the receiver ahead of the arguments -/
def isTy (T : String) (d : D) (S : Sto) : Bool := match d with
  | .str _ => T == "str"
  | .tup _ => false
  | d => T == "list" && (asL d S).isSome
theorem isTy_of {W : Wd} {ms : List Addr} {S : Sto} {H : Hp} {d : D} {v : V} {T : String} (st : StOk W ms S H) (r : Rp W ms (era ms H) v d) (h : isTy T d S = true) : tyV W.K T v H := by
  unfold isTy at h
  split at h
  · cases r; exact beq_iff_eq.mp h
  · cases h
  · obtain ⟨h1, h2⟩ := Bool.and_eq_true_iff.mp h
    obtain ⟨xs, hx⟩ := Option.isSome_iff_exists.mp h2
    obtain ⟨a, vs, rfl, h3, _⟩ := asL_of st r hx
    exact .inl ⟨beq_iff_eq.mp h1, vs, h3⟩
def mthF (T : String) (g : D → List D → Sto → R D) (fo : EF) (fs : F (List D)) : EF := fun ρ S => (fo ρ S).bind fun d S1 => if isTy T d S1 then (fs ρ S1).bind fun ds S2 => g d ds S2 else .bad
theorem d_bm {r : V → List V → Hp → VK → Prop} {g : D → List D → Sto → R D} (pa : PlainAttrs T) (slot : Slot T name id) (hty : typeOf (.builtin id) = pure (.type "method_descriptor")) (hm : MtR X id r) (hr : MethD (wd X Y) T r g) (ho : DE X Y o fo) (ha : DA X Y (e :: es) fs)
    (hbase : attributeBase o name X.env (eval o X.env) = eval o X.env := by rfl)
    (hfew : ((backTo cpos (starEach (e :: es) X.env)).all (fun x => !x.1) && (backToKw cpos (keywordEach [] X.env)).all (fun x => x.1.isSome)
      && decide ((e :: es).length + ([] : List Keyword).length + (if ([] : List Keyword).isEmpty then 0 else 1) < 30)) = true := by rfl)
    (hline : (apos.endLine == cpos.line) = true := by rfl) (hs : starEach (e :: es) X.env = (false, eval e X.env) :: starEach es X.env := by rfl) (hplain : (backTo cpos (starEach es X.env)).any (·.1) = false := by rfl) :
    DE X Y (.Call (.Attribute o name apos) (e :: es) [] cpos) (mthF T g fo fs) := by
  refine PE.weak (pe_bm pa slot hty hm ho ha hbase hfew hline hs hplain) fun σ H Q h => ?_
  obtain ⟨ms, S, ρ, ev, st, p⟩ := h
  refine ⟨ms, S, ρ, ev, st, Post.split p fun d S1 x ms1 H1 _ f1 s1 r1 p1 => ?_⟩
  split at p1
  · rename_i hT
    refine ⟨isTy_of (W := wd X Y) s1 r1 hT, ms1, S1, ρ, ev.fut f1, s1, Post.split p1 fun ds S2 vs ms2 H2 _ f2 s2 r2 p2 => ?_⟩
    exact hr ms2 S2 H2 x d vs ds Q _ s2 (Rp.fut r1 f2) r2 p2
  · exact p1.elim
theorem d_bm0 {r : V → List V → Hp → VK → Prop} {g : D → List D → Sto → R D} (pa : PlainAttrs T) (slot : Slot T name id) (hty : typeOf (.builtin id) = pure (.type "method_descriptor")) (hm : MtR X id r) (hr : MethD (wd X Y) T r g) (ho : DE X Y o fo)
    (hbase : attributeBase o name X.env (eval o X.env) = eval o X.env := by rfl) (hline : (apos.endLine == cpos.line) = true := by rfl) : DE X Y (.Call (.Attribute o name apos) [] [] cpos) (mthF T g fo nilF) := by
  refine PE.weak (pe_bm0 pa slot hty hm ho hbase hline) fun σ H Q h => ?_
  obtain ⟨ms, S, ρ, ev, st, p⟩ := h
  refine ⟨ms, S, ρ, ev, st, Post.split p fun d S1 x ms1 H1 _ f1 s1 r1 p1 => ?_⟩
  split at p1
  · rename_i hT
    exact ⟨isTy_of (W := wd X Y) s1 r1 hT, hr ms1 S1 H1 x d [] [] Q _ s1 r1 .nil p1⟩
  · exact p1.elim
/-- xs.append(e), xs a cell -/
noncomputable def appendD (d : D) (ds : List D) (S : Sto) : R D := match d, ds with
  | .cell n, [x] => match S[n]? with
    | some (.lst xs) => if low n x && decide (NLe (xs.length + 1) sizeLine) then .ok .non (S.set n (.lst (xs ++ [x]))) else .bad
    | _ => .bad
  | _, _ => .bad
theorem s_append {W : Wd} : MethD W "list" rAppend appendD := by
  intro ms S H x d vs ds Q E st rx rv p
  unfold appendD at p
  split at p
  · rename_i n y
    obtain ⟨v, rfl, rv1⟩ := rv.one
    split at p
    · rename_i xs hx
      split at p
      · rename_i hl
        obtain ⟨l1, l2⟩ := Bool.and_eq_true_iff.mp hl
        have l2 := of_decide_eq_true l2
        cases rx with
        | cell a =>
          obtain ⟨us, e1, r1⟩ := st.cell _ _ _ a hx
          have hm := List.mem_of_getElem? a
          exact ⟨_, us, v, rfl, rfl, e1, by rw [r1.length]; exact l2, p .non ms _ (Fut.write hm) (st.writeL a (r1.append (.cons (Rp.take _ _ l1 rv1) .nil))) .non⟩
      · exact p.elim
    · exact p.elim
  · exact p.elim
/-- xs.extend(ys), xs a cell, ys a list that is tracked -/
noncomputable def extendD (d : D) (ds : List D) (S : Sto) : R D := match d, ds with
  | .cell n, [x] => match S[n]?, asT x S with
    | some (.lst xs), some ys => if lowL n ys && decide (NLe (xs.length + ys.length) sizeLine) then .ok .non (S.set n (.lst (xs ++ ys))) else .bad
    | _, _ => .bad
  | _, _ => .bad
theorem s_extend {W : Wd} : MethD W "list" rExtend extendD := by
  intro ms S H x d vs ds Q E st rx rv p
  unfold extendD at p
  split at p
  · rename_i n y
    obtain ⟨v, rfl, rv1⟩ := rv.one
    split at p
    · rename_i xs ys hx hy
      split at p
      · rename_i hl
        obtain ⟨l1, l2⟩ := Bool.and_eq_true_iff.mp hl
        have l2 := of_decide_eq_true l2
        obtain ⟨b, ws, rfl, e2, r2⟩ := asT_of st rv1 hy
        cases rx with
        | cell a =>
          obtain ⟨us, e1, r1⟩ := st.cell _ _ _ a hx
          have hm := List.mem_of_getElem? a
          exact ⟨_, b, us, ws, rfl, rfl, e1, e2, by rw [r1.length, r2.length]; exact l2, p .non ms _ (Fut.write hm) (st.writeL a (r1.append (RpL.take _ _ l1 r2))) .non⟩
      · exact p.elim
    · exact p.elim
  · exact p.elim
/-- sep.join(list or tuple of texts) -/
def strsOf : List D → Option (List Str)
  | [] => some []
  | .str z :: ds => (strsOf ds).map fun ns => z :: ns
  | _ :: _ => none
theorem strsOf_of {W : Wd} {ms : List Addr} {G : Hp} : ∀ {ds : List D} {vs : List V} {ns : List Str}, RpL W ms G vs ds → strsOf ds = some ns → vs = ns.map V.str
  | [], _, _, r, h => by cases r; cases h; rfl
  | d :: ds, _, _, r, h => by
    cases d <;> first
      | cases h
      | (obtain ⟨ns, e, rfl⟩ := Option.map_eq_some_iff.mp h
         cases r with | cons a b => cases a; rw [strsOf_of b e]; rfl)
noncomputable def joinD (d : D) (ds : List D) (S : Sto) : R D := match d, ds with
  | .str a, [x] => match (asQ x S).bind strsOf with
    | some ys => if NLe ((ys.map (·.length)).sum + ys.length * a.length) 16777216 then .ok (.str (Txt.join a ys)) S else .bad
    | none => .bad
  | _, _ => .bad
theorem s_join {W : Wd} : MethD W "str" (fun x xs H Q => ∃ a p, ∃ ys : List Str, x = .str a ∧ xs = [.ref p] ∧ (SqL W.K H p (ys.map V.str) ∨ SqT W.K H p (ys.map V.str)) ∧
    (ys.map (·.length)).sum + ys.length * a.length ≤ 16777216 ∧ Q (.str (Txt.join a ys)) H) joinD := by
  intro ms S H x d vs ds Q E st rx rv p
  unfold joinD at p
  split at p
  · cases rx
    obtain ⟨v, rfl, rv1⟩ := rv.one
    split at p
    · rename_i ys hys
      obtain ⟨es, e1, e2⟩ := Option.bind_eq_some_iff.mp hys
      obtain ⟨b, us, rfl, h1, r1⟩ := asQ_of st rv1 e1
      have e3 := strsOf_of r1 e2
      subst e3
      split at p
      · rename_i hl
        exact ⟨_, b, ys, rfl, rfl, h1, hl, p.val st (.str _)⟩
      · exact p.elim
    · exact p.elim
  · exact p.elim
/-- s.index(t), t in s -/
def sindexD (d : D) (ds : List D) (S : Sto) : R D := match d, ds with
  | .str a, [.str b] => match Txt.index0 a b with
    | some k => .ok (.int (k : Nat)) S
    | none => .bad
  | _, _ => .bad
theorem d_sindex {wx : WX} {fo : EF} {fs : F (List D)} (hc : X.calm = true) (tk : Takes X wx) (ho : DE X ⟨none, wx⟩ o fo) (ha : DA X ⟨none, wx⟩ (e :: es) fs)
    (hbase : attributeBase o "index" X.env (eval o X.env) = eval o X.env := by rfl)
    (hfew : ((backTo cpos (starEach (e :: es) X.env)).all (fun x => !x.1) && (backToKw cpos (keywordEach [] X.env)).all (fun x => x.1.isSome)
      && decide ((e :: es).length + ([] : List Keyword).length + (if ([] : List Keyword).isEmpty then 0 else 1) < 30)) = true := by rfl)
    (hline : (apos.endLine == cpos.line) = true := by rfl) (hs : starEach (e :: es) X.env = (false, eval e X.env) :: starEach es X.env := by rfl) (hplain : (backTo cpos (starEach es X.env)).any (·.1) = false := by rfl) :
    DE X ⟨none, wx⟩ (.Call (.Attribute o "index" apos) (e :: es) [] cpos) (mthF "str" sindexD fo fs) := by
  refine PE.weak (pe_bmS PySem.F.plainAttrs_str PySem.F.slot_str_index PySem.F.type_str_index (mt_indexX hc tk) ho ha hbase hfew hline hs hplain) fun σ H Q h => ?_
  obtain ⟨ms, S, ρ, ev, st, p⟩ := h
  refine ⟨ms, S, ρ, ev, st, Post.split p fun d S1 x ms1 H1 _ f1 s1 r1 p1 => ?_⟩
  split at p1
  · rename_i hT
    refine ⟨isTy_of (W := wd X ⟨none, wx⟩) s1 r1 hT, ms1, S1, ρ, ev.fut f1, s1, Post.split p1 fun ds S2 vs ms2 H2 _ f2 s2 r2 p2 => ?_⟩
    unfold sindexD at p2
    split at p2
    · cases r1
      obtain ⟨v, rfl, r3⟩ := r2.one
      cases r3
      split at p2
      · rename_i k hk
        exact ⟨_, _, rfl, rfl, fun k' hk' => by rw [hk] at hk'; cases hk'; exact p2.val s2 (.int _), fun hn => by rw [hk] at hn; cases hn⟩
      · exact p2.elim
    · exact p2.elim
  · exact p1.elim
/-- xs.pop() -/
def popD (d : D) (ds : List D) (S : Sto) : R D := match d, ds with
  | .cell n, [] => match S[n]? with
    | some (.lst xs) => match xs[xs.length - 1]? with
      | some y => .ok y (S.set n (.lst xs.dropLast))
      | none => .bad
    | _ => .bad
  | _, _ => .bad
theorem RpL.dropLast {W : Wd} {ms : List Addr} {G : Hp} {vs : List V} {ds : List D} (r : RpL W ms G vs ds) : RpL W ms G vs.dropLast ds.dropLast := by
  rw [List.dropLast_eq_take, List.dropLast_eq_take, r.length]
  exact r.takeN _
theorem s_pop {W : Wd} : MethD W "list" rPop popD := by
  intro ms S H x d vs ds Q E st rx rv p
  unfold popD at p
  split at p
  · cases rv
    split at p
    · rename_i xs hx
      split at p
      · rename_i y hy
        cases rx with
        | cell a =>
          obtain ⟨us, e1, r1⟩ := st.cell _ _ _ a hx
          have hm := List.mem_of_getElem? a
          rw [← r1.length] at hy
          obtain ⟨v, h2, r2⟩ := r1.get hy
          refine ⟨_, us, v, rfl, rfl, e1, h2, p v ms _ (Fut.write hm) (st.writeL a r1.dropLast) ?_⟩
          rw [era_write hm]
          exact Rp.mono (take_ext _) (Same.refl _) (.inr rfl) rfl rfl _ _ r2
      · exact p.elim
    · exact p.elim
  · exact p.elim
end

/-! ### stores -/
section
variable {X : Cx} {Y : Yx} {pos : Pos}
/-- o[i] = v: o a cell -/
def putIx (d i v : D) (S : Sto) : Option Sto := match d, i with
  | .cell n, .int k => match S[n]? with
    | some (.lst xs) => match ixN xs.length k with
      | some j => if low n v then some (S.set n (.lst (xs.set j v))) else none
      | none => none
    | _ => none
  | _, _ => none
theorem s_put {W : Wd} {ms : List Addr} {S S' : Sto} {H : Hp} {o i v : V} {d e x : D} {Q : Hp → Prop} (st : StOk W ms S H) (r1 : Rp W ms (era ms H) o d) (r2 : Rp W ms (era ms H) i e) (r3 : Rp W ms (era ms H) v x) (h : putIx d e x S = some S')
    (q : ∀ H', Fut ms H ms H' → StOk W ms S' H' → Q H') : rSetL o i v H Q := by
  unfold putIx at h
  split at h
  · rename_i n k
    split at h
    · rename_i xs hx
      split at h
      · rename_i j hj
        split at h
        · rename_i hl
          cases h
          cases r1 with
          | cell a =>
            cases r2
            obtain ⟨us, e1, rr⟩ := st.cell _ _ _ a hx
            exact ⟨_, us, k, j, rfl, rfl, e1, by rw [rr.length]; exact hj, q _ (Fut.write (List.mem_of_getElem? a)) (st.writeL a (RpL.set (Rp.take _ _ hl r3) j rr))⟩
        · cases h
      · cases h
    · cases h
  · cases h
def putS (fe fo fi : EF) : SF := fun ρ S => (fe ρ S).st ρ fun v S1 => (fo ρ S1).st ρ fun d S2 => (fi ρ S2).st ρ fun i S3 => match putIx d i v S3 with
  | some S4 => .nx ρ S4
  | none => .bad
theorem ds_put {o i e : Expr} {fe fo fi : EF} {tpos : Pos} (he : DE X Y e fe) (ho : DE X Y o fo) (hi : DE X Y i fi)
    (ha : ∀ v, assign (.Subscript o i tpos) X.env v = (do
      let ov ← holding [v] (eval o X.env)
      let iv ← holding [v, ov] (eval i X.env)
      standAt tpos
      holding [v, ov, iv] (setItem ov iv v)
      release [v, ov, iv] []) := by intro _; rfl)
    (hs : swapsWithSole [.Subscript o i tpos] e pos.line X.env = pure false := by rfl) (hw : swappedStores [.Subscript o i tpos] e X.env = pure none := by rfl)
    (h1 : (assignEach [.Subscript o i tpos] X.env).map (·.2) = [assign (.Subscript o i tpos) X.env] := by rfl) : DS X Y (.Assign [.Subscript o i tpos] e pos) (putS fe fo fi) := by
  refine PS.weak (ps_asg he (pg_sub ho hi set_list ha) hs hw h1) fun D σ H h => ?_
  obtain ⟨ms, S, ρ, ev, st, p⟩ := h
  refine ⟨ms, S, ρ, ev, st, PostS.split ev p fun v S1 x ms1 H1 _ f1 s1 r1 p1 => ⟨ms1, S1, ρ, ev.fut f1, s1, PostS.split (ev.fut f1) p1 fun d S2 y ms2 H2 _ f2 s2 r2 p2 => ⟨ms2, S2, ρ, ev.fut (f1.trans f2), s2, PostS.split (ev.fut (f1.trans f2)) p2 fun i S3 z ms3 H3 _ f3 s3 r3 p3 => ?_⟩⟩⟩
  split at p3
  · rename_i S4 h4
    exact s_put (W := wd X Y) s3 (Rp.fut r2 f3) r3 (Rp.fut r1 (f2.trans f3)) h4 fun H' f s => p3 σ ms3 H' f s (ev.fut (f1.trans (f2.trans (f3.trans f))))
  · exact p3.elim
/-- name op= e -/
def augS (i : Nat) (g : D → D → Sto → R D) (fe : EF) : SF := fun ρ S => match ρ[i]? with
  | some (some d) => (fe ρ S).st ρ fun e S1 => (g d e S1).st ρ fun x S2 => .nx (ρ.set i (some x)) S2
  | _ => .bad
theorem ds_aug {i : Nat} {x : Str} {e : Expr} {fe : EF} {op : Operator} {r : R2} {g : D → D → Sto → R D} {pos' : Pos} (hN : X.N.Nodup) (hi : X.N[i]? = some x) (hx : Loc X.env.scope x) (he : DE X Y e fe) (ho : OpR X (inplaceOp op) r) (hr : OpD (wd X Y) r g)
    (hf : X.fn x = true ∨ X.env.scope.names.lookup x = some .local := by first | exact .inl rfl | exact .inr rfl | assumption) : DS X Y (.AugAssign (.Name x pos') op e pos) (augS i g fe) := by
  refine PS.weak (ps_aug hN hi hx he (ti := r) ho hf) fun D σ H h => ?_
  obtain ⟨ms, S, ρ, ev, st, p⟩ := h
  unfold augS at p
  split at p
  · rename_i d hd
    obtain ⟨v, e1, r0⟩ := ev.get i d hd
    refine ⟨v, e1, ms, S, ρ, ev, st, PostS.split ev p fun e S1 y ms1 H1 _ f1 s1 r1 p1 => ?_⟩
    refine hr ms1 S1 H1 v y d e _ _ s1 (Rp.fut r0 f1) r1 (PostS.split (ev.fut f1) p1 fun x S2 z ms2 H2 _ f2 s2 r2 p2 => ?_)
    exact p2 _ ms2 H2 (Fut.refl _ _) s2 ((ev.fut (f1.trans f2)).set r2 i)
  · exact p.elim
theorem op_iaddD : OpR X (inplaceOp .Add) (fun x y H Q => rI0 (fun i j => .int (i + j)) x y H Q ∨ (∃ i j, x = V.str i ∧ y = V.str j ∧ i.length + j.length ≤ sizeLine ∧ Q (.str (i ++ j)) H)) := iop_add.or iop_add_str
noncomputable def iaddD (d e : D) (S : Sto) : R D := match d, e with
  | .int i, .int j => .ok (.int (i + j)) S
  | .str a, .str b => if NLe (a.length + b.length) sizeLine then .ok (.str (a ++ b)) S else .bad
  | _, _ => .bad
theorem s_iadd : OpD (wd X Y) (fun x y H Q => rI0 (fun i j => .int (i + j)) x y H Q ∨ (∃ i j, x = V.str i ∧ y = V.str j ∧ i.length + j.length ≤ sizeLine ∧ Q (.str (i ++ j)) H)) iaddD := by
  intro ms S H x y d e Q E st rx ry p
  unfold iaddD at p
  split at p
  · cases rx; cases ry; exact .inl ⟨_, _, rfl, rfl, p.val st (.int _)⟩
  · cases rx; cases ry
    split at p
    · rename_i hl; exact .inr ⟨_, _, rfl, rfl, hl, p.val st (.str _)⟩
    · exact p.elim
  · exact p.elim
theorem s_isub : OpD (wd X Y) (rI0 fun i j => .int (i - j)) subD := s_sub
end

/-! ### walks: anything of items; zip -/
section
variable {X : Cx} {Y : Yx} {tg : Expr}
/-- a list, a tuple or a text, whatever it is -/
def anyI (d : D) (S : Sto) : R (List D) := match d with
  | .lst ds => .ok ds S
  | .rol ds => .ok ds S
  | .tup ds => .ok ds S
  | .str z => .ok (z.cps.toList.map fun c => D.str ⟨#[c]⟩) S
  | _ => .bad
def iAny (K : PySem.W.Frag) (te : TE) : TI := fun σ H R => te σ H fun v H1 => (∃ a xs, v = .ref a ∧ SqL K H1 a xs ∧ R (Itl K a) H1) ∨ (∃ a xs, v = .ref a ∧ SqT K H1 a xs ∧ R (Itt K a) H1) ∨ ∃ x, v = .str x ∧ R (Its x) H1
theorem pi_any {e : Expr} {te : TE} (he : PE X e te) : PI X tg e (iAny X.K te) := by
  refine ⟨fun pins s σ H R I h => ?_⟩
  refine thn (he.run pins s σ H _ I h) fun v s1 ⟨y, H1, I1, r1, q1⟩ => ?_
  rcases q1 with ⟨a, xs, rfl, hq, q⟩ | ⟨a, xs, rfl, hq, q⟩ | ⟨x, rfl, q⟩
  · cases r1
    obtain ⟨its, rv, p, hz⟩ := I1.list hq
    refine wpAny_pyIter_list p.isList ?_
    refine ⟨s1.heap.objs.size, [s1.heap.objs.size], _, _, H1, rfl, I1.kept (t' := s1.toks) fun b o e => Heap.get?_push_of_some _ e, turn_list a _, ⟨_, Heap.get?_push_size _ rfl, rfl, rfl⟩, fun b hb => ?_, q⟩
    have e : b = s1.heap.objs.size := by simpa using hb
    subst e
    exact I1.fpOk (Nat.le_refl _) (I1.hok.fresh (Nat.le_refl _))
  · cases r1
    obtain ⟨its, rv, p, hz⟩ := I1.tuple hq
    refine wpAny_pyIter_tuple (show s1.heap.IsTuple a its.toArray from p) ?_
    refine ⟨s1.heap.objs.size, [s1.heap.objs.size], _, _, H1, rfl, I1.kept (t' := s1.toks) fun b o e => Heap.get?_push_of_some _ e, turn_tuple a _, ⟨_, Heap.get?_push_size _ rfl, rfl, rfl⟩, fun b hb => ?_, q⟩
    have e : b = s1.heap.objs.size := by simpa using hb
    subst e
    exact I1.fpOk (Nat.le_refl _) (I1.hok.fresh (Nat.le_refl _))
  · obtain ⟨t, rfl⟩ := r1
    cases ha : x.cps.all (· < 128)
    · exact wpAny_pyIter_wide ha (pi_one (tk := s1.toks) I1 _ (turn_str _ x t "str_iterator" (.inr rfl)) ⟨_, Heap.get?_push_size _ rfl, rfl, rfl⟩ q)
    · exact wpAny_pyIter_ascii ha (pi_one (tk := s1.toks) I1 _ (turn_str _ x t "str_ascii_iterator" (.inl rfl)) ⟨_, Heap.get?_push_size _ rfl, rfl, rfl⟩ q)
theorem di_any {e : Expr} {fe : EF} (he : DE X Y e fe) : DI X Y tg e (itF anyI fe) := by
  refine PI.weak (pi_any he) fun σ H R' h => tI_of (k := anyI) h (fun d S1 v ms1 H1 ds' S' e s r p => ?_) fun d S1 c ks ds S' => by unfold anyI; split <;> simp
  cases r with
  | lst a b =>
    cases e
    have q : SqL X.K (era ms1 H1) _ _ := .inl (.inl a)
    exact .inl ⟨_, _, rfl, Same.seq (era_same _ _) q, p _ ms1 H1 (Fut.refl _ _) s (Itl.is (W := wd X Y) q b)⟩
  | rol a b => cases e; exact .inl ⟨_, _, rfl, Same.seq (era_same _ _) a, p _ ms1 H1 (Fut.refl _ _) s (Itl.is (W := wd X Y) a b)⟩
  | tup a b => cases e; exact .inr (.inl ⟨_, _, rfl, Same.sqT (era_same _ _) a, p _ ms1 H1 (Fut.refl _ _) s (Itt.is (W := wd X Y) a b)⟩)
  | str z => cases e; exact .inr (.inr ⟨z, rfl, p _ ms1 H1 (Fut.refl _ _) s (Its.is (W := wd X Y) z)⟩)
  | _ => cases e
/-- zip of two lists, of two tuples -/
def zipI (ds : List D) (S : Sto) : R (List D) := match ds with
  | [.lst xs, .lst ys] => .ok (List.zipWith (fun x y => D.tup [x, y]) xs ys) S
  | [.tup xs, .tup ys] => .ok (List.zipWith (fun x y => D.tup [x, y]) xs ys) S
  | _ => .bad
theorem zipW_get {xs ys : List D} {i : Nat} {d : D} (h : (List.zipWith (fun x y => D.tup [x, y]) xs ys)[i]? = some d) : ∃ x y, xs[i]? = some x ∧ ys[i]? = some y ∧ d = .tup [x, y] := by
  rw [List.getElem?_zipWith] at h
  cases hx : xs[i]? with
  | none => rw [hx] at h; cases h
  | some x =>
    cases hy : ys[i]? with
    | none => rw [hx, hy] at h; cases h
    | some y => rw [hx, hy] at h; cases h; exact ⟨x, y, rfl, rfl, rfl⟩
theorem Itz.is {W : Wd} {ms : List Addr} {H : Hp} {a b : Addr} {vs us : List V} {xs ys : List D} (h1 : SqL W.K (era ms H) a vs) (r1 : RpL W ms (era ms H) vs xs) (h2 : SqL W.K (era ms H) b us) (r2 : RpL W ms (era ms H) us ys) :
    IsIt W (Itz W.K a b) (List.zipWith (fun x y => D.tup [x, y]) xs ys) ms H := by
  refine ⟨fun ms1 H1 S1 i f s hi => ?_, fun ms1 H1 S1 f s => ?_⟩
  · have q1 : SqL W.K H1 a vs := Same.seq (f.same.trans (era_same _ _)) h1
    have q2 : SqL W.K H1 b us := Same.seq (f.same.trans (era_same _ _)) h2
    obtain ⟨x, y, hx, hy, _⟩ := zipW_get (List.getElem?_eq_getElem hi)
    obtain ⟨v, e1, rv⟩ := r1.get hx
    obtain ⟨u, e2, ru⟩ := r2.get hy
    refine ⟨⟨vs, us, v, u, q1, q2, e1, e2⟩, fun z H2 yd => ?_⟩
    obtain ⟨T, v', u', rfl, hT, rfl, e3, e4⟩ := yd
    have e5 := e3 vs q1
    have e6 := e4 us q2
    rw [e1] at e5; cases e5
    rw [e2] at e6; cases e6
    refine ⟨Fut.new s hT, s.new hT, fun d hd => ?_⟩
    obtain ⟨x', y', hx', hy', rfl⟩ := zipW_get hd
    rw [hx] at hx'; cases hx'
    rw [hy] at hy'; cases hy'
    exact .tup (.inl (.inl (era_new s hT))) (.cons (Rp.fut (Rp.fut rv f) (Fut.new s hT)) (.cons (Rp.fut (Rp.fut ru f) (Fut.new s hT)) .nil))
  · refine ⟨vs, us, Same.seq (f.same.trans (era_same _ _)) h1, Same.seq (f.same.trans (era_same _ _)) h2, ?_⟩
    rw [r1.length, r2.length, List.length_zipWith]
    omega
theorem ItzT.is {W : Wd} {ms : List Addr} {H : Hp} {a b : Addr} {vs us : List V} {xs ys : List D} (h1 : SqT W.K (era ms H) a vs) (r1 : RpL W ms (era ms H) vs xs) (h2 : SqT W.K (era ms H) b us) (r2 : RpL W ms (era ms H) us ys) :
    IsIt W (RZ.ItzT W.K a b) (List.zipWith (fun x y => D.tup [x, y]) xs ys) ms H := by
  refine ⟨fun ms1 H1 S1 i f s hi => ?_, fun ms1 H1 S1 f s => ?_⟩
  · have q1 : SqT W.K H1 a vs := Same.sqT (f.same.trans (era_same _ _)) h1
    have q2 : SqT W.K H1 b us := Same.sqT (f.same.trans (era_same _ _)) h2
    obtain ⟨x, y, hx, hy, _⟩ := zipW_get (List.getElem?_eq_getElem hi)
    obtain ⟨v, e1, rv⟩ := r1.get hx
    obtain ⟨u, e2, ru⟩ := r2.get hy
    refine ⟨⟨vs, us, v, u, q1, q2, e1, e2⟩, fun z H2 yd => ?_⟩
    obtain ⟨T, v', u', rfl, hT, rfl, e3, e4⟩ := yd
    have e5 := e3 vs q1
    have e6 := e4 us q2
    rw [e1] at e5; cases e5
    rw [e2] at e6; cases e6
    refine ⟨Fut.new s hT, s.new hT, fun d hd => ?_⟩
    obtain ⟨x', y', hx', hy', rfl⟩ := zipW_get hd
    rw [hx] at hx'; cases hx'
    rw [hy] at hy'; cases hy'
    exact .tup (.inl (.inl (era_new s hT))) (.cons (Rp.fut (Rp.fut rv f) (Fut.new s hT)) (.cons (Rp.fut (Rp.fut ru f) (Fut.new s hT)) .nil))
  · refine ⟨vs, us, Same.sqT (f.same.trans (era_same _ _)) h1, Same.sqT (f.same.trans (era_same _ _)) h2, ?_⟩
    rw [r1.length, r2.length, List.length_zipWith]
    omega
theorem di_zip {a b : Expr} {fa : F (List D)} {p pos tpos : Pos} {elts : List Expr} {kk : Nat} (hg : Gl X "zip") (hm : X.mg "zip" = none) (ha : DA X Y [a, b] fa)
    (hs : starEach [a, b] X.env = (false, eval a X.env) :: starEach [b] X.env := by rfl) (hpl : (backTo pos (starEach [b] X.env)).any (·.1) = false := by rfl) :
    DI X Y (.Tuple elts kk tpos) (.Call (.Name "zip" p) [a, b] [] pos) (itA zipI fa) := by
  refine PI.weak (RZ.pi_zipA hg hm ha hs hpl) fun σ H R' h => tI_of (k := zipI) h (fun ds S1 vs ms1 H1 ds' S' e s r p => ?_) fun ds S1 c ks es S' => by unfold zipI; split <;> simp
  unfold zipI at e
  split at e
  · cases e
    obtain ⟨v, u, rfl, r1, r2⟩ := r.two
    cases r1 with
    | lst a1 b1 =>
      cases r2 with
      | lst a2 b2 =>
        have q1 : SqL X.K (era ms1 H1) _ _ := .inl (.inl a1)
        have q2 : SqL X.K (era ms1 H1) _ _ := .inl (.inl a2)
        exact ⟨_, _, _, _, rfl, .inl ⟨Same.seq (era_same _ _) q1, Same.seq (era_same _ _) q2, p _ ms1 H1 (Fut.refl _ _) s (Itz.is (W := wd X Y) q1 b1 q2 b2)⟩⟩
  · cases e
    obtain ⟨v, u, rfl, r1, r2⟩ := r.two
    cases r1 with
    | tup a1 b1 =>
      cases r2 with
      | tup a2 b2 => exact ⟨_, _, _, _, rfl, .inr ⟨Same.sqT (era_same _ _) a1, Same.sqT (era_same _ _) a2, p _ ms1 H1 (Fut.refl _ _) s (ItzT.is (W := wd X Y) a1 b1 a2 b2)⟩⟩
  · cases e
end

/-! ### comprehensions -/
def wipeD (ρ : Nv) : List Nat → Nv
  | [] => ρ
  | v :: vs => (wipeD ρ vs).set v none
/-- errors within are not followed -/
def R.bindN {α β : Type} (r : R α) (k : α → Sto → R β) : R β := match r with
  | .ok a S => k a S
  | _ => .bad
theorem R.bindN_ok {α β : Type} {a : α} {S : Sto} {k : α → Sto → R β} : (R.ok a S).bindN k = k a S := rfl
/-- one more item to the list in cell n -/
noncomputable def pushC (n : Nat) (x : D) (S : Sto) : R Unit := match S[n]? with
  | some (.lst xs) => if low n x && decide (NLe (xs.length + 1) sizeLine) then .ok () (S.set n (.lst (xs ++ [x]))) else .bad
  | _ => .bad
noncomputable def compL (n : Nat) (g : GF) (t : F Bool) (fe : EF) (ρ : Nv) : List D → Sto → R Unit
  | [], S => .ok () S
  | d :: ds, S => match g d ρ S with
    | none => .bad
    | some ρ1 => (t ρ1 S).bindN fun k S1 => if k then (fe ρ1 S1).bindN fun x S2 => (pushC n x S2).bindN fun _ S3 => compL n g t fe ρ ds S3 else compL n g t fe ρ ds S1
def yesB : F Bool := fun _ S => .ok true S
theorem Ev.wipe {W : Wd} {ρ : Nv} {σ : St} {ms : List Addr} {H : Hp} (e : Ev W ρ σ ms H) : ∀ vs : List Nat, Ev W (wipeD ρ vs) (L2.wipe σ vs) ms H
  | [] => e
  | v :: vs => (Ev.wipe e vs).unset v
/-- what stands at the end: the list's cell, or the list as data -/
def finO (n : Nat) (S : Sto) : R D := .ok (.cell n) S
def finF (n : Nat) (S : Sto) : R D := match S[n]? with
  | some (.lst xs) => .ok (.lst xs) (S.take n)
  | _ => .bad
noncomputable def compG (fin : Nat → Sto → R D) (vs : List Nat) (fi : F (List D)) (g : GF) (t : F Bool) (fe : EF) : EF := fun ρ S => (fi ρ S).bind fun ds S1 => (compL S1.length g t fe (wipeD ρ vs) ds (S1 ++ [.lst []])).bindN fun _ S2 => fin S1.length S2
def Fin (W : Wd) (fin : Nat → Sto → R D) : Prop := ∀ (ms1 ms' : List Addr) (H1 H' : Hp) (S' : Sto) (a : Addr) (Q : VK) (E : XK), H1 a = none → StOk W ms' S' H' → Fut ms1 H1 ms' H' → ms'[ms1.length]? = some a → Post W (relD W) ms1 H1 (fin ms1.length S') Q E → Q (.ref a) H'
theorem fin_O (W : Wd) : Fin W finO := fun ms1 ms' H1 H' S' a Q E _ s f h p => p (.ref a) ms' H' f s (.cell h)
theorem fin_F (W : Wd) : Fin W finF := by
  intro ms1 ms' H1 H' S' a Q E _ s f h p
  unfold finF at p
  split at p
  · rename_i xs hx
    obtain ⟨us, e1, rr⟩ := s.cell _ _ _ h hx
    obtain ⟨e2, f2⟩ := Fut.drop s (n := ms1.length) rfl f
    have s1 := s.take ms1.length
    have er := era_take s ms1.length
    have nin : a ∉ ms'.take ms1.length := fun q => by
      obtain ⟨m, hm⟩ := List.getElem?_of_mem q
      have hlt : m < ms1.length := by
        have := (List.getElem?_eq_some_iff.mp hm).1
        rw [List.length_take] at this
        omega
      rw [List.getElem?_take_of_lt hlt] at hm
      obtain ⟨h1, e1⟩ := List.getElem?_eq_some_iff.mp h
      obtain ⟨h2, e2⟩ := List.getElem?_eq_some_iff.mp hm
      have := (List.getElem_inj s.nd).mp (e1.trans e2.symm)
      omega
    have r1 := RpL.mono (ms := ms'.take ms1.length) (ms' := ms'.take ms1.length) ⟨[], by simp⟩ er (.inr rfl) rfl rfl _ _ rr
    have e3 : era (ms'.take ms1.length) H' a = some (.lst us) := by rw [era_out nin]; exact e1
    rw [e2] at s1 r1 e3
    exact p _ ms1 H' f2 s1 (.lst e3 r1)
  · exact p.elim
theorem lc_of {W : Wd} {Wx : WX} {fin : Nat → Sto → R D} {fi : F (List D)} {is vs : List Nat} {g : GF} {t : F Bool} {fe : EF} {σ : St} {H : Hp} {Q : VK} (hfin : Fin W fin) (hv : ∀ i ∈ is, i ∈ vs) (h : tX W Wx (relD W) (compG fin vs fi g t fe) σ H Q) :
    tLc (tI W Wx fi) (tG W is g) (tX W (fun _ _ _ _ => False) relB t) (tX W (fun _ _ _ _ => False) (relD W) fe) vs σ H Q := by
  obtain ⟨ms, S, ρ, ev, st, p⟩ := h
  refine ⟨ms, S, ρ, ev, st, ?_⟩
  unfold compG at p
  cases hf : fi ρ S with
  | bad => rw [hf] at p; exact p
  | exc c ks ds S' => rw [hf] at p; exact p
  | ok ds S1 =>
    rw [hf, R.bind_ok] at p
    intro J ms1 H1 f1 s1 isI D hD
    have p1 := Post.fut p f1
    have s2 : StOk W (ms1 ++ [D]) (S1 ++ [.lst []]) (upd H1 D (.lst [])) := s1.ownL hD .nil
    have hn : S1.length = ms1.length := s1.len.symm
    rw [hn] at p1
    refine ⟨fun i m H' => m = ds.length - i ∧ i ≤ ds.length ∧ ∃ ms' S', Fut (ms1 ++ [D]) (upd H1 D (.lst [])) ms' H' ∧ StOk W ms' S' H' ∧
        Post W (relD W) ms1 H1 ((compL ms1.length g t fe (wipeD ρ vs) (ds.drop i) S').bindN fun _ S2 => fin ms1.length S2) Q (fun c d H' => Wx c d σ H'),
      ⟨ds.length, by simp, Nat.zero_le _, ms1 ++ [D], S1 ++ [.lst []], Fut.refl _ _, s2, by simpa using p1⟩, ?_⟩
    rintro i m H' ⟨rfl, hi, ms', S', f', s', p'⟩
    have atD : ms'[ms1.length]? = some D := by
      obtain ⟨l, rfl⟩ := f'.ext
      refine pre_get ?_
      rw [List.getElem?_append_right (Nat.le_refl _), Nat.sub_self]
      rfl
    have fI : Fut ms1 H1 ms' H' := (Fut.own hD).trans f'
    by_cases hlt : i < ds.length
    · refine .inr ⟨(isI.step ms' H' S' i fI s' hlt).1, fun H' => ∃ ms' S', Fut (ms1 ++ [D]) (upd H1 D (.lst [])) ms' H' ∧ StOk W ms' S' H' ∧
          Post W (relD W) ms1 H1 ((compL ms1.length g t fe (wipeD ρ vs) (ds.drop (i + 1)) S').bindN fun _ S2 => fin ms1.length S2) Q (fun c d H' => Wx c d σ H'),
        fun H2 ⟨ms2, S2, q⟩ => ⟨ds.length - (i + 1), by omega, rfl, hlt, ms2, S2, q⟩, fun x H2 y => ?_⟩
      obtain ⟨f2, s2', r2⟩ := (isI.step ms' H' S' i fI s' hlt).2 x H2 y
      have r3 := r2 ds[i] (List.getElem?_eq_getElem hlt)
      rw [List.drop_eq_getElem_cons hlt] at p'
      unfold compL at p'
      have ev2 : Ev W (wipeD ρ vs) (L2.wipe σ vs) ms' H2 := (ev.fut (f1.trans (fI.trans f2))).wipe vs
      cases hgd : g ds[i] (wipeD ρ vs) S' with
      | none => rw [hgd] at p'; exact p'.elim
      | some ρ1 =>
        rw [hgd] at p'
        refine ⟨ms', S', wipeD ρ vs, ds[i], r3, ev2, s2', ρ1, hgd, fun σ3 ev3 sets => ⟨?_, ms', S', ρ1, ev3, s2', ?_⟩⟩
        · have w1 := sets vs hv
          have w2 : L2.wipe (L2.wipe σ vs) vs = L2.wipe σ vs := by
            apply List.ext_getElem?
            intro j
            rw [wipe_at, wipe_at, wipe_length]
            by_cases hj : j ∈ vs
            · rw [if_pos hj, if_pos hj]
            · rw [if_neg hj, if_neg hj]
          rw [w1, w2]
        · cases ht : t ρ1 S' with
          | bad => dsimp only at p'; rw [ht] at p'; exact p'.elim
          | exc c ks es S2 => dsimp only at p'; rw [ht] at p'; exact p'.elim
          | ok b S2 =>
            dsimp only at p'
            rw [ht, R.bindN_ok] at p'
            intro b' ms3 H3 f3 s3 e3
            cases e3
            cases b with
            | false => exact iteF ⟨ms3, S2, f'.trans (f2.trans f3), s3, p'⟩
            | true =>
              refine iteT ⟨ms3, S2, ρ1, ev3.fut f3, s3, ?_⟩
              rw [if_pos rfl] at p'
              cases he : fe ρ1 S2 with
              | bad => rw [he] at p'; exact p'.elim
              | exc c ks es S3 => rw [he] at p'; exact p'.elim
              | ok z S3 =>
                rw [he, R.bindN_ok] at p'
                intro v ms4 H4 f4 s4 r4
                have fD : Fut (ms1 ++ [D]) (upd H1 D (.lst [])) ms4 H4 := f'.trans (f2.trans (f3.trans f4))
                have atD4 : ms4[ms1.length]? = some D := by
                  obtain ⟨l, rfl⟩ := fD.ext
                  refine pre_get ?_
                  rw [List.getElem?_append_right (Nat.le_refl _), Nat.sub_self]
                  rfl
                unfold pushC at p'
                cases hc : S3[ms1.length]? with
                | none => rw [hc] at p'; exact p'.elim
                | some cl =>
                  rw [hc] at p'
                  cases cl with
                  | lst xs =>
                    dsimp only at p'
                    split at p'
                    · rename_i hl
                      obtain ⟨l1, l2⟩ := Bool.and_eq_true_iff.mp hl
                      have l2 := of_decide_eq_true l2
                      obtain ⟨us, e1, rr⟩ := s4.cell _ _ _ atD4 hc
                      refine ⟨us, e1, by rw [rr.length]; exact l2, ms4, S3.set ms1.length (.lst (xs ++ [z])), fD.trans (Fut.write (List.mem_of_getElem? atD4)), s4.writeL atD4 (rr.append (.cons (Rp.take _ _ l1 r4) .nil)), ?_⟩
                      rw [R.bindN_ok] at p'
                      exact p'
                    · exact p'.elim
                  | obj _ _ _ => exact p'.elim
                  | dic _ _ => exact p'.elim
                  | dead => exact p'.elim
    · have e : i = ds.length := by omega
      subst e
      refine .inl ⟨isI.stop ms' H' S' fI s', ?_⟩
      rw [List.drop_length] at p'
      exact hfin ms1 ms' H1 H' S' D Q _ hD s' fI atD p'
section
variable {X : Cx} {Y : Yx} {elt tg iter : Expr} {ifs : List Expr} {scope : Scope} {own : List (Str × Nat)} {pos : Pos} {fi : F (List D)} {is : List Nat} {g : GF} {t : F Bool} {fe : EF}
/-- within a comprehension nothing is let out -/
abbrev yN (Y : Yx) : Yx := ⟨Y.xi, fun _ _ _ _ => False⟩
abbrev DTs (X : Cx) (Y : Yx) (es : List Expr) (f : F Bool) : Prop := PTs X es (tX (wd X Y) Y.wx relB f)
theorem dts_nil : DTs X Y [] yesB := ⟨fun pins s σ H Q I h => pts_nil.run pins s σ H Q I (by
  obtain ⟨ms, S, ρ, ev, st, p⟩ := h
  exact p true ms H (Fut.refl _ _) st rfl)⟩
theorem dts_one {c : Expr} {f : F Bool} (h : DT X Y c f) : DTs X Y [c] f := pts_one h
theorem d_comp {fin : Nat → Sto → R D} (hfin : Fin (wd X Y) fin) (hc : X.calm = true) (hN : X.N.Nodup) (hi : DI X Y tg iter fi) (ok : BlkOk X.N X.env.scope scope own) (hv : ∀ i ∈ is, i ∈ own.map (·.2))
    (hg : ∀ (s : Shared) (H : Hp) (C : Addr) (cl : List (Str × Addr)) (fp : List Addr), DG (X.blk s H scope (compEnvC scope cl C X.env) fp) (yN Y) tg is g) (ht : ∀ (s : Shared) (H : Hp) (C : Addr) (cl : List (Str × Addr)) (fp : List Addr), DTs (X.blk s H scope (compEnvC scope cl C X.env) fp) (yN Y) ifs t)
    (he : ∀ (s : Shared) (H : Hp) (C : Addr) (cl : List (Str × Addr)) (fp : List Addr), DE (X.blk s H scope (compEnvC scope cl C X.env) fp) (yN Y) elt fe) (hs : ∀ x, foldedSetIterable iter X.env x = pure x := by intro _; rfl) :
    DE X Y (.ListComp elt [⟨tg, iter, ifs, 0⟩] scope pos) (compG fin (own.map (·.2)) fi g t fe) :=
  PE.weak (pe_lc (g := tG (wd X Y) is g) (tt := tX (wd X Y) (fun _ _ _ _ => False) relB t) (te := tX (wd X Y) (fun _ _ _ _ => False) (relD (wd X Y)) fe) hc hN hi ok hg ht he hs) fun σ H Q h => lc_of (W := wd X Y) hfin hv h
/-- name = [..] -/
theorem ds_setC {fin : Nat → Sto → R D} {i : Nat} {y : Str} {py spos : Pos} (hfin : Fin (wd X Y) fin) (hc : X.calm = true) (hN : X.N.Nodup) (hy : X.N[i]? = some y) (hyl : X.env.scope.names.lookup y = some .local)
    (hsw : swapsWith (.ListComp elt [⟨tg, iter, ifs, 0⟩] scope pos) (some (.Name y py)) spos.line X.env = pure true) (hi : DI X Y tg iter fi) (ok : BlkOk X.N X.env.scope scope own) (hv : ∀ i ∈ is, i ∈ own.map (·.2))
    (hg : ∀ (s : Shared) (H : Hp) (C : Addr) (cl : List (Str × Addr)) (fp : List Addr), DG (X.blk s H scope (compEnvC scope cl C X.env) fp) (yN Y) tg is g) (ht : ∀ (s : Shared) (H : Hp) (C : Addr) (cl : List (Str × Addr)) (fp : List Addr), DTs (X.blk s H scope (compEnvC scope cl C X.env) fp) (yN Y) ifs t)
    (he : ∀ (s : Shared) (H : Hp) (C : Addr) (cl : List (Str × Addr)) (fp : List Addr), DE (X.blk s H scope (compEnvC scope cl C X.env) fp) (yN Y) elt fe) (hs : ∀ x, foldedSetIterable iter X.env x = pure x := by intro _; rfl) :
    DS X Y (.Assign [.Name y py] (.ListComp elt [⟨tg, iter, ifs, 0⟩] scope pos) spos) (setS i (compG fin (own.map (·.2)) fi g t fe)) := by
  refine PS.weak (ps_setLc (g := tG (wd X Y) is g) (tt := tX (wd X Y) (fun _ _ _ _ => False) relB t) (te := tX (wd X Y) (fun _ _ _ _ => False) (relD (wd X Y)) fe) hc hN hy hyl hsw hi ok hg ht he hs) fun D σ H h => ?_
  obtain ⟨ms, S, ρ, ev, st, p⟩ := h
  refine lc_of (W := wd X Y) (Wx := Y.wx) hfin hv ⟨ms, S, ρ, ev, st, ?_⟩
  exact PostS.split ev p fun d S1 x ms1 H1 _ f1 s1 r1 p1 => p1 _ ms1 H1 (Fut.refl _ _) s1 ((ev.fut f1).set r1 i)
end
end Zd

set_option Elab.async false
set_option linter.all false
set_option maxRecDepth 100000
set_option maxHeartbeats 4000000
set_option autoImplicit false
/-! Zd, the plain side: how combinators reduce. -/
namespace Zd
open PySem PySem.Spec L2
open PyProof.Rows hiding St

theorem subL_map (h : Nat → D) : ∀ ds, subL h ds = ds.map (sub h)
  | [] => rfl
  | d :: ds => by unfold subL; rw [subL_map h ds]; rfl
section
variable {n0 : Nat} {S : Sto} {k : Nat}
theorem fz_non : fz n0 S k .non = .non := by cases k <;> rfl
theorem fz_bl {b : Bool} : fz n0 S k (.bl b) = .bl b := by cases k <;> rfl
theorem fz_int {i : Int} : fz n0 S k (.int i) = .int i := by cases k <;> rfl
theorem fz_str {z : Str} : fz n0 S k (.str z) = .str z := by cases k <;> rfl
theorem fz_tup {ds : List D} : fz n0 S k (.tup ds) = .tup (ds.map (fz n0 S k)) := by cases k <;> (show D.tup (subL _ ds) = _; rw [subL_map]; rfl)
theorem fz_lst {ds : List D} : fz n0 S k (.lst ds) = .lst (ds.map (fz n0 S k)) := by cases k <;> (show D.lst (subL _ ds) = _; rw [subL_map]; rfl)
theorem fz_rol {ds : List D} : fz n0 S k (.rol ds) = .rol (ds.map (fz n0 S k)) := by cases k <;> (show D.rol (subL _ ds) = _; rw [subL_map]; rfl)
theorem fz_obj {c : Str} {ks : List Str} {ds : List D} : fz n0 S k (.obj c ks ds) = .obj c ks (ds.map (fz n0 S k)) := by cases k <;> (show D.obj c ks (subL _ ds) = _; rw [subL_map]; rfl)
theorem fz_dic {ks : List Key} {ds : List D} : fz n0 S k (.dic ks ds) = .dic ks (ds.map (fz n0 S k)) := by cases k <;> (show D.dic ks (subL _ ds) = _; rw [subL_map]; rfl)
theorem fz_cell_old {n : Nat} (h : n < n0) : fz n0 S k (.cell n) = .cell n := by cases k <;> exact if_pos h
theorem fz_cell_new {n : Nat} {xs : List D} (h : n0 ≤ n) (e : S[n]? = some (.lst xs)) : fz n0 S (k + 1) (.cell n) = .lst (xs.map (fz n0 S k)) := by
  show (if n < n0 then D.cell n else _) = _
  rw [if_neg (by omega), e]
theorem fz_ints {α : Type} {f : α → Int} (l : List α) : (l.map fun a => D.int (f a)).map (fz n0 S k) = l.map fun a => D.int (f a) := by
  rw [List.map_map]; exact List.map_congr_left fun a _ => fz_int
theorem fz_strs {α : Type} {f : α → Str} (l : List α) : (l.map fun a => D.str (f a)).map (fz n0 S k) = l.map fun a => D.str (f a) := by
  rw [List.map_map]; exact List.map_congr_left fun a _ => fz_str
theorem fz_mapint (l : List Int) : (l.map D.int).map (fz n0 S k) = l.map D.int := fz_ints (f := id) l
theorem fz_mapstr (l : List Str) : (l.map D.str).map (fz n0 S k) = l.map D.str := fz_strs (f := id) l
end
theorem lowL_all (n : Nat) : ∀ ds : List D, lowL n ds = ds.all (low n)
  | [] => rfl
  | d :: ds => by unfold lowL; rw [lowL_all n ds]; rfl
theorem lowL_ints (n : Nat) (l : List Int) : lowL n (l.map D.int) = true := by
  rw [lowL_all, List.all_map]; exact List.all_eq_true.mpr fun _ _ => rfl
theorem intsOf_ints (l : List Int) : intsOf (l.map D.int) = some l := by
  induction l with
  | nil => rfl
  | cons a l ih => show (intsOf (l.map D.int)).map _ = _; rw [ih]; rfl
theorem strsOf_strs (l : List Str) : strsOf (l.map D.str) = some l := by
  induction l with
  | nil => rfl
  | cons a l ih => show (strsOf (l.map D.str)).map _ = _; rw [ih]; rfl
theorem toPDs_ints (S : Sto) (l : List Int) : toPDs S (l.map D.int) = some (l.map PyData.int) := by
  induction l with
  | nil => rfl
  | cons a l ih => show (toPD S (D.int a)).bind _ = _; rw [ih]; rfl

/-! ### walks that end well -/
/-- a for whose turns all go on: the state turns by a function -/
theorem forL_fold {α : Type} (P : α → Nv → Sto → Prop) {g : GF} {body : SF} {ds : List D} (next : α → D → α)
    (step : ∀ a d ρ S, d ∈ ds → P a ρ S → ∃ ρ1 ρ2 S2, g d ρ S = some ρ1 ∧ (body ρ1 S = .nx ρ2 S2 ∨ body ρ1 S = .ct ρ2 S2) ∧ P (next a d) ρ2 S2) :
    ∀ (a : α) (ρ : Nv) (S : Sto), P a ρ S → ∃ ρ2 S2, forL g body ds ρ S = .nx ρ2 S2 ∧ P (ds.foldl next a) ρ2 S2 := by
  induction ds with
  | nil => exact fun a ρ S h => ⟨ρ, S, rfl, h⟩
  | cons d ds ih =>
    intro a ρ S h
    obtain ⟨ρ1, ρ2, S2, e1, e2, h2⟩ := step a d ρ S List.mem_cons_self h
    obtain ⟨ρ3, S3, e3, h3⟩ := ih (fun a d ρ S hd => step a d ρ S (List.mem_cons_of_mem _ hd)) (next a d) ρ2 S2 h2
    refine ⟨ρ3, S3, ?_, h3⟩
    unfold forL
    rw [e1]
    rcases e2 with e2 | e2
    · show (body ρ1 S).turn _ = _; rw [e2]; exact e3
    · show (body ρ1 S).turn _ = _; rw [e2]; exact e3
/-- an invariant by the turn -/
theorem forL_inv {g : GF} {body : SF} {ds : List D} (P : Nat → Nv → Sto → Prop)
    (step : ∀ i d ρ S, ds[i]? = some d → P i ρ S → ∃ ρ1 ρ2 S2, g d ρ S = some ρ1 ∧ (body ρ1 S = .nx ρ2 S2 ∨ body ρ1 S = .ct ρ2 S2) ∧ P (i + 1) ρ2 S2) (ρ : Nv) (S : Sto) (h : P 0 ρ S) :
    ∃ ρ2 S2, forL g body ds ρ S = .nx ρ2 S2 ∧ P ds.length ρ2 S2 := by
  induction ds generalizing P ρ S with
  | nil => exact ⟨ρ, S, rfl, h⟩
  | cons d ds ih =>
    obtain ⟨ρ1, ρ2, S2, e1, e2, h2⟩ := step 0 d ρ S rfl h
    obtain ⟨ρ3, S3, e3, h3⟩ := ih (fun i => P (i + 1)) (fun i d ρ S hd h => step (i + 1) d ρ S (by simpa using hd) h) ρ2 S2 h2
    refine ⟨ρ3, S3, ?_, by simpa using h3⟩
    unfold forL
    rw [e1]
    rcases e2 with e2 | e2
    · show (body ρ1 S).turn _ = _; rw [e2]; exact e3
    · show (body ρ1 S).turn _ = _; rw [e2]; exact e3
/-- .. that may be left by a return: either all turns, or the first that returns -/
theorem forL_ret {g : GF} {body : SF} {ds : List D} (P : Nat → Nv → Sto → Prop) (Rt : D → Sto → Prop)
    (step : ∀ i d ρ S, ds[i]? = some d → P i ρ S → ∃ ρ1, g d ρ S = some ρ1 ∧ ((∃ ρ2 S2, (body ρ1 S = .nx ρ2 S2 ∨ body ρ1 S = .ct ρ2 S2) ∧ P (i + 1) ρ2 S2) ∨ ∃ x S2, body ρ1 S = .rt x S2 ∧ Rt x S2)) (ρ : Nv) (S : Sto) (h : P 0 ρ S) :
    (∃ ρ2 S2, forL g body ds ρ S = .nx ρ2 S2 ∧ P ds.length ρ2 S2) ∨ ∃ x S2, forL g body ds ρ S = .rt x S2 ∧ Rt x S2 := by
  induction ds generalizing P ρ S with
  | nil => exact .inl ⟨ρ, S, rfl, h⟩
  | cons d ds ih =>
    obtain ⟨ρ1, e1, h1⟩ := step 0 d ρ S rfl h
    rcases h1 with ⟨ρ2, S2, e2, h2⟩ | ⟨x, S2, e2, h2⟩
    · have e4 : forL g body (d :: ds) ρ S = forL g body ds ρ2 S2 := by
        rw [forL]
        dsimp only
        rw [e1]
        rcases e2 with e2 | e2
        · show (body ρ1 S).turn _ = _; rw [e2]; rfl
        · show (body ρ1 S).turn _ = _; rw [e2]; rfl
      rw [e4]
      rcases ih (fun i => P (i + 1)) (fun i d ρ S hd h => step (i + 1) d ρ S (by simpa using hd) h) ρ2 S2 h2 with ⟨ρ3, S3, e3, h3⟩ | q
      · exact .inl ⟨ρ3, S3, e3, by simpa using h3⟩
      · exact .inr q
    · refine .inr ⟨x, S2, ?_, h2⟩
      rw [forL]
      dsimp only
      rw [e1]
      show (body ρ1 S).turn _ = _
      rw [e2]; rfl

/-! ### comprehensions whose elements are told by a function, the store unmoved -/
/-- within, the list that is built stands last -/
theorem compL_map {n : Nat} {g : GF} {t : F Bool} {fe : EF} {ρ : Nv} {S : Sto} {p : D → Bool} {f : D → D} :
    ∀ {ds acc : List D}, n = S.length → NLe (acc.length + ds.length) sizeLine →
    (∀ d ∈ ds, ∀ acc : List D, ∃ ρ1, g d ρ (S ++ [.lst acc]) = some ρ1 ∧ t ρ1 (S ++ [.lst acc]) = .ok (p d) (S ++ [.lst acc]) ∧ (p d = true → fe ρ1 (S ++ [.lst acc]) = .ok (f d) (S ++ [.lst acc]) ∧ low n (f d) = true)) →
    compL n g t fe ρ ds (S ++ [.lst acc]) = .ok () (S ++ [.lst (acc ++ (ds.filter p).map f)]) := by
  intro ds
  induction ds with
  | nil => intro acc _ _ _; simp [compL]
  | cons d ds ih =>
    intro acc hn hl h
    obtain ⟨ρ1, e1, e2, e3⟩ := h d List.mem_cons_self acc
    have hs : ((S ++ [Cl.lst acc] : Sto)[n]? : Option Cl) = some (.lst acc) := by subst hn; simp
    unfold compL
    rw [e1]
    dsimp only
    rw [e2, R.bindN_ok]
    rw [List.length_cons] at hl
    have hl : acc.length + (ds.length + 1) ≤ sizeLine := hl
    cases hp : p d with
    | false =>
      rw [if_neg (by simp), ih hn (show acc.length + ds.length ≤ sizeLine by omega) (fun d hd => h d (List.mem_cons_of_mem _ hd)), List.filter_cons_of_neg (by simp [hp])]
    | true =>
      obtain ⟨e4, e5⟩ := e3 hp
      rw [if_pos rfl, e4, R.bindN_ok]
      unfold pushC
      rw [hs]
      dsimp only
      rw [e5, decide_eq_true (show NLe (acc.length + 1) sizeLine from (show acc.length + 1 ≤ sizeLine by omega)), if_pos (by rfl), R.bindN_ok]
      have hset : (S ++ [Cl.lst acc] : Sto).set n (.lst (acc ++ [f d])) = S ++ [.lst (acc ++ [f d])] := by
        subst hn
        rw [List.set_append_right _ _ (Nat.le_refl _), Nat.sub_self]
        rfl
      rw [hset, ih hn (show (acc ++ [f d]).length + ds.length ≤ sizeLine by rw [List.length_append, List.length_singleton]; omega) (fun d hd => h d (List.mem_cons_of_mem _ hd)), List.filter_cons_of_pos hp, List.map_cons, List.append_assoc]
      rfl
theorem compF_map {vs : List Nat} {fi : F (List D)} {g : GF} {t : F Bool} {fe : EF} {ρ : Nv} {S S1 : Sto} {ds : List D} (p : D → Bool) (f : D → D) (hi : fi ρ S = .ok ds S1) (hl : NLe ds.length sizeLine)
    (h : ∀ d ∈ ds, ∀ acc : List D, ∃ ρ1, g d (wipeD ρ vs) (S1 ++ [.lst acc]) = some ρ1 ∧ t ρ1 (S1 ++ [.lst acc]) = .ok (p d) (S1 ++ [.lst acc]) ∧ (p d = true → fe ρ1 (S1 ++ [.lst acc]) = .ok (f d) (S1 ++ [.lst acc]) ∧ low S1.length (f d) = true)) :
    compG finF vs fi g t fe ρ S = .ok (.lst ((ds.filter p).map f)) S1 := by
  unfold compG
  rw [hi, R.bind_ok, compL_map (acc := []) rfl (by simpa using hl) h, R.bindN_ok]
  unfold finF
  simp
theorem compF_all {vs : List Nat} {fi : F (List D)} {g : GF} {fe : EF} {ρ : Nv} {S S1 : Sto} {ds : List D} (f : D → D) (hi : fi ρ S = .ok ds S1) (hl : NLe ds.length sizeLine)
    (h : ∀ d ∈ ds, ∀ acc : List D, ∃ ρ1, g d (wipeD ρ vs) (S1 ++ [.lst acc]) = some ρ1 ∧ fe ρ1 (S1 ++ [.lst acc]) = .ok (f d) (S1 ++ [.lst acc]) ∧ low S1.length (f d) = true) :
    compG finF vs fi g yesB fe ρ S = .ok (.lst (ds.map f)) S1 := by
  have := compF_map (t := yesB) (fun _ => true) f hi hl (fun d hd acc => by
    obtain ⟨ρ1, e1, e2, e3⟩ := h d hd acc
    exact ⟨ρ1, e1, rfl, fun _ => ⟨e2, e3⟩⟩)
  rw [this]
  congr 2
  rw [List.filter_eq_self.mpr (fun _ _ => rfl)]

/-! ### the operators on data that is written out -/
section
variable {i j : Int} {a b : Str} {S : Sto} {x y : Bool} {n : Nat} {ds es : List D} {d e : D}
theorem addD_ii : addD (.int i) (.int j) S = .ok (.int (i + j)) S := rfl
theorem addD_ss : addD (.str a) (.str b) S = if NLe (a.length + b.length) sizeLine then .ok (.str (a ++ b)) S else .bad := rfl
theorem addD_ll : addD (.lst ds) (.lst es) S = if NLe (ds.length + es.length) sizeLine then .ok (.lst (ds ++ es)) S else .bad := rfl
theorem subD_ii : subD (.int i) (.int j) S = .ok (.int (i - j)) S := rfl
theorem mulD_ii : mulD (.int i) (.int j) S = if Bd ((-(2 ^ 64) < i ∧ i < 2 ^ 64) ∨ (-(2 ^ 64) < j ∧ j < 2 ^ 64)) then .ok (.int (i * j)) S else .bad := rfl
theorem mulD_li : mulD (.lst ds) (.int j) S = if Bd (-(2 ^ 63) ≤ j ∧ j < 2 ^ 63 ∧ ds.length * j.toNat ≤ sizeLine) then .ok (.lst (List.replicate j.toNat ds).flatten) S else .bad := rfl
theorem mulD_si : mulD (.str a) (.int j) S = if Bd (0 ≤ j ∧ j ≤ 1000000 ∧ a.length * j.toNat ≤ 1000000) then .ok (.str (repS a j.toNat)) S else .bad := rfl
theorem fdivD_ii : fdivD (.int i) (.int j) S = if Bd (0 < j ∧ j < 2 ^ 1000) then .ok (.int (i / j)) S else .bad := rfl
theorem modD_ii : modD (.int i) (.int j) S = if Bd (0 < j) then .ok (.int (i % j)) S else .bad := rfl
theorem powD_10_18 : powD (.int 10) (.int 18) S = .ok (.int 1000000000000000000) S := by
  unfold powD
  dsimp only
  rw [if_pos (show Bd (0 ≤ (18:Int) ∧ (18:Int) ≤ 1000000 ∧ Int.natAbs 10 < 2 ^ 64) from ⟨by decide, by decide, by decide⟩)]
  rfl
theorem ltD_ii : ltD (.int i) (.int j) S = .ok (.bl (decide (i < j))) S := rfl
theorem leD_ii : leD (.int i) (.int j) S = .ok (.bl (decide (i ≤ j))) S := rfl
theorem gtD_ii : gtD (.int i) (.int j) S = .ok (.bl (decide (j < i))) S := rfl
theorem geD_ii : geD (.int i) (.int j) S = .ok (.bl (decide (j ≤ i))) S := rfl
theorem gtD_ss : gtD (.str a) (.str b) S = .ok (.bl (decide (b.cps.toList < a.cps.toList))) S := rfl
theorem ltD_ss : ltD (.str a) (.str b) S = .ok (.bl (decide (a.cps.toList < b.cps.toList))) S := rfl
theorem eqD_ii : eqD (.int i) (.int j) S = .ok (.bl (decide (i = j))) S := rfl
theorem eqD_ss : eqD (.str a) (.str b) S = .ok (.bl (decide (a = b))) S := rfl
theorem eqD_bb : eqD (.bl x) (.bl y) S = .ok (.bl (decide (x = y))) S := rfl
theorem neD_ii : neD (.int i) (.int j) S = .ok (.bl (!decide (i = j))) S := rfl
theorem neD_ss : neD (.str a) (.str b) S = .ok (.bl (!decide (a = b))) S := rfl
theorem isBD_bb : isBD (.bl x) (.bl y) S = .ok (.bl (decide (x = y))) S := rfl
theorem isND_non : isND .non .non S = .ok (.bl true) S := rfl
theorem isND_int : isND (.int i) .non S = .ok (.bl false) S := rfl
theorem isND_str : isND (.str a) .non S = .ok (.bl false) S := rfl
theorem notND_non : notND .non .non S = .ok (.bl false) S := rfl
theorem notND_int : notND (.int i) .non S = .ok (.bl true) S := rfl
theorem notND_str : notND (.str a) .non S = .ok (.bl true) S := rfl
theorem lenD_s : lenD [.str a] S = if NLe a.length sizeLine then .ok (.int a.length) S else .bad := rfl
theorem lenD_l : lenD [.lst ds] S = .ok (.int ds.length) S := rfl
theorem lenD_r : lenD [.rol ds] S = .ok (.int ds.length) S := rfl
theorem lenD_t : lenD [.tup ds] S = .ok (.int ds.length) S := rfl
theorem min2D_ii : min2D [.int i, .int j] S = .ok (.int (if j < i then j else i)) S := rfl
theorem max2D_ii : max2D [.int i, .int j] S = .ok (.int (if j > i then j else i)) S := rfl
theorem intD_i : intD [.int i] S = .ok (.int i) S := rfl
theorem intD_b : intD [.bl x] S = .ok (.int (if x then 1 else 0)) S := rfl
theorem strD_i : strD [.int i] S = if NLe (i.natAbs.log2 + 1) 1920 then .ok (.str (toString i)) S else .bad := rfl
theorem sumD_l : sumD [.lst ds] S = match intsOf ds with | some ns => .ok (.int ns.sum) S | none => .bad := rfl
theorem sumD_t : sumD [.tup ds] S = match intsOf ds with | some ns => .ok (.int ns.sum) S | none => .bad := rfl
theorem sumD_c : sumD [.cell n] S = match S[n]? with | some (.lst ds) => (match intsOf ds with | some ns => .ok (.int ns.sum) S | none => .bad) | _ => .bad := by
  show (match ((match S[n]? with | some (.lst ds) => some ds | _ => none).bind intsOf) with | some ns => R.ok (D.int ns.sum) S | none => .bad) = _
  cases S[n]? with
  | none => rfl
  | some c => cases c <;> rfl
theorem maxD_c : maxD [.cell n] S = match S[n]? with | some (.lst ds) => (match intsOf ds with | some ns => if ns = [] then .bad else .ok (.int (maxI ns)) S | none => .bad) | _ => .bad := by
  show (match ((match S[n]? with | some (.lst ds) => some ds | _ => none).bind intsOf) with | some ns => (if ns = [] then R.bad else R.ok (D.int (maxI ns)) S) | none => .bad) = _
  cases S[n]? with
  | none => rfl
  | some c => cases c <;> rfl
theorem tupleD_l : tupleD [.lst ds] S = .ok (.tup ds) S := rfl
theorem tupleD_t : tupleD [.tup ds] S = .ok (.tup ds) S := rfl
theorem listD_l : listD [.lst ds] S = .ok (.lst ds) S := rfl
theorem listD_t : listD [.tup ds] S = .ok (.lst ds) S := rfl
theorem ixD_l : ixD (.lst ds) (.int i) S = match atI ds i with | some x => .ok x S | none => .bad := rfl
theorem ixD_r : ixD (.rol ds) (.int i) S = match atI ds i with | some x => .ok x S | none => .bad := rfl
theorem ixD_t : ixD (.tup ds) (.int i) S = match atI ds i with | some x => .ok x S | none => .bad := rfl
theorem ixD_s : ixD (.str a) (.int i) S = if NLe a.length sizeLine then match atI a.cps.toList i with | some c => .ok (.str ⟨#[c]⟩) S | none => .bad else .bad := rfl
theorem ixD_c : ixD (.cell n) (.int i) S = match S[n]? with | some (.lst ds) => (match atI ds i with | some x => .ok x S | none => .bad) | _ => .bad := by
  show (match (match S[n]? with | some (.lst ds) => some ds | _ => none) with | some ds => (match atI ds i with | some x => R.ok x S | none => .bad) | none => .bad) = _
  cases S[n]? with
  | none => rfl
  | some c => cases c <;> rfl
theorem tupleD_c : tupleD [.cell n] S = match S[n]? with | some (.lst ds) => .ok (.tup ds) S | _ => .bad := by
  show (match (match S[n]? with | some (.lst ds) => some ds | _ => none) with | some xs => R.ok (D.tup xs) S | none => .bad) = _
  cases S[n]? with
  | none => rfl
  | some c => cases c <;> rfl
theorem lenD_c : lenD [.cell n] S = match S[n]? with | some (.lst ds) => .ok (.int ds.length) S | _ => .bad := by
  show (match (match S[n]? with | some (.lst ds) => some ds | _ => none) with | some xs => R.ok (D.int xs.length) S | none => .bad) = _
  cases S[n]? with
  | none => rfl
  | some c => cases c <;> rfl
theorem slD_s {lo hi : Option Int} : slD (.str a) lo hi S = if NLe a.length sizeLine then .ok (.str (cutS a lo hi)) S else .bad := rfl
theorem slD_l {lo hi : Option Int} : slD (.lst ds) lo hi S = .ok (.lst (cutD ds lo hi)) S := rfl
theorem slD_r {lo hi : Option Int} : slD (.rol ds) lo hi S = .ok (.lst (cutD ds lo hi)) S := rfl
theorem slD_t {lo hi : Option Int} : slD (.tup ds) lo hi S = .ok (.tup (cutD ds lo hi)) S := rfl
theorem addD_tt : addD (.tup ds) (.tup es) S = if NLe (ds.length + es.length) sizeLine then .ok (.tup (ds ++ es)) S else .bad := rfl
theorem putIx_c {v : D} : putIx (.cell n) (.int i) v S = match S[n]? with
    | some (.lst xs) => (match ixN xs.length i with
      | some j => if low n v then some (S.set n (.lst (xs.set j v))) else none
      | none => none)
    | _ => none := rfl
theorem appendD_c {v : D} : appendD (.cell n) [v] S = match S[n]? with
    | some (.lst xs) => if low n v && decide (NLe (xs.length + 1) sizeLine) then .ok .non (S.set n (.lst (xs ++ [v]))) else .bad
    | _ => .bad := rfl
theorem extendD_cl : extendD (.cell n) [.lst ds] S = match S[n]? with
    | some (.lst xs) => if lowL n ds && decide (NLe (xs.length + ds.length) sizeLine) then .ok .non (S.set n (.lst (xs ++ ds))) else .bad
    | _ => .bad := by
  unfold extendD asT
  dsimp only
  cases S[n]? with
  | none => rfl
  | some c => cases c <;> rfl
theorem isTy_c {T : String} : isTy T (.cell n) S = (T == "list" && match S[n]? with | some (.lst _) => true | _ => false) := by
  show (T == "list" && (match S[n]? with | some (.lst ds) => some ds | _ => none).isSome) = _
  cases S[n]? with
  | none => rfl
  | some c => cases c <;> rfl
theorem isTy_s {T : String} : isTy T (.str a) S = (T == "str") := rfl
theorem isTy_l {T : String} : isTy T (.lst ds) S = (T == "list" && true) := rfl
theorem atI_0 : atI (d :: ds) 0 = some d := atI_nat (j := 0) rfl
theorem atI_1 {d1 : D} : atI (d :: d1 :: ds) 1 = some d1 := atI_nat (j := 1) rfl
theorem atI_2 {d1 d2 : D} : atI (d :: d1 :: d2 :: ds) 2 = some d2 := atI_nat (j := 2) rfl
theorem atI_3 {d1 d2 d3 : D} : atI (d :: d1 :: d2 :: d3 :: ds) 3 = some d3 := atI_nat (j := 3) rfl
theorem atI_4 {d1 d2 d3 d4 : D} : atI (d :: d1 :: d2 :: d3 :: d4 :: ds) 4 = some d4 := atI_nat (j := 4) rfl
theorem low_int : low n (.int i) = true := rfl
theorem low_str : low n (.str a) = true := rfl
theorem low_bl : low n (.bl x) = true := rfl
theorem low_non : low n .non = true := rfl
theorem anyI_l : anyI (.lst ds) S = .ok ds S := rfl
theorem anyI_r : anyI (.rol ds) S = .ok ds S := rfl
theorem anyI_t : anyI (.tup ds) S = .ok ds S := rfl
theorem anyI_s : anyI (.str a) S = .ok (a.cps.toList.map fun c => D.str ⟨#[c]⟩) S := rfl
theorem rng1I_i : rng1I [.int j] S = if Bd (-(2 ^ 62) ≤ j ∧ j < 2 ^ 62) then .ok ((List.range j.toNat).map fun k => D.int (0 + (k : Nat))) S else .bad := rfl
theorem rng2I_ii : rng2I [.int i, .int j] S = if Bd (-(2 ^ 62) ≤ i ∧ i < 2 ^ 62 ∧ -(2 ^ 62) ≤ j ∧ j < 2 ^ 62) then .ok ((List.range (j - i).toNat).map fun k => D.int (i + (k : Nat))) S else .bad := rfl
theorem set_concat {α : Type} (S : List α) (c d : α) : (S ++ [c]).set S.length d = S ++ [d] := by
  rw [List.set_append_right _ _ (Nat.le_refl _), Nat.sub_self]; rfl
theorem get_concat {α : Type} (S : List α) (c : α) : (S ++ [c])[S.length]? = some c := by simp
theorem take_concat {α : Type} (S : List α) (c : α) : (S ++ [c]).take S.length = S := List.take_left' rfl
theorem len_concat {α : Type} (S : List α) (c : α) : (S ++ [c]).length = S.length + 1 := by simp
theorem notInD_cs {c : Nat} {z : Str} : notInD (.str ⟨#[c]⟩) (.str z) S = .ok (.bl (!decide (c ∈ z.cps.toList))) S := rfl
theorem inD_cs {c : Nat} {z : Str} : inD (.str ⟨#[c]⟩) (.str z) S = .ok (.bl (decide (c ∈ z.cps.toList))) S := rfl
theorem sindexD_s : sindexD (.str a) [.str b] S = match Txt.index0 a b with | some k => .ok (.int (k : Nat)) S | none => .bad := rfl
theorem intD_s : intD [.str a] S = match PySem.intText? a with | some n => if NLe a.length 640 then .ok (.int n) S else .bad | none => .bad := rfl
theorem tyN_s : tyN (.str a) S = some "str" := rfl
theorem tyN_i : tyN (.int i) S = some "int" := rfl
theorem tyN_b : tyN (.bl x) S = some "bool" := rfl
theorem tyN_n : tyN .non S = some "NoneType" := rfl
theorem tyN_t : tyN (.tup ds) S = some "tuple" := rfl
theorem tyN_l : tyN (.lst ds) S = some "list" := rfl
theorem tyIs_t : tyIs "str" "str" = some true ∧ tyIs "int" "str" = some false ∧ tyIs "bool" "str" = some false ∧ tyIs "NoneType" "str" = some false ∧ tyIs "tuple" "str" = some false ∧ tyIs "list" "str" = some false ∧
    tyIs "str" "int" = some false ∧ tyIs "int" "int" = some true ∧ tyIs "bool" "int" = some true ∧ tyIs "NoneType" "int" = some false ∧ tyIs "tuple" "int" = some false ∧ tyIs "list" "int" = some false ∧
    tyIs "str" "bool" = some false ∧ tyIs "int" "bool" = some false ∧ tyIs "bool" "bool" = some true ∧ tyIs "NoneType" "bool" = some false ∧ tyIs "tuple" "bool" = some false ∧ tyIs "list" "bool" = some false ∧
    tyIs "str" "tuple" = some false ∧ tyIs "int" "tuple" = some false ∧ tyIs "bool" "tuple" = some false ∧ tyIs "NoneType" "tuple" = some false ∧ tyIs "tuple" "tuple" = some true ∧ tyIs "list" "tuple" = some false ∧
    tyIs "str" "list" = some false ∧ tyIs "int" "list" = some false ∧ tyIs "bool" "list" = some false ∧ tyIs "NoneType" "list" = some false ∧ tyIs "tuple" "list" = some false ∧ tyIs "list" "list" = some true := by decide
theorem zipI_tt : zipI [.tup ds, .tup es] S = .ok (List.zipWith (fun x y => D.tup [x, y]) ds es) S := rfl
theorem ixN5 : ixN 5 0 = some 0 ∧ ixN 5 1 = some 1 ∧ ixN 5 2 = some 2 ∧ ixN 5 3 = some 3 ∧ ixN 5 4 = some 4 := by decide
theorem ixN_nat {m k : Nat} (h : k < m) : ixN m (k : Int) = some k := by unfold ixN; rw [if_pos (by omega), if_pos (by omega)]; simp
theorem atI_nat' {α : Type} {xs : List α} {k : Nat} (h : k < xs.length) : atI xs (k : Int) = some xs[k] := by unfold atI; rw [ixN_nat h]; simp [h]
theorem atI_some {α : Type} {xs : List α} {i : Int} (h0 : 0 ≤ i) (h : i < xs.length) : atI xs i = some (xs[i.toNat]'(by omega)) := by
  have e : i = (i.toNat : Int) := by omega
  have := atI_nat' (xs := xs) (k := i.toNat) (by omega)
  rw [← e] at this
  exact this
end
theorem forL_nil {g : GF} {body : SF} {ρ : Nv} {S : Sto} : forL g body [] ρ S = .nx ρ S := rfl
theorem forL_cons {g : GF} {body : SF} {d : D} {ds : List D} {ρ ρ1 : Nv} {S : Sto} (e : g d ρ S = some ρ1) : forL g body (d :: ds) ρ S = (body ρ1 S).turn (forL g body ds) := by
  rw [forL]
  dsimp only
  rw [e]
/-! ### a list that is built in the last cell -/
section
variable {ρ : Nv} {S : Sto} {i : Nat} {acc xs : List D} {fe : EF} {x : D}
theorem own_extend (hi : ρ[i]? = some (some (.cell S.length))) (he : fe ρ (S ++ [.lst acc]) = .ok (.lst xs) (S ++ [.lst acc])) (hl : lowL S.length xs = true) (hs : NLe (acc.length + xs.length) sizeLine) :
    dropS (mthF "list" extendD (varE i) (consF fe nilF)) ρ (S ++ [.lst acc]) = .nx ρ (S ++ [.lst (acc ++ xs)]) := by
  have h1 : varE i ρ (S ++ [.lst acc]) = .ok (.cell S.length) (S ++ [.lst acc]) := by unfold varE; rw [hi]
  have h2 : (consF fe nilF) ρ (S ++ [.lst acc]) = .ok [.lst xs] (S ++ [.lst acc]) := by unfold consF; rw [he]; rfl
  have h3 : isTy "list" (.cell S.length) (S ++ [Cl.lst acc]) = true := by rw [isTy_c, get_concat]; rfl
  have h4 : extendD (.cell S.length) [.lst xs] (S ++ [Cl.lst acc]) = .ok .non (S ++ [.lst (acc ++ xs)]) := by
    rw [extendD_cl, get_concat]
    dsimp only
    rw [hl, decide_eq_true hs, if_pos (by rfl), set_concat]
  unfold dropS mthF
  rw [h1, R.bind_ok, h3, if_pos rfl, h2, R.bind_ok, h4, R.st_ok]
theorem own_append (hi : ρ[i]? = some (some (.cell S.length))) (he : fe ρ (S ++ [.lst acc]) = .ok x (S ++ [.lst acc])) (hl : low S.length x = true) (hs : NLe (acc.length + 1) sizeLine) :
    dropS (mthF "list" appendD (varE i) (consF fe nilF)) ρ (S ++ [.lst acc]) = .nx ρ (S ++ [.lst (acc ++ [x])]) := by
  have h1 : varE i ρ (S ++ [.lst acc]) = .ok (.cell S.length) (S ++ [.lst acc]) := by unfold varE; rw [hi]
  have h2 : (consF fe nilF) ρ (S ++ [.lst acc]) = .ok [x] (S ++ [.lst acc]) := by unfold consF; rw [he]; rfl
  have h3 : isTy "list" (.cell S.length) (S ++ [Cl.lst acc]) = true := by rw [isTy_c, get_concat]; rfl
  have h4 : appendD (.cell S.length) [x] (S ++ [Cl.lst acc]) = .ok .non (S ++ [.lst (acc ++ [x])]) := by
    rw [appendD_c, get_concat]
    dsimp only
    rw [hl, decide_eq_true hs, if_pos (by rfl), set_concat]
  unfold dropS mthF
  rw [h1, R.bind_ok, h3, if_pos rfl, h2, R.bind_ok, h4, R.st_ok]
end
end Zd

set_option Elab.async false
set_option linter.all false
set_option maxRecDepth 100000
set_option maxHeartbeats 4000000
set_option autoImplicit false
/-! Zd: Lean types as data: equality, freezing, lowness once for all. -/
namespace Zd
open PySem PySem.Spec L2
open PyProof.Rows hiding St
open PySem.W (Datum Tup)

class Dat (α : Type) [DecidableEq α] [Datum α] where
  d : α → D
  pd : ∀ (S : Sto) (a : α), toPD S (d a) = some (Datum.toD a)
  lo : ∀ (n : Nat) (a : α), low n (d a) = true
  fr : ∀ (n0 : Nat) (S : Sto) (k : Nat) (a : α), fz n0 S k (d a) = d a
section
variable {α β : Type} [DecidableEq α] [Datum α] [Dat α] [DecidableEq β] [Datum β] [Dat β]
instance : Dat Int where
  d := .int
  pd _ _ := rfl
  lo _ _ := rfl
  fr _ _ _ _ := fz_int
instance : Dat Bool where
  d := .bl
  pd _ _ := rfl
  lo _ _ := rfl
  fr _ _ _ _ := fz_bl
instance : Dat Str where
  d := .str
  pd _ _ := rfl
  lo _ _ := rfl
  fr _ _ _ _ := fz_str
instance : Dat Unit where
  d _ := .non
  pd _ _ := rfl
  lo _ _ := rfl
  fr _ _ _ _ := fz_non
theorem toPDs_map (S : Sto) (l : List α) : toPDs S (l.map Dat.d) = some (l.map Datum.toD) := by
  induction l with
  | nil => rfl
  | cons a l ih => show (toPD S (Dat.d a)).bind _ = _; rw [Dat.pd, ih]; rfl
theorem lowL_map (n : Nat) (l : List α) : lowL n (l.map Dat.d) = true := by
  rw [lowL_all, List.all_map]; exact List.all_eq_true.mpr fun a _ => Dat.lo n a
theorem fz_map (n0 : Nat) (S : Sto) (k : Nat) (l : List α) : (l.map Dat.d).map (fz n0 S k) = l.map Dat.d := by
  rw [List.map_map]; exact List.map_congr_left fun a _ => Dat.fr n0 S k a
instance : Dat (List α) where
  d l := .lst (l.map Dat.d)
  pd S l := by show (toPDs S _).map _ = _; rw [toPDs_map]; rfl
  lo n l := lowL_map n l
  fr n0 S k l := by rw [fz_lst, fz_map]
instance : Dat (Tup α) where
  d l := .tup (l.items.map Dat.d)
  pd S l := by show (toPDs S _).map _ = _; rw [toPDs_map]; rfl
  lo n l := lowL_map n l.items
  fr n0 S k l := by rw [fz_tup, fz_map]
instance : Dat (α × β) where
  d p := .tup [Dat.d p.1, Dat.d p.2]
  pd S p := by
    show (Option.bind (toPD S (Dat.d p.1)) fun q => ((toPD S (Dat.d p.2)).bind fun r => some [r]).map fun ps => q :: ps).map PyData.tuple = _
    rw [Dat.pd, Dat.pd]; rfl
  lo n p := by show (low n (Dat.d p.1) && (low n (Dat.d p.2) && true)) = true; rw [Dat.lo, Dat.lo]; rfl
  fr n0 S k p := by rw [fz_tup]; simp only [List.map_cons, List.map_nil, Dat.fr]
/-- a thing whose texts may be laid -/
def Lay (a : α) : Prop := (Datum.toD a).canLay0 = true
theorem lay_int (i : Int) : Lay i := rfl
theorem lay_bool (i : Bool) : Lay i := rfl
theorem lay_unit (i : Unit) : Lay i := rfl
theorem canLayAll_map {l : List α} (h : ∀ a ∈ l, Lay a) : PyData.canLayAll0 (l.map Datum.toD) = true := by
  induction l with
  | nil => rfl
  | cons a l ih => rw [List.map_cons, PyData.canLayAll0, h a List.mem_cons_self, ih fun b hb => h b (List.mem_cons_of_mem _ hb)]; rfl
theorem lay_list {l : List α} (h : ∀ a ∈ l, Lay a) : Lay l := by show PyData.canLay0 (.list _) = true; rw [PyData.canLay0]; exact canLayAll_map h
theorem lay_tup {l : Tup α} (h : ∀ a ∈ l.items, Lay a) : Lay l := by show PyData.canLay0 (.tuple _) = true; rw [PyData.canLay0]; exact canLayAll_map h
theorem lay_pair {p : α × β} (h : Lay p.1) (h2 : Lay p.2) : Lay p := by
  show PyData.canLay0 (.tuple [_, _]) = true
  rw [PyData.canLay0, PyData.canLayAll0, PyData.canLayAll0, PyData.canLayAll0, h, h2]; rfl
theorem toP_pd {S : Sto} {d : D} {p : PyData} (h : toPD S d = some p) : toP S d = some p := by
  cases d <;> first | exact h | cases h
theorem eqvF_pd {S : Sto} {d e : D} {p q : PyData} {b : Bool} (h1 : toPD S d = some p) (h2 : toPD S e = some q) (h : eqvF d e = some b) : b = PyData.eqv p q := by
  unfold eqvF at h
  split at h
  all_goals first
    | (cases h; done)
    | (cases h1; cases h2; cases h; simp only [PyData.eqv]; done)
    | (cases h1; cases h2; cases h; simp only [PyData.eqv]; first | rfl | exact (PySem.W.beq_decide _ _).symm | simp)
theorem eqvD_dat {S : Sto} {a b : α} (ha : Lay a) (hb : Lay b) (hd : Datum.depth α ≤ 64) : eqvD S (Dat.d a) (Dat.d b) = some (decide (a = b)) := by
  unfold eqvD
  split
  · rename_i c hc
    rw [eqvF_pd (Dat.pd S a) (Dat.pd S b) hc, Datum.eqv]
  · unfold eqvG
    rw [toP_pd (Dat.pd S a), toP_pd (Dat.pd S b)]
    have sa : SeqAt.shaped (Datum.toD a) = true := by
      show (PyData.canLay0 _ && decide _) = true
      rw [ha, decide_eq_true (Nat.le_trans (Datum.depth_le a) hd)]; rfl
    have sb : SeqAt.shaped (Datum.toD b) = true := by
      show (PyData.canLay0 _ && decide _) = true
      rw [hb, decide_eq_true (Nat.le_trans (Datum.depth_le b) hd)]; rfl
    dsimp only
    rw [sa, sb, Datum.eqv]; rfl
theorem eqD_dat {S : Sto} {d e : D} (a b : α) (h1 : d = Dat.d a) (h2 : e = Dat.d b) (ha : Lay a) (hb : Lay b) (hd : Datum.depth α ≤ 64) : eqD d e S = .ok (.bl (decide (a = b))) S := by
  subst h1 h2; unfold eqD; rw [eqvD_dat ha hb hd]
theorem neD_dat {S : Sto} {d e : D} (a b : α) (h1 : d = Dat.d a) (h2 : e = Dat.d b) (ha : Lay a) (hb : Lay b) (hd : Datum.depth α ≤ 64) : neD d e S = .ok (.bl (!decide (a = b))) S := by
  subst h1 h2; unfold neD; rw [eqvD_dat ha hb hd]
end
/-! rows of whole numbers -/
theorem eqD_it {S : Sto} (a b : List Int) : eqD (.tup (a.map D.int)) (.tup (b.map D.int)) S = .ok (.bl (decide (a = b))) S := by
  have := eqD_dat (S := S) (d := .tup (a.map D.int)) (e := .tup (b.map D.int)) (⟨a⟩ : Tup Int) (⟨b⟩ : Tup Int) rfl rfl (lay_tup fun i _ => lay_int i) (lay_tup fun i _ => lay_int i) (by decide)
  rw [this]
  simp
theorem eqD_il {S : Sto} (a b : List Int) : eqD (.lst (a.map D.int)) (.lst (b.map D.int)) S = .ok (.bl (decide (a = b))) S :=
  eqD_dat a b rfl rfl (lay_list fun i _ => lay_int i) (lay_list fun i _ => lay_int i) (by decide)
theorem neD_il {S : Sto} (a b : List Int) : neD (.lst (a.map D.int)) (.lst (b.map D.int)) S = .ok (.bl (!decide (a = b))) S :=
  neD_dat a b rfl rfl (lay_list fun i _ => lay_int i) (lay_list fun i _ => lay_int i) (by decide)
theorem neD_i2 {S : Sto} {a b c d : Int} : neD (.lst [.int a, .int b]) (.lst [.int c, .int d]) S = .ok (.bl (!decide ([a, b] = [c, d]))) S := neD_il [a, b] [c, d]
end Zd

set_option Elab.async false
set_option linter.all false
set_option maxRecDepth 100000
set_option maxHeartbeats 4000000
set_option autoImplicit false
/-! Zd: functions that ask repr of data: promises that hold where no repr is under way. -/
namespace Zd
open PySem PySem.Spec L2
open PyProof.Rows hiding St

/-- FnOk, asked only where no guard is up -/
structure FnG (P : Program) (w : World) (K : PySem.W.Frag) (mg : Str → Option Value) (base : Heap) (k : Nat) (f : Addr) (fd : FuncData) (ps : List Str) (sp : Sp) : Prop where
  len : ∀ vs H Q E, sp vs H Q E → vs.length = ps.length
  go : ∀ (A : Around) (outer : List Env) (s : Shared) (H : Hp) (args : Args) (us : List Value) (vs : List V) (Q : VK) (E : XK), Room k A → A.guards = some [] → Env0 P w K mg base A outer s H → BindsTo s fd args (ps.zip us) → Vals vs us → sp vs H Q E →
    codeAny (model P w) A (.call (.ref f) args) (CR (L2.CX P w) outer P w H s Q E) s
section
variable {P : Program} {w : World} {K : PySem.W.Frag} {mg : Str → Option Value} {base : Heap}
theorem FnG.of {k : Nat} {f : Addr} {fd : FuncData} {ps : List Str} {sp : Sp} (F : FnOk P w K mg base (L2.CX P w) k f fd ps sp) : FnG P w K mg base k f fd ps sp :=
  ⟨F.len, fun A outer s H args us vs Q E hr _ he hb hv hs => F.run A outer s H args us vs Q E hr he hb hv hs⟩
theorem FnG.weak {k : Nat} {f : Addr} {fd : FuncData} {ps : List Str} {sp sp' : Sp} (F : FnG P w K mg base k f fd ps sp) (h : ∀ vs H Q E, sp' vs H Q E → sp vs H Q E) : FnG P w K mg base k f fd ps sp' :=
  ⟨fun vs H Q E q => F.len vs H Q E (h vs H Q E q), fun A outer s H args us vs Q E hr hg he hb hv hs => F.go A outer s H args us vs Q E hr hg he hb hv (h vs H Q E hs)⟩
/-- a def entered, its body derived where no guard is up -/
theorem fnG_mk {x qual : Str} {st : Stmt} {f : Addr} {fd : FuncData} {N ps : List Str} {k : Nat} {sp : Sp} (F : Fun K x qual st f fd) (S : FnScope N ps (defScope st)) (len : ∀ vs H Q E, sp vs H Q E → vs.length = ps.length)
    (body : ∀ (cdv : Value) (A : Around) (outer : List Env) (s : Shared) (H : Hp) (vs : List V) (Q : VK) (E : XK), Room k (A.deeper (envOfC qual (defScope st) s.heap.objs.size f cdv)) → A.guards = some [] → sp vs H Q E →
      ∃ t, PSs (cxOf (L2.CX P w) P w K mg base N qual (defScope st) f cdv A outer s H E) (defBody st) t ∧ t { nx := fun _ H' => Q .non H', rt := Q } (start N vs) H) : FnG P w K mg base (k + 1) f fd ps sp := by
  obtain ⟨oc, od, kV, doc, pm, an, cdv, ct, osl, rfl, lk, hcd⟩ := F.ex
  constructor
  · exact len
  intro A outer s H args us vs Q E room guard env bind vals prom
  have inK : K.In s.heap := env.mod.kin.keeps fun a u h => And.left (env.bs a u h)
  have noL : s.heap.NoLimit := env.mod.nolimit.keeps fun a u h => And.left (env.bs a u h)
  have many := len vs H Q E prom
  have kinds : ∀ q ∈ ps.zip us, (defScope st).names.lookup q.1 = some .local ∨ ((defScope st).names.lookup q.1 = some .cell ∧ ((cellsFrom (s.heap.objs.size + 1) (defScope st).names []).lookup q.1).isSome = true) := by
    intro q hq
    have mem : q.1 ∈ ps := (List.of_mem_zip (show (q.1, q.2) ∈ ps.zip us from hq)).1
    exact (S.par q.1 mem).imp id fun c => ⟨c, PySem.W.cellsFrom_some _ _ _ (Or.inl c)⟩
  have codeR := PySem.W.codeRec_of inK hcd
  refine codeAny_call_function room.depth (inK _ _ lk) rfl S.co S.gen rfl codeR (bind (model P w) _ _ _ ?_)
  refine wpAny_newFunctionEnv_cells S.kind kinds ?_
  intro env' he s1 fresh
  subst he
  refine And.intro (noL.keeps fresh.toInCall.keep) (codeAny_func ?_)
  obtain ⟨t, ht, hq⟩ := body cdv A outer s H vs Q E (room.deeper _) guard prom
  have inv := inv_start (CX := L2.CX P w) (E := E) (cd := cdv) S room.hd env many vals fresh
  refine wpAny_mono (ht.run [] s1 (start N vs) H _ inv hq) ?_ (fun _ _ z => z)
  have done : ∀ {σ' : St} {H' : Hp} {v : V} {u : Value} {s' : Shared}, Inv (cxOf (L2.CX P w) P w K mg base N qual (defScope st) f cdv A outer s H E) [] σ' H' s' → RelV v u → Q v H' → CE outer P w H s Q u s' := by
    intro σ' H' v u s' J rv q
    exact ⟨v, H', J.os, J.bare, J.base, J.hok, rv, q⟩
  intro fl s' ends
  cases fl with
  | next =>
    obtain ⟨σ', H', J, q⟩ := ends
    exact done (u := Value.none) (v := V.non) J rfl q
  | ret u =>
    obtain ⟨v, σ', H', J, rv, q⟩ := ends
    exact done J rv q
  | brk => obtain ⟨_, _, _, no⟩ := ends; exact no.elim
  | cont => obtain ⟨_, _, _, no⟩ := ends; exact no.elim
/-- KD, where no guard is up -/
structure KG (P : Program) (w : World) (K : PySem.W.Frag) (mg : Str → Option Value) (base : Heap) (x : Str) (n : Nat) (Ff : DFun) (k : Nat) : Prop where
  ex : ∃ (f : Addr) (fd : FuncData) (ps : List Str), FnG P w K mg base k f fd ps (spD ⟨K, mg, none⟩ Ff n) ∧ mg x = some (.ref f) ∧ PySem.W.keepIn K (.ref f) = true ∧ Binds K fd ps []
theorem fn_okG {x qual : Str} {st : Stmt} {f : Addr} {fd : FuncData} {N ps : List Str} {k : Nat} {g : SF} {Ff : DFun} (F : Fun K x qual st f fd) (S : FnScope N ps (defScope st)) (hF : Ff = fnF N.length g ∨ Ff = fnK N.length g)
    (body : ∀ (cdv : Value) (A : Around) (outer : List Env) (s : Shared) (H : Hp) (E : XK), Room k (A.deeper (envOfC qual (defScope st) s.heap.objs.size f cdv)) →
      Takes (cxOf (L2.CX P w) P w K mg base N qual (defScope st) f cdv A outer s H E) (fun c d _ H => E c d H) →
      PassesOwn (model P w) (A.deeper (envOfC qual (defScope st) s.heap.objs.size f cdv)) (envOfC qual (defScope st) s.heap.objs.size f cdv) (cxOf (L2.CX P w) P w K mg base N qual (defScope st) f cdv A outer s H E).xe →
      (cxOf (L2.CX P w) P w K mg base N qual (defScope st) f cdv A outer s H E).A.guards = some [] →
      DSs (cxOf (L2.CX P w) P w K mg base N qual (defScope st) f cdv A outer s H E) (yE E) (defBody st) g) : FnG P w K mg base (k + 1) f fd ps (spD ⟨K, mg, none⟩ Ff ps.length) := by
  refine fnG_mk F S (fun vs H Q E h => h.1) (fun cdv A outer s H vs Q E hr hg h => ⟨_, body cdv A outer s H E hr (takes_of rfl rfl rfl rfl) (passes_of rfl) hg, ?_⟩)
  obtain ⟨_, ms, Sto, ds, r, st, p⟩ := h
  refine ⟨ms, Sto, startD N.length ds, Ev.start N r, st, ?_⟩
  rcases hF with e | e
  · subst e; exact leave_of st p
  · subst e; exact keep_of p
theorem kg_mk {x qual : Str} {st : Stmt} {f : Addr} {fd : FuncData} {N ps : List Str} {k : Nat} {g : SF} {Ff : DFun} (F : Fun K x qual st f fd) (S : FnScope N ps (defScope st)) (hF : Ff = fnF N.length g ∨ Ff = fnK N.length g)
    (hm : mg x = some (.ref f)) (hb : Binds K fd ps [])
    (body : ∀ (cdv : Value) (A : Around) (outer : List Env) (s : Shared) (H : Hp) (E : XK), Room k (A.deeper (envOfC qual (defScope st) s.heap.objs.size f cdv)) →
      Takes (cxOf (L2.CX P w) P w K mg base N qual (defScope st) f cdv A outer s H E) (fun c d _ H => E c d H) →
      PassesOwn (model P w) (A.deeper (envOfC qual (defScope st) s.heap.objs.size f cdv)) (envOfC qual (defScope st) s.heap.objs.size f cdv) (cxOf (L2.CX P w) P w K mg base N qual (defScope st) f cdv A outer s H E).xe →
      (cxOf (L2.CX P w) P w K mg base N qual (defScope st) f cdv A outer s H E).A.guards = some [] →
      DSs (cxOf (L2.CX P w) P w K mg base N qual (defScope st) f cdv A outer s H E) (yE E) (defBody st) g) : KG P w K mg base x ps.length Ff (k + 1) :=
  ⟨f, fd, ps, fn_okG F S hF body, hm, F.kp, hb⟩
end

section
variable {X : Cx} {wx : WX}
/-- f(e, ..), f asks repr -/
theorem d_callG {x : Str} {n k : Nat} {Ff : DFun} {e : Expr} {es : List Expr} {fs : F (List D)} {p pos : Pos} (h : KG X.prog X.w X.K X.mg X.base x n Ff k) (hr : Room k X.A) (gd : X.A.guards = some []) (tk : Takes X wx) (hg : Gl X x) (ha : DA X ⟨none, wx⟩ (e :: es) fs)
    (hdb : (x == ("__debug__" : Str)) = false := by decide) (he : starEach (e :: es) X.env = (false, eval e X.env) :: starEach es X.env := by rfl) (hpl : (backTo pos (starEach es X.env)).any (·.1) = false := by rfl) :
    DE X ⟨none, wx⟩ (.Call (.Name x p) (e :: es) [] pos) (callF n Ff fs) := by
  obtain ⟨f, fd, ps, F, hm, hk, hb⟩ := h.ex
  have rule : PE X (.Call (.Name x p) (e :: es) [] pos) (tCallS (spD ⟨X.K, X.mg, none⟩ Ff n) (WE wx) (tX (wd X ⟨none, wx⟩) wx (relL (wd X ⟨none, wx⟩)) fs)) := by
    constructor
    intro pins s σ H Q I q
    refine wpAny_Call_Name_kw (ld_glob I hg hm ?_ hdb)
    refine PySem.W.callWith_K (h₀ := X.base) I.ok.mod.kin hk (thn (ha.run pos pins s σ H _ I q) ?_) he hpl
    rintro us s1 ⟨vs, H1, I1, r, prom⟩
    refine And.intro I1.kIn ?_
    have bind := hb s1 us I1.kIn (by rw [List.append_nil, ← r.length]; exact F.len _ _ _ _ prom)
    rw [List.append_nil] at bind
    refine wpAny_call (codeAny_mono (F.go X.A X.stack s1 H1 ⟨us, []⟩ us vs Q _ hr gd I1.env0 bind r prom) ?_)
    intro out s2 q2
    match out with
    | .error ex => exact passAt tk σ pins H1 s1 ex s2 I1 q2
    | .ok (.ret u) => exact I1.after q2
    | .ok .next => exact q2.elim
    | .ok .brk => exact q2.elim
    | .ok .cont => exact q2.elim
  refine PE.weak rule fun σ H Q h => ?_
  obtain ⟨ms, S, ρ, ev, st, p⟩ := h
  refine ⟨ms, S, ρ, ev, st, Post.split p fun ds S1 vs ms1 H1 _ f1 s1 r1 p1 => ?_⟩
  split at p1
  · rename_i hn
    exact ⟨by rw [r1.length]; exact hn, ms1, S1, ds, r1, s1, p1⟩
  · exact p1.elim
end

/-! ### repr of data -/
mutual
theorem noDict_of : ∀ (S : Sto) (d : D) (p : PyData), toPD S d = some p → p.hasDict = false
  | S, .non, _, h => by cases h; rfl
  | S, .bl _, _, h => by cases h; rfl
  | S, .int _, _, h => by cases h; rfl
  | S, .str _, _, h => by cases h; rfl
  | S, .tup ds, _, h => by
    obtain ⟨ps, e, rfl⟩ := Option.map_eq_some_iff.mp h
    show PyData.hasDict (.tuple ps) = false
    rw [PyData.hasDict]; exact noDicts_of S ds ps e
  | S, .lst ds, _, h => by
    obtain ⟨ps, e, rfl⟩ := Option.map_eq_some_iff.mp h
    show PyData.hasDict (.list ps) = false
    rw [PyData.hasDict]; exact noDicts_of S ds ps e
  | S, .rol ds, _, h => by
    obtain ⟨ps, e, rfl⟩ := Option.map_eq_some_iff.mp h
    show PyData.hasDict (.list ps) = false
    rw [PyData.hasDict]; exact noDicts_of S ds ps e
  | _, .cell _, _, h => by cases h
  | _, .obj _ _ _, _, h => by cases h
  | _, .dic _ _, _, h => by cases h
  | _, .exn _ _ _, _, h => by cases h
  | _, .junk, _, h => by cases h
theorem noDicts_of : ∀ (S : Sto) (ds : List D) (ps : List PyData), toPDs S ds = some ps → PyData.hasDictAll ps = false
  | _, [], _, h => by cases h; rfl
  | S, d :: ds, _, h => by
    obtain ⟨p, e1, h⟩ := Option.bind_eq_some_iff.mp h
    obtain ⟨ps, e2, rfl⟩ := Option.map_eq_some_iff.mp h
    rw [PyData.hasDictAll, noDict_of S d p e1, noDicts_of S ds ps e2]; rfl
end
theorem noDict_toP {S : Sto} {d : D} {p : PyData} (h : toP S d = some p) : p.hasDict = false := by
  unfold toP at h
  split at h
  · split at h
    · obtain ⟨ps, e, rfl⟩ := Option.map_eq_some_iff.mp h
      show PyData.hasDict (.list ps) = false
      rw [PyData.hasDict]; exact noDicts_of S _ ps e
    · cases h
  · exact noDict_of S d p h
/-- what can be shown within the limits -/
structure ReprOk (p : PyData) : Prop where
  sh : p.showable = true
  dp : p.depth ≤ 64
  sz : p.shown.length ≤ sizeLine
open Classical in
noncomputable def reprD (ds : List D) (S : Sto) : R D := match ds with
  | [d] => match toP S d with
    | some p => if ReprOk p then .ok (.str p.shown) S else .bad
    | none => .bad
  | _ => .bad
def rRepr (K : PySem.W.Frag) : List V → Hp → VK → Prop := fun xs H Q => ∃ x p, xs = [x] ∧ Dp K H x p ∧ p.hasDict = false ∧ ReprOk p ∧ Q (.str p.shown) H
section
variable {X : Cx} {Y : Yx}
theorem hu100 {k : Nat} {A : Around} (hr : Room k A) : A.units + 100 < cLine := by have := hr.un; omega
theorem call_reprD (gd : X.A.guards = some []) (hu : X.A.units + 100 < cLine) : CallR X (.builtin "repr") (rRepr X.K) := by
  intro pins s σ H xs us Q I r h
  obtain ⟨x, p, rfl, dp, nd, ok, q⟩ := h
  cases r with
  | cons a b =>
    cases b
    cases dp with
    | non => cases a; exact PySem.P.repr_of_none ⟨.str _, H, I.tok _, ⟨_, rfl⟩, q⟩
    | bl b => cases a; exact PySem.P.repr_of_bool ⟨.str _, H, I.tok _, ⟨_, rfl⟩, q⟩
    | int i =>
      obtain ⟨t, rfl⟩ := a
      have hs : decide (i.natAbs.log2 < 1920) = true := ok.sh
      exact PySem.P.repr_of_int (of_decide_eq_true hs) ⟨.str _, H, I.tok _, ⟨_, rfl⟩, q⟩
    | str z =>
      obtain ⟨t, rfl⟩ := a
      exact PySem.P.repr_of_str ⟨.str _, H, I.tok _, ⟨_, rfl⟩, q⟩ ok.sz
    | lst h1 h2 =>
      cases a
      obtain ⟨as, rd⟩ := Dp.reads I _ _ _ (.lst h1 h2) rfl
      have := ok.dp
      exact repr_of_reads' rd ok.sh (PyData.noDict_hsm nd) gd (by omega) (fun _ _ e => e) (fun h' u tk hk => ⟨.str _, H, I.kept hk, ⟨u, rfl⟩, q⟩) ok.sz
    | tup h1 h2 =>
      cases a
      obtain ⟨as, rd⟩ := Dp.reads I _ _ _ (.tup h1 h2) rfl
      have := ok.dp
      exact repr_of_reads' rd ok.sh (PyData.noDict_hsm nd) gd (by omega) (fun _ _ e => e) (fun h' u tk hk => ⟨.str _, H, I.kept hk, ⟨u, rfl⟩, q⟩) ok.sz
theorem s_repr : CallD (wd X Y) (rRepr X.K) reprD := by
  intro ms S H vs ds Q E st r p
  unfold reprD at p
  split at p
  · rename_i d
    obtain ⟨v, rfl, a⟩ := r.one
    split at p
    · rename_i q hq
      split at p
      · rename_i ok
        exact ⟨v, q, rfl, toP_of st a hq, noDict_toP hq, ok, p.val st (.str _)⟩
      · exact p.elim
    · exact p.elim
  · exact p.elim
end

/-! ### the law is called where no guard is up -/
/-- what one tracks of the heap at the law's call: the script, if it is not one of the module's own -/
structure Given (P : Program) (w : World) (K : PySem.W.Frag) (h : Heap) (a : Addr) (ns : List Int) (H : Hp) : Prop where
  frz : ∀ b u, H b = some u → ∃ (o : Obj) (xs : List V), u = .frz o (.lst xs) ∧ b = a ∧ K.lookup a = none
  seq : SqL K H a (ns.map V.int)
  ok : HOk P w H h
theorem given {P : Program} {w : World} {K : PySem.W.Frag} {h : Heap} {a : Addr} {vs : List Value} {ns : List Int} (KX : K.In h) (ha : h.get? a = some { cls := .type "list", data := .seq vs.toArray }) (hi : IntsAre vs ns) (hl : ns.length ≤ sizeLine) : ∃ H, Given P w K h a ns H := by
  have vals := vals_ints hi
  have same : vs.length = ns.length := hi.length
  cases hk : K.lookup a with
  | some o =>
    have eo := (KX a o hk).symm.trans ha
    cases eo
    refine ⟨fun _ => none, fun b u z => (by cases z), Or.inr ⟨{ cls := .type "list", data := .seq vs.toArray }, vs.toArray, 0, hk, rfl, rfl, rfl, ?_, ?_⟩, fun b u z => (by cases z)⟩
    · simpa [same] using hl
    · simpa using vals
  | none =>
    let o : Obj := { cls := .type "list", data := .seq vs.toArray }
    refine ⟨fun b => if b = a then some (.frz o (.lst (ns.map V.int))) else none, fun b u z => ?_, Or.inl (Or.inr ⟨o, if_pos rfl⟩), fun b u z => ?_⟩
    · by_cases q : b = a
      · exact ⟨o, ns.map V.int, (Option.some.inj ((if_pos q).symm.trans z)).symm, q, hk⟩
      · cases (if_neg q).symm.trans z
    · by_cases q : b = a
      · obtain rfl := Option.some.inj ((if_pos q).symm.trans z)
        subst q
        exact ⟨ha, by simpa using hl, vs, 0, vals, ha⟩
      · cases (if_neg q).symm.trans z
theorem Given.hid {P : Program} {w : World} {K : PySem.W.Frag} {h : Heap} {a : Addr} {ns : List Int} {H : Hp} (G : Given P w K h a ns H) {vs : List Value} (ha : h.get? a = some { cls := .type "list", data := .seq vs.toArray }) {b : Addr} {o : Obj} (e : h.get? b = some o)
    (hd : K.lookup b = some o ∨ ∃ es ep, o.data = .dict es ep) : (hidT h H).get? b = some o := by
  refine hidT_get e ?_
  cases q : H b with
  | none => rfl
  | some u =>
    obtain ⟨_, _, _, rfl, hk⟩ := G.frz b u q
    rcases hd with c | ⟨es, ep, c⟩
    · cases hk.symm.trans c
    · obtain rfl := Option.some.inj (ha.symm.trans e)
      cases c
theorem law_callG {P : Program} {w : World} {K : PySem.W.Frag} {mg mb : Str → Option Value} {k : Nat} {fa a : Addr} {fd : FuncData} {x : Str} {sp : Sp} {s₁ : Shared} {vs : List Value} {ns : List Int}
    (KX : K.In s₁.heap) (hns : s₁.heap.Ns mainGlobals mg) (hb : s₁.heap.Ns builtinsNs mb) (hbb : ∀ x : Str, x ≠ "__name__" → mb x = bootBuiltins x) (hlim : s₁.heap.NoLimit) (hg : s₁.gens = #[])
    (ha : s₁.heap.get? a = some { cls := .type "list", data := .seq vs.toArray }) (hi : IntsAre vs ns) (hl : ns.length ≤ sizeLine) (hr : Room k callerA)
    (F : ∀ base : Heap, K.In base → base.Ns mainGlobals mg → FnG P w K mg base k fa fd [x] sp) (hbind : ∀ (s : Shared) (u : Value), BindsTo s fd ⟨[u], []⟩ [(x, u)])
    (hsp : ∀ H : Hp, SqL K H a (ns.map V.int) → sp [.ref a] H (fun v _ => v = .bl true) fun _ _ _ => False) :
    codeAny (model P w) callerA (.call (.ref fa) ⟨[.ref a], []⟩) (fun r s' => r = .ok (.ret (.bool true)) ∧ OldK s₁.heap s'.heap ∧ s'.os = s₁.os ∧ AllBare s'.gens) s₁ := by
  obtain ⟨H, G⟩ := given (P := P) (w := w) KX ha hi hl
  have names : ∀ {b : Addr} {m : Str → Option Value}, s₁.heap.Ns b m → (hidT s₁.heap H).Ns b m := by
    rintro b m ⟨o, es, ep, e, d, r⟩
    exact ⟨o, es, ep, G.hid ha e (Or.inr ⟨es, ep, d⟩), d, r⟩
  have inK : K.In (hidT s₁.heap H) := fun b o e => G.hid ha (KX b o e) (Or.inl e)
  have module : Mod K mg (hidT s₁.heap H) := by
    obtain ⟨mc, h1, h2⟩ := hlim
    exact ⟨inK, names hns, ⟨mb, names hb, hbb⟩, ⟨mc, names h1, h2⟩⟩
  have none_of : ∀ b ∈ frs ([] : List Env), False := fun b q => by cases q
  have env : Env0 P w K mg (hidT s₁.heap H) callerA [] s₁ H :=
    ⟨rfl, module, fun b o e => of_hidT e, Nat.le_of_eq (hidT_size _ _), trivial, fun b q => (none_of b q).elim, G.ok, .of_eq hg⟩
  have run := (F _ inK (names hns)).go callerA [] s₁ H ⟨[.ref a], []⟩ [.ref a] [.ref a] _ _ hr rfl env (hbind s₁ (.ref a)) (.cons rfl .nil) (hsp H G.seq)
  refine codeAny_mono run ?_
  intro out s2 q
  match out with
  | .error ex =>
    obtain ⟨_, _, _, _, _, _, _, _, _, _, _, _, no⟩ := q
    exact no.elim
  | .ok .next => exact q.elim
  | .ok .brk => exact q.elim
  | .ok .cont => exact q.elim
  | .ok (.ret u) =>
    obtain ⟨v, H2, os, bare, un, ok2, rv, hv⟩ := q
    obtain rfl : v = V.bl true := hv
    obtain rfl : u = Value.bool true := rv
    refine ⟨rfl, OldK.of_keep ?_, os, bare⟩
    intro b o e
    cases q : H b with
    | none => exact un.keep b o e q (fun z => none_of b z) (by intro z; cases z)
    | some t =>
      obtain ⟨ob, xs, rfl, _, _⟩ := G.frz b t q
      have was := (G.ok b _ q).1
      have now := (ok2 b _ (un.frzs b ob _ q)).1
      rw [now, ← was, e]
theorem walkG {l : PySem.W.OpenLaw} {n k : Nat} {q : Program} {loose : List Str} {XP : (Str → Option Value) → Heap → Prop} {YP : World → Heap → Prop} {d : DefRec} {K : Params → PySem.W.Frag} {sp : World → Sp} {x : Str}
    (hn : l.most = some n) (hn2 : n ≤ sizeLine) (hdf : d.params.defaults = []) (hr : Room k callerA) (hY : ∀ (w : World) (h : Heap), YP w h → (K w.params).In h)
    (F : ∀ (w : World) (mg : Str → Option Value) (fa : Addr) (h : Heap), (K w.params).In h → h.Ns mainGlobals mg → mg d.name = some (.ref fa) →
      ∃ fd : FuncData, (∀ (s : Shared) (u : Value), BindsTo s fd ⟨[u], []⟩ [(x, u)]) ∧ ∀ base : Heap, (K w.params).In base → base.Ns mainGlobals mg → FnG l.prog w (K w.params) mg base k fa fd [x] (sp w))
    (hsp : ∀ (w : World) (H : Hp) (a : Addr) (ns : List Int), ns.length ≤ n → SqL (K w.params) H a (ns.map V.int) → sp w [.ref a] H (fun v _ => v = .bl true) fun _ _ _ => False) :
    PySem.W.WalkO q loose XP YP l.row.toRowW d [] (fun f vs => PySem.call f vs) := by
  refine Att.attach_call hn hdf ?_
  intro w s₀ s₁ mg mb fa o pm cd doc a vs ns G Y ho hd hcd hmg hobj hints hlen hg
  have inK := hY w _ Y
  obtain ⟨fd, hb, hF⟩ := F w mg fa _ inK G.T.g hmg
  exact law_callG inK G.T.g G.T.b G.T.builtins G.T.nolimit hg hobj hints (Nat.le_trans hlen hn2) hr hF hb fun H hS => hsp w H a ns hlen hS
end Zd

set_option Elab.async false
set_option linter.all false
set_option maxRecDepth 100000
set_option maxHeartbeats 4000000
set_option autoImplicit false
/-! Zd: for and comprehensions over an owned list, item by item as it then stands. -/
namespace Zd
open PySem PySem.Spec L2
open PyProof.Rows hiding St

/-- turns over the list in cell n, from place i on, so many at most -/
def forC (n : Nat) (g : GF) (body : SF) : Nat → Nat → SF
  | 0, _ => fun _ _ => .bad
  | k + 1, i => fun ρ S => match S[n]? with
    | some (.lst xs) => match xs[i]? with
      | some d => match g d ρ S with
        | none => .bad
        | some ρ1 => (body ρ1 S).turn (forC n g body k (i + 1))
      | none => .nx ρ S
    | _ => .bad
def forCS (m : Nat) (fe : EF) (g : GF) (body : SF) : SF := fun ρ S => (fe ρ S).st ρ fun d S1 => match d with
  | .cell n => forC n g body m 0 ρ S1
  | _ => .bad

section
variable {X : Cx} {Y : Yx} {tg : Expr}
theorem ds_forC {iter : Expr} {body : List Stmt} {fe : EF} {is : List Nat} {g : GF} {u : SF} {pos : Pos} (m : Nat) (hp : PassesOwn (model X.prog X.w) X.A X.env X.xe) (hc : X.calm = true) (he : DE X Y iter fe) (hg : DG X Y tg is g) (hb : DSs X Y body u)
    (hs : ∀ x, foldedSetIterable iter X.env x = pure x := by intro _; rfl) : DS X Y (.For tg iter body [] pos) (forCS m fe g u) := by
  refine PS.weak (ps_for hp hc (pi_list he) hg hb hs) fun Z σ H h => ?_
  obtain ⟨ms, S, ρ, ev, st, p⟩ := h
  refine ⟨ms, S, ρ, ev, st, ?_⟩
  unfold forCS at p
  refine PostS.split ev p fun d S1 x ms1 H1 _ f1 s1 r1 p1 => ?_
  cases d with
  | cell n =>
    cases r1 with
    | cell ha =>
      have p1 : PostS (wd X Y) ms1 H1 (forC n g u m 0 ρ S1) Z Y.wx := p1
      rename_i a
      have known : ∃ xs : List D, S1[n]? = some (.lst xs) := by
        cases m with
        | zero => exact p1.elim
        | succ m =>
          unfold forC at p1
          cases e : S1[n]? with
          | none => rw [e] at p1; exact p1.elim
          | some c =>
            cases c with
            | lst xs => exact ⟨xs, rfl⟩
            | _ => rw [e] at p1; exact p1.elim
      obtain ⟨xs, hx⟩ := known
      obtain ⟨us, e1, _⟩ := s1.readL ha hx
      refine ⟨a, rfl, ⟨us, .inl (.inl e1)⟩, fun i k σ' H' => ∃ ms' S' ρ', Fut ms1 H1 ms' H' ∧ StOk (wd X Y) ms' S' H' ∧ Ev (wd X Y) ρ' σ' ms' H' ∧ PostS (wd X Y) ms' H' (forC n g u k i ρ' S') Z Y.wx,
        ⟨m, ms1, S1, ρ, Fut.refl _ _, s1, ev.fut f1, p1⟩, ?_⟩
      rintro i k σ' H' ⟨ms', S', ρ', f', s', ev', p'⟩
      have ha' : ms'[n]? = some a := by
        obtain ⟨l, rfl⟩ := f'.ext
        exact pre_get ha
      cases k with
      | zero => exact p'.elim
      | succ k =>
        unfold forC at p'
        cases e : S'[n]? with
        | none => rw [e] at p'; exact p'.elim
        | some c =>
          cases c with
          | lst ys =>
            rw [e] at p'
            dsimp only at p'
            obtain ⟨vs, h1, rr⟩ := s'.readL ha' e
            have q : SqL X.K H' a vs := .inl (.inl h1)
            cases hy : ys[i]? with
            | none =>
              rw [hy] at p'
              refine .inl ⟨⟨vs, q, ?_⟩, p' σ' ms' H' (Fut.refl _ _) s' ev'⟩
              rw [rr.length]
              exact List.getElem?_eq_none_iff.mp hy
            | some d =>
              rw [hy] at p'
              dsimp only at p'
              obtain ⟨v, hv, r3⟩ := rr.get hy
              refine .inr ⟨⟨vs, v, q, hv⟩, fun σ' H' => ∃ ms' S' ρ', Fut ms1 H1 ms' H' ∧ StOk (wd X Y) ms' S' H' ∧ Ev (wd X Y) ρ' σ' ms' H' ∧ PostS (wd X Y) ms' H' (forC n g u k (i + 1) ρ' S') Z Y.wx,
                fun σ2 H2 q2 => ⟨k, Nat.lt_succ_self k, q2⟩, fun x H2 y => ?_⟩
              obtain ⟨rfl, hz⟩ := y
              have same := hz vs q
              rw [hv] at same
              cases same
              cases hgd : g d ρ' S' with
              | none => rw [hgd] at p'; exact p'.elim
              | some ρ1 =>
                rw [hgd] at p'
                dsimp only at p'
                refine ⟨ms', S', ρ', d, r3, ev', s', ρ1, hgd, fun σ3 ev3 _ => ⟨ms', S', ρ1, ev3, s', ?_⟩⟩
                cases hu : u ρ1 S' with
                | nx ρ2 S2 => rw [hu] at p'; exact fun σ4 ms4 H4 f4 s4 ev4 => ⟨ms4, S2, ρ2, f'.trans f4, s4, ev4, PostS.fut p' f4⟩
                | ct ρ2 S2 => rw [hu] at p'; exact fun σ4 ms4 H4 f4 s4 ev4 => ⟨ms4, S2, ρ2, f'.trans f4, s4, ev4, PostS.fut p' f4⟩
                | bk ρ2 S2 => rw [hu] at p'; exact fun σ4 ms4 H4 f4 s4 ev4 => p' σ4 ms4 H4 f4 s4 ev4
                | rt d S2 => rw [hu] at p'; exact fun v ms4 H4 f4 s4 r4 => p' v ms4 H4 f4 s4 r4
                | exc c ks es ρ2 S2 => rw [hu] at p'; exact fun σ4 C dd ms4 H4 f4 s4 ev4 x4 => p' σ4 C dd ms4 H4 f4 s4 ev4 x4
                | bad => rw [hu] at p'; exact p'
          | _ => rw [e] at p'; exact p'.elim
  | _ => exact p1.elim
end

/-! ### comprehensions over an owned list -/
noncomputable def compC (n src : Nat) (g : GF) (t : F Bool) (fe : EF) (ρ : Nv) : Nat → Nat → Sto → R Unit
  | 0, _, _ => .bad
  | k + 1, i, S => match S[src]? with
    | some (.lst xs) => match xs[i]? with
      | some d => match g d ρ S with
        | none => .bad
        | some ρ1 => (t ρ1 S).bindN fun b S1 => if b then (fe ρ1 S1).bindN fun x S2 => (pushC n x S2).bindN fun _ S3 => compC n src g t fe ρ k (i + 1) S3 else compC n src g t fe ρ k (i + 1) S1
      | none => .ok () S
    | _ => .bad
noncomputable def compCG (m : Nat) (fin : Nat → Sto → R D) (vs : List Nat) (fl : EF) (g : GF) (t : F Bool) (fe : EF) : EF := fun ρ S => (fl ρ S).bind fun d S1 => match d with
  | .cell src => (compC S1.length src g t fe (wipeD ρ vs) m 0 (S1 ++ [.lst []])).bindN fun _ S2 => fin S1.length S2
  | _ => .bad
theorem lc_ofC {W : Wd} {Wx : WX} {K : PySem.W.Frag} (hK : W.K = K) {m : Nat} {fin : Nat → Sto → R D} {fl : EF} {is vs : List Nat} {g : GF} {t : F Bool} {fe : EF} {σ : St} {H : Hp} {Q : VK} (hfin : Fin W fin) (hv : ∀ i ∈ is, i ∈ vs) (h : tX W Wx (relD W) (compCG m fin vs fl g t fe) σ H Q) :
    tLc (iList K (tX W Wx (relD W) fl)) (tG W is g) (tX W (fun _ _ _ _ => False) relB t) (tX W (fun _ _ _ _ => False) (relD W) fe) vs σ H Q := by
  subst hK
  obtain ⟨ms, S, ρ, ev, st, p⟩ := h
  refine ⟨ms, S, ρ, ev, st, ?_⟩
  unfold compCG at p
  refine Post.split p fun d S1 x ms1 H1 _ f1 s1 r1 p1 => ?_
  cases d with
  | cell src =>
    cases r1 with
    | cell ha =>
      rename_i a
      dsimp only at p1
      have hn : S1.length = ms1.length := s1.len.symm
      have hsrc : src < ms1.length := (List.getElem?_eq_some_iff.mp ha).1
      have known : ∃ xs : List Zd.D, S1[src]? = some (.lst xs) := by
        cases m with
        | zero => exact p1.elim
        | succ m =>
          unfold compC at p1
          rw [List.getElem?_append_left (by omega)] at p1
          cases e : S1[src]? with
          | none => rw [e] at p1; exact p1.elim
          | some c =>
            cases c with
            | lst xs => exact ⟨xs, rfl⟩
            | _ => rw [e] at p1; exact p1.elim
      obtain ⟨xs, hx⟩ := known
      obtain ⟨us, e1, _⟩ := s1.readL ha hx
      refine ⟨a, rfl, ⟨us, .inl (.inl e1)⟩, fun D hD => ?_⟩
      have s2 : StOk W (ms1 ++ [D]) (S1 ++ [.lst []]) (upd H1 D (.lst [])) := s1.ownL hD .nil
      rw [hn] at p1
      refine ⟨fun i k H' => ∃ ms' S', Fut (ms1 ++ [D]) (upd H1 D (.lst [])) ms' H' ∧ StOk W ms' S' H' ∧
          Post W (relD W) ms1 H1 ((compC ms1.length src g t fe (wipeD ρ vs) k i S').bindN fun _ S2 => fin ms1.length S2) Q (fun c d H' => Wx c d σ H'),
        ⟨m, ms1 ++ [D], S1 ++ [.lst []], Fut.refl _ _, s2, p1⟩, ?_⟩
      rintro i k H' ⟨ms', S', f', s', p'⟩
      have atD : ms'[ms1.length]? = some D := by
        obtain ⟨l, rfl⟩ := f'.ext
        refine pre_get ?_
        rw [List.getElem?_append_right (Nat.le_refl _), Nat.sub_self]
        rfl
      have ha' : ms'[src]? = some a := by
        obtain ⟨l, rfl⟩ := f'.ext
        exact pre_get (pre_get ha)
      have fI : Fut ms1 H1 ms' H' := (Fut.own hD).trans f'
      cases k with
      | zero => exact p'.elim
      | succ k =>
        unfold compC at p'
        cases e : S'[src]? with
        | none => rw [e] at p'; exact p'.elim
        | some c =>
          cases c with
          | lst ys =>
            rw [e] at p'
            dsimp only at p'
            obtain ⟨zs, h1, rr⟩ := s'.readL ha' e
            have q : SqL W.K H' a zs := .inl (.inl h1)
            cases hy : ys[i]? with
            | none =>
              rw [hy] at p'
              refine .inl ⟨⟨zs, q, by rw [rr.length]; exact List.getElem?_eq_none_iff.mp hy⟩, ?_⟩
              exact hfin ms1 ms' H1 H' S' D Q _ hD s' fI atD p'
            | some d =>
              rw [hy] at p'
              dsimp only at p'
              obtain ⟨v, hv1, r3⟩ := rr.get hy
              refine .inr ⟨⟨zs, v, q, hv1⟩, fun H' => ∃ ms' S', Fut (ms1 ++ [D]) (upd H1 D (.lst [])) ms' H' ∧ StOk W ms' S' H' ∧
                  Post W (relD W) ms1 H1 ((compC ms1.length src g t fe (wipeD ρ vs) k (i + 1) S').bindN fun _ S2 => fin ms1.length S2) Q (fun c d H' => Wx c d σ H'),
                fun H2 q2 => ⟨k, Nat.lt_succ_self k, q2⟩, fun x H2 y => ?_⟩
              obtain ⟨rfl, hz⟩ := y
              have same := hz zs q
              rw [hv1] at same
              cases same
              have ev2 : Ev W (wipeD ρ vs) (L2.wipe σ vs) ms' H2 := (ev.fut (f1.trans fI)).wipe vs
              cases hgd : g d (wipeD ρ vs) S' with
              | none => rw [hgd] at p'; exact p'.elim
              | some ρ1 =>
                rw [hgd] at p'
                refine ⟨ms', S', wipeD ρ vs, d, r3, ev2, s', ρ1, hgd, fun σ3 ev3 sets => ⟨?_, ms', S', ρ1, ev3, s', ?_⟩⟩
                · have w1 := sets vs hv
                  have w2 : L2.wipe (L2.wipe σ vs) vs = L2.wipe σ vs := by
                    apply List.ext_getElem?
                    intro j
                    rw [wipe_at, wipe_at, wipe_length]
                    by_cases hj : j ∈ vs
                    · rw [if_pos hj, if_pos hj]
                    · rw [if_neg hj, if_neg hj]
                  rw [w1, w2]
                · cases ht : t ρ1 S' with
                  | bad => dsimp only at p'; rw [ht] at p'; exact p'.elim
                  | exc c ks es S2 => dsimp only at p'; rw [ht] at p'; exact p'.elim
                  | ok b S2 =>
                    dsimp only at p'
                    rw [ht, R.bindN_ok] at p'
                    intro b' ms3 H3 f3 s3 e3
                    cases e3
                    cases b with
                    | false => exact iteF ⟨ms3, S2, f'.trans f3, s3, p'⟩
                    | true =>
                      refine iteT ⟨ms3, S2, ρ1, ev3.fut f3, s3, ?_⟩
                      rw [if_pos rfl] at p'
                      cases he : fe ρ1 S2 with
                      | bad => rw [he] at p'; exact p'.elim
                      | exc c ks es S3 => rw [he] at p'; exact p'.elim
                      | ok z S3 =>
                        rw [he, R.bindN_ok] at p'
                        intro v ms4 H4 f4 s4 r4
                        have fD : Fut (ms1 ++ [D]) (upd H1 D (.lst [])) ms4 H4 := f'.trans (f3.trans f4)
                        have atD4 : ms4[ms1.length]? = some D := by
                          obtain ⟨l, rfl⟩ := fD.ext
                          refine pre_get ?_
                          rw [List.getElem?_append_right (Nat.le_refl _), Nat.sub_self]
                          rfl
                        unfold pushC at p'
                        cases hc : S3[ms1.length]? with
                        | none => rw [hc] at p'; exact p'.elim
                        | some cl =>
                          rw [hc] at p'
                          cases cl with
                          | lst xs =>
                            dsimp only at p'
                            split at p'
                            · rename_i hl
                              obtain ⟨l1, l2⟩ := Bool.and_eq_true_iff.mp hl
                              have l2 := of_decide_eq_true l2
                              obtain ⟨us, e1, rr⟩ := s4.cell _ _ _ atD4 hc
                              refine ⟨us, e1, by rw [rr.length]; exact l2, ms4, S3.set ms1.length (.lst (xs ++ [z])), fD.trans (Fut.write (List.mem_of_getElem? atD4)), s4.writeL atD4 (rr.append (.cons (Rp.take _ _ l1 r4) .nil)), ?_⟩
                              rw [R.bindN_ok] at p'
                              exact p'
                            · exact p'.elim
                          | obj _ _ _ => exact p'.elim
                          | dic _ _ => exact p'.elim
                          | dead => exact p'.elim
          | _ => rw [e] at p'; exact p'.elim
  | _ => exact p1.elim
section
variable {X : Cx} {Y : Yx} {elt tg iter : Expr} {ifs : List Expr} {scope : Scope} {own : List (Str × Nat)} {pos : Pos} {fl : EF} {is : List Nat} {g : GF} {t : F Bool} {fe : EF}
theorem d_compC {fin : Nat → Sto → R D} (m : Nat) (hfin : Fin (wd X Y) fin) (hc : X.calm = true) (hN : X.N.Nodup) (hi : DE X Y iter fl) (ok : BlkOk X.N X.env.scope scope own) (hv : ∀ i ∈ is, i ∈ own.map (·.2))
    (hg : ∀ (s : Shared) (H : Hp) (C : Addr) (cl : List (Str × Addr)) (fp : List Addr), DG (X.blk s H scope (compEnvC scope cl C X.env) fp) (yN Y) tg is g) (ht : ∀ (s : Shared) (H : Hp) (C : Addr) (cl : List (Str × Addr)) (fp : List Addr), DTs (X.blk s H scope (compEnvC scope cl C X.env) fp) (yN Y) ifs t)
    (he : ∀ (s : Shared) (H : Hp) (C : Addr) (cl : List (Str × Addr)) (fp : List Addr), DE (X.blk s H scope (compEnvC scope cl C X.env) fp) (yN Y) elt fe) (hs : ∀ x, foldedSetIterable iter X.env x = pure x := by intro _; rfl) :
    DE X Y (.ListComp elt [⟨tg, iter, ifs, 0⟩] scope pos) (compCG m fin (own.map (·.2)) fl g t fe) :=
  PE.weak (pe_lc (g := tG (wd X Y) is g) (tt := tX (wd X Y) (fun _ _ _ _ => False) relB t) (te := tX (wd X Y) (fun _ _ _ _ => False) (relD (wd X Y)) fe) hc hN (pi_list hi) ok hg ht he hs) fun σ H Q h => lc_ofC (W := wd X Y) rfl hfin hv h
theorem ds_setCC {fin : Nat → Sto → R D} {i : Nat} {y : Str} {py spos : Pos} (m : Nat) (hfin : Fin (wd X Y) fin) (hc : X.calm = true) (hN : X.N.Nodup) (hy : X.N[i]? = some y) (hyl : X.env.scope.names.lookup y = some .local)
    (hsw : swapsWith (.ListComp elt [⟨tg, iter, ifs, 0⟩] scope pos) (some (.Name y py)) spos.line X.env = pure true) (hi : DE X Y iter fl) (ok : BlkOk X.N X.env.scope scope own) (hv : ∀ i ∈ is, i ∈ own.map (·.2))
    (hg : ∀ (s : Shared) (H : Hp) (C : Addr) (cl : List (Str × Addr)) (fp : List Addr), DG (X.blk s H scope (compEnvC scope cl C X.env) fp) (yN Y) tg is g) (ht : ∀ (s : Shared) (H : Hp) (C : Addr) (cl : List (Str × Addr)) (fp : List Addr), DTs (X.blk s H scope (compEnvC scope cl C X.env) fp) (yN Y) ifs t)
    (he : ∀ (s : Shared) (H : Hp) (C : Addr) (cl : List (Str × Addr)) (fp : List Addr), DE (X.blk s H scope (compEnvC scope cl C X.env) fp) (yN Y) elt fe) (hs : ∀ x, foldedSetIterable iter X.env x = pure x := by intro _; rfl) :
    DS X Y (.Assign [.Name y py] (.ListComp elt [⟨tg, iter, ifs, 0⟩] scope pos) spos) (setS i (compCG m fin (own.map (·.2)) fl g t fe)) := by
  refine PS.weak (ps_setLc (g := tG (wd X Y) is g) (tt := tX (wd X Y) (fun _ _ _ _ => False) relB t) (te := tX (wd X Y) (fun _ _ _ _ => False) (relD (wd X Y)) fe) hc hN hy hyl hsw (pi_list hi) ok hg ht he hs) fun Z σ H h => ?_
  obtain ⟨ms, S, ρ, ev, st, p⟩ := h
  refine lc_ofC (W := wd X Y) (Wx := Y.wx) (m := m) rfl hfin hv ⟨ms, S, ρ, ev, st, ?_⟩
  exact PostS.split ev p fun d S1 x ms1 H1 _ f1 s1 r1 p1 => p1 _ ms1 H1 (Fut.refl _ _) s1 ((ev.fut f1).set r1 i)
end

/-! ### where the list stays as it is: as over data -/
theorem forC_data {n : Nat} {g : GF} {body : SF} {xs : List D} (P : Nv → Sto → Prop) (hS : ∀ ρ S, P ρ S → S[n]? = some (.lst xs))
    (step : ∀ (i : Nat) (d : D) (ρ : Nv) (S : Sto) (ρ1 : Nv), xs[i]? = some d → P ρ S → g d ρ S = some ρ1 → (∀ ρ2 S2, body ρ1 S = .nx ρ2 S2 → P ρ2 S2) ∧ (∀ ρ2 S2, body ρ1 S = .ct ρ2 S2 → P ρ2 S2)) :
    ∀ (k i : Nat) (ρ : Nv) (S : Sto), xs.length < k + i → i ≤ xs.length → P ρ S → forC n g body k i ρ S = forL g body (xs.drop i) ρ S
  | 0, i, ρ, S, h, hi, _ => by omega
  | k + 1, i, ρ, S, h, hi, p => by
    unfold forC
    rw [hS ρ S p]
    dsimp only
    by_cases hlt : i < xs.length
    · rw [List.getElem?_eq_getElem hlt, List.drop_eq_getElem_cons hlt, forL]
      dsimp only
      cases hg : g xs[i] ρ S with
      | none => rfl
      | some ρ1 =>
        dsimp only
        obtain ⟨s1, s2⟩ := step i xs[i] ρ S ρ1 (List.getElem?_eq_getElem hlt) p hg
        cases hb : body ρ1 S with
        | nx ρ2 S2 => exact forC_data P hS step k (i + 1) ρ2 S2 (by omega) hlt (s1 ρ2 S2 hb)
        | ct ρ2 S2 => exact forC_data P hS step k (i + 1) ρ2 S2 (by omega) hlt (s2 ρ2 S2 hb)
        | _ => rfl
    · rw [List.getElem?_eq_none (by omega), List.drop_of_length_le (by omega)]
      rfl
theorem compC_map {n src : Nat} {g : GF} {t : F Bool} {fe : EF} {ρ : Nv} {S : Sto} {xs : List D} {p : D → Bool} {f : D → D} (hn : n = S.length) (hx : S[src]? = some (.lst xs)) (hl : NLe xs.length sizeLine)
    (h : ∀ d ∈ xs, ∀ acc : List D, ∃ ρ1, g d ρ (S ++ [.lst acc]) = some ρ1 ∧ t ρ1 (S ++ [.lst acc]) = .ok (p d) (S ++ [.lst acc]) ∧ (p d = true → fe ρ1 (S ++ [.lst acc]) = .ok (f d) (S ++ [.lst acc]) ∧ low n (f d) = true)) :
    ∀ (k i : Nat) (acc : List D), xs.length < k + i → i ≤ xs.length → acc.length ≤ i → compC n src g t fe ρ k i (S ++ [.lst acc]) = .ok () (S ++ [.lst (acc ++ ((xs.drop i).filter p).map f)])
  | 0, i, acc, h1, h2, _ => by omega
  | k + 1, i, acc, h1, h2, h3 => by
    have hs : ((S ++ [Cl.lst acc] : Sto)[n]? : Option Cl) = some (.lst acc) := by subst hn; simp
    have hx' : ((S ++ [Cl.lst acc] : Sto)[src]? : Option Cl) = some (.lst xs) := by rw [List.getElem?_append_left (List.getElem?_eq_some_iff.mp hx).1]; exact hx
    have hl' : xs.length ≤ sizeLine := hl
    unfold compC
    rw [hx']
    dsimp only
    by_cases hlt : i < xs.length
    · rw [List.getElem?_eq_getElem hlt, List.drop_eq_getElem_cons hlt]
      dsimp only
      obtain ⟨ρ1, e1, e2, e3⟩ := h xs[i] (List.getElem_mem hlt) acc
      rw [e1]
      dsimp only
      rw [e2, R.bindN_ok]
      cases hp : p xs[i] with
      | false => rw [if_neg (by simp), compC_map hn hx hl h k (i + 1) acc (by omega) hlt (by omega), List.filter_cons_of_neg (by simp [hp])]
      | true =>
        obtain ⟨e4, e5⟩ := e3 hp
        rw [if_pos rfl, e4, R.bindN_ok]
        unfold pushC
        rw [hs]
        dsimp only
        rw [e5, decide_eq_true (show NLe (acc.length + 1) sizeLine from (show acc.length + 1 ≤ sizeLine by omega)), if_pos (by rfl), R.bindN_ok]
        have hset : (S ++ [Cl.lst acc] : Sto).set n (.lst (acc ++ [f xs[i]])) = S ++ [.lst (acc ++ [f xs[i]])] := by
          subst hn
          rw [List.set_append_right _ _ (Nat.le_refl _), Nat.sub_self]
          rfl
        rw [hset, compC_map hn hx hl h k (i + 1) (acc ++ [f xs[i]]) (by omega) hlt (by rw [List.length_append, List.length_singleton]; omega), List.filter_cons_of_pos hp, List.map_cons, List.append_assoc]
        rfl
    · rw [List.getElem?_eq_none (by omega), List.drop_of_length_le (by omega)]
      simp
theorem compCG_map {m : Nat} {vs : List Nat} {fl : EF} {g : GF} {t : F Bool} {fe : EF} {ρ : Nv} {S S1 : Sto} {src : Nat} {xs : List D} (p : D → Bool) (f : D → D) (hi : fl ρ S = .ok (.cell src) S1) (hx : S1[src]? = some (.lst xs)) (hl : NLe xs.length sizeLine) (hm : NLe (xs.length + 1) m)
    (h : ∀ d ∈ xs, ∀ acc : List D, ∃ ρ1, g d (wipeD ρ vs) (S1 ++ [.lst acc]) = some ρ1 ∧ t ρ1 (S1 ++ [.lst acc]) = .ok (p d) (S1 ++ [.lst acc]) ∧ (p d = true → fe ρ1 (S1 ++ [.lst acc]) = .ok (f d) (S1 ++ [.lst acc]) ∧ low S1.length (f d) = true)) :
    compCG m finF vs fl g t fe ρ S = .ok (.lst ((xs.filter p).map f)) S1 := by
  unfold compCG
  rw [hi, R.bind_ok]
  dsimp only
  rw [compC_map (acc := []) rfl hx hl h m 0 (by have : xs.length + 1 ≤ m := hm; omega) (Nat.zero_le _) (Nat.le_refl _), R.bindN_ok]
  unfold finF
  simp
theorem whileL_succ {t : F Bool} {body : SF} {n : Nat} {ρ : Nv} {S : Sto} : whileL t body (n + 1) ρ S = (t ρ S).st ρ fun k S1 => if k then (body ρ S1).turn (whileL t body n) else .nx ρ S1 := rfl
end Zd

set_option Elab.async false
set_option linter.all false
set_option maxRecDepth 100000
set_option maxHeartbeats 4000000
set_option autoImplicit false
/-! Zd: own exceptions: made, raised, caught. -/
namespace Zd
open PySem PySem.Spec L2
open PyProof.Rows hiding St

/-! ### the __init__ of an own exception -/
/-- the own base class B: its __init__ is that of ValueError -/
structure Bas (K : PySem.W.Frag) (B : Addr) : Prop where
  rd : PySem.W.readsIn K B (.type "type") = true
  ga : PySem.W.specialIn K (.ref B) "__getattribute__" = some (some (.builtin "type.__getattribute__"))
  vi : PySem.W.findCls K (.ref B) (.type "type") "__init__" = some (.val (.builtin "ValueError.__init__"))
section
variable {X : Cx}
theorem pe_baseinit {x : Str} {B : Addr} {e : Expr} {es : List Expr} {ta : TA} {p1 p2 pos : Pos} {pl : Sem Bool} (hg : Gl X x) (hm : X.mg x = some (.ref B)) (b : Bas X.K B) (ha : PA X (e :: es) ta) (hdb : (x == ("__debug__" : Str)) = false := by decide)
    (hc : eval (.Call (.Attribute (.Name x p1) "__init__" p2) (e :: es) [] pos) X.env = (do
      let ov ← eval (.Name x p1) X.env
      standAt p2.atName
      let (f, first) ← holding [ov] (getMethod ov "__init__" pl)
      callWith pos f first (backTo pos (starEach (e :: es) X.env)) (backToKw pos (keywordEach [] X.env))) := by rfl)
    (he : starEach (e :: es) X.env = (false, eval e X.env) :: starEach es X.env := by rfl) (hpl : (backTo pos (starEach es X.env)).any (·.1) = false := by rfl) :
    PE X (.Call (.Attribute (.Name x p1) "__init__" p2) (e :: es) [] pos) (tVeI X.K ta) := by
  constructor
  intro pins s σ H Q I h
  refine PySem.W.methodCall_KW (ld_glob I hg hm ?_ hdb) hc
  refine PySem.W.method_cls I.kIn b.ga (PySem.W.cls_value I.kIn b.rd b.vi (by decide +kernel) ?_)
  show wpAny _ _ (callWith pos (Value.builtin "ValueError.__init__") [] (backTo pos (starEach (e :: es) X.env)) []) _ _ _
  refine PyProof.Rows.callWith_method1 (thn (ha.run pos pins _ σ H _ (I.tok _) h) ?_) he hpl
  rintro us s1 ⟨vs, H1, I1, r1, a, C, ws, rfl, hl, T, ea, q⟩
  match us, r1 with
  | u0 :: ur, .cons ra rw' =>
    obtain rfl : u0 = Value.ref a := ra
    have many : ur.length ≤ sizeLine := by rw [← Paired.length rw', sizeLine_eq]; omega
    exact oinit_ok T I1 ea many fun s' J => ⟨.non, H1, J, rfl, q⟩
/-- what is promised of an exception's __init__ with the fields ks -/
def spXi (K : PySem.W.Frag) (ks : List Str) : Sp := fun vs H Q _ => ∃ (a C : Addr) (ws : List V), vs = .ref a :: ws ∧ ws.length = ks.length ∧ OexC K C ∧ (∀ f ∈ ks, PySem.W.findIn K (.ref C) f = some none) ∧ H a = some (exo a C none) ∧
  ∀ (dx : Addr) (H' : Hp), H dx = none → dx ≠ a → H' a = some (exo a C (some dx)) → H' dx = some (exd dx (ks.zip ws).reverse) → (∀ b, b ≠ a → b ≠ dx → H' b = H b) → Q .non H'
end

def tBi (K : PySem.W.Frag) (msg : Str) : TS := tDrop (tVeI K (tCons (tVar 0) (tCons (tC (.str msg)) tNil)))
def tFi (K : PySem.W.Frag) (f : Str) (i : Nat) : TS := tOst K f (tVar 0) (tVar i)
theorem xi_len {K : PySem.W.Frag} {ks : List Str} {vs : List V} {H : Hp} {Q : VK} {E : XK} (h : spXi K ks vs H Q E) : vs.length = ks.length + 1 := by
  obtain ⟨a, C, ws, rfl, hl, _⟩ := h
  rw [List.length_cons, hl]
theorem tBi_of {K : PySem.W.Frag} {msg : Str} {σ : St} {H : Hp} {D : Ends} {a C : Addr} (h0 : σ[0]? = some (some (.ref a))) (T : OexC K C) (ea : H a = some (exo a C none)) (q : D.nx σ H) : tBi K msg D σ H :=
  ⟨.ref a, h0, a, C, [.str msg], rfl, by simp, T, ea, q⟩
theorem tFi_new {K : PySem.W.Frag} {f : Str} {i : Nat} {σ : St} {H : Hp} {D : Ends} {a C : Addr} {y : V} (h0 : σ[0]? = some (some (.ref a))) (hi : σ[i]? = some (some y)) (T : OexC K C) (hno : PySem.W.findIn K (.ref C) f = some none) (ea : H a = some (exo a C none))
    (q : ∀ dx, H dx = none → dx ≠ a → D.nx σ (upd (upd H dx (exd dx [(f, y)])) a (exo a C (some dx)))) : tFi K f i D σ H :=
  ⟨y, hi, .ref a, h0, a, C, rfl, T, hno, .inl ⟨ea, q⟩⟩
theorem tFi_old {K : PySem.W.Frag} {f : Str} {i : Nat} {σ : St} {H : Hp} {D : Ends} {a C dx : Addr} {y : V} {fs : List (Str × V)} (h0 : σ[0]? = some (some (.ref a))) (hi : σ[i]? = some (some y)) (T : OexC K C) (hno : PySem.W.findIn K (.ref C) f = some none)
    (ea : H a = some (exo a C (some dx))) (ed : H dx = some (exd dx fs)) (hl : fs.length ≤ 900) (q : D.nx σ (upd H dx (exd dx ((f, y) :: fs)))) : tFi K f i D σ H :=
  ⟨y, hi, .ref a, h0, a, C, rfl, T, hno, .inr ⟨dx, fs, ea, ed, hl, q⟩⟩
section
variable {K : PySem.W.Frag} {N : List Str} {vs : List V} {H : Hp} {Q : VK} {E : XK} {f f1 f2 msg : Str}
theorem sh_1 (h : spXi K [f] vs H Q E) : tFi K f 1 { nx := fun _ H' => Q .non H', rt := Q } (start N vs) H := by
  obtain ⟨a, C, ws, rfl, hl, T, hf, ea, q⟩ := h
  match ws, hl with
  | [y], _ =>
    exact tFi_new rfl rfl T (hf f List.mem_cons_self) ea fun dx hd ne => q dx _ hd ne upd_same (by rw [upd_ne ne, upd_same]; rfl) fun b h1 h2 => by rw [upd_ne h1, upd_ne h2]
theorem sh_2 (h : spXi K [f1, f2] vs H Q E) : tSeq (tFi K f1 1) (tFi K f2 2) { nx := fun _ H' => Q .non H', rt := Q } (start N vs) H := by
  obtain ⟨a, C, ws, rfl, hl, T, hf, ea, q⟩ := h
  match ws, hl with
  | [y1, y2], _ =>
    exact tFi_new rfl rfl T (hf f1 List.mem_cons_self) ea fun dx hd ne => tFi_old (dx := dx) (fs := [(f1, y1)]) rfl rfl T (hf f2 (List.mem_cons_of_mem _ List.mem_cons_self)) upd_same (by rw [upd_ne ne, upd_same]) (by simp)
      (q dx _ hd ne (by rw [upd_ne (Ne.symm ne), upd_same]) (by rw [upd_same]; rfl) fun b h1 h2 => by rw [upd_ne h2, upd_ne h1, upd_ne h2])
theorem sh_b1 (h : spXi K [f] vs H Q E) : tSeq (tBi K msg) (tFi K f 1) { nx := fun _ H' => Q .non H', rt := Q } (start N vs) H := by
  have h' := h
  obtain ⟨a, C, ws, rfl, hl, T, hf, ea, q⟩ := h'
  exact tBi_of (C := C) rfl T ea (sh_1 h)
theorem sh_b2 (h : spXi K [f1, f2] vs H Q E) : tSeq (tBi K msg) (tSeq (tFi K f1 1) (tFi K f2 2)) { nx := fun _ H' => Q .non H', rt := Q } (start N vs) H := by
  have h' := h
  obtain ⟨a, C, ws, rfl, hl, T, hf, ea, q⟩ := h'
  exact tBi_of (C := C) rfl T ea (sh_2 h)
end
/-- what one knows of an own exception class c with the fields ks -/
structure XK' (P : Program) (w : World) (K : PySem.W.Frag) (mg : Str → Option Value) (base : Heap) (c : Str) (ks : List Str) (k : Nat) : Prop where
  ex : ∃ (C fI : Addr) (fd : FuncData) (ps : List Str), mg c = some (.ref C) ∧ OexC K C ∧ (∀ f ∈ ks, PySem.W.findIn K (.ref C) f = some none) ∧ PySem.W.findIn K (.ref C) "__init__" = some (some (.ref fI)) ∧
    PySem.W.typeIn K (.ref fI) = some (.type "function") ∧ FnOk P w K mg base (L2.CX P w) k fI fd ps (spXi K ks) ∧ Binds K fd ps []

/-! ### raise -/
def raiseS (c : Str) (ks : List Str) (fs : F (List D)) : SF := fun ρ S => (fs ρ S).st ρ fun ds S1 => if ds.length = ks.length then .exc c ks.reverse ds.reverse ρ S1 else .bad
theorem zip_rev {α β : Type} : ∀ (a : List α) (b : List β), a.length = b.length → (a.zip b).reverse = a.reverse.zip b.reverse
  | [], [], _ => rfl
  | x :: a, y :: b, h => by
    rw [List.zip_cons_cons, List.reverse_cons, zip_rev a b (by simpa using h), List.reverse_cons, List.reverse_cons, List.zip_append (by simpa using h)]; rfl
theorem RpL.rev {W : Wd} {ms : List Addr} {G : Hp} {vs : List V} {ds : List D} (r : RpL W ms G vs ds) : RpL W ms G vs.reverse ds.reverse := by
  induction ds generalizing vs with
  | nil => cases r; exact .nil
  | cons d ds ih => cases r with | cons a b => rw [List.reverse_cons, List.reverse_cons]; exact (ih b).append (.cons a .nil)
section
variable {X : Cx} {wx : WX} {xi : Option (Addr × Value × Option Addr)}
theorem ds_raise {c : Str} {ks : List Str} {k : Nat} {e : Expr} {es : List Expr} {fs : F (List D)} {p pos pos' : Pos} (hc : X.calm = true) (x : XK' X.prog X.w X.K X.mg X.base c ks k) (hr : Room (k + 1) X.A) (tk : Takes X wx) (hg : Gl X c) (ha : DA X ⟨xi, wx⟩ (e :: es) fs)
    (hdb : (c == ("__debug__" : Str)) = false := by decide) (he : starEach (e :: es) X.env = (false, eval e X.env) :: starEach es X.env := by rfl) (hpl : (backTo pos (starEach es X.env)).any (·.1) = false := by rfl) (hkl : ks.length ≤ 1000 := by decide) :
    DS X ⟨xi, wx⟩ (.Raise (some (.Call (.Name c p) (e :: es) [] pos)) none pos') (raiseS c ks fs) := by
  obtain ⟨C, fI, fd, ps, hm, T, hno, iC, tI, F, hb⟩ := x.ex
  refine PS.weak (ps_raise hc tk (pmk_oex (CX := L2.CX X.prog X.w) (dvs := []) T iC tI F hr hb .nil (fun _ _ _ _ _ _ _ z => ?_) hg hm ha hdb he hpl)) fun Z σ H h => ?_
  · obtain ⟨_, _, _, _, _, _, _, _, _, _, _, _, no⟩ := z
    exact no.elim
  · obtain ⟨ms, S, ρ, ev, st, q⟩ := h
    refine ⟨ms, S, ρ, ev, st, PostS.split ev q fun ds S1 vs ms1 H1 _ f1 s1 r1 q1 => ?_⟩
    split at q1
    · rename_i hl
      have hv : vs.length = ks.length := by rw [r1.length]; exact hl
      refine ⟨by rw [hv]; exact hkl, fun a ha => ⟨a, C, vs, by rw [List.append_nil], hv, T, hno, upd_same, fun dx H' hd ne e1 e2 e3 => ⟨rfl, dx, _, e1, e2, ?_, ?_⟩⟩⟩
      · rw [upd_ne ne] at hd; exact hd
      · have hd1 : H1 dx = none := by rw [upd_ne ne] at hd; exact hd
        have same : upd (del H' a) dx (.xd (ks.zip vs).reverse) = upd H1 dx (.xd (ks.zip vs).reverse) := by
          funext b
          by_cases h2 : b = dx
          · rw [h2, upd_same, upd_same]
          · rw [upd_ne h2, upd_ne h2]
            by_cases h1 : b = a
            · rw [h1, del_same, ha]
            · rw [del_ne h1, e3 b h1 h2, upd_ne h1]
        rw [same]
        refine q1 σ C dx ms1 _ (Fut.new s1 hd1) (s1.new hd1) (ev.fut (f1.trans (Fut.new s1 hd1))) ⟨hm, vs.reverse, ?_, by simp [hv], ?_⟩
        · rw [era_new s1 hd1, zip_rev _ _ hv.symm]
        · exact RpL.fut r1.rev (Fut.new s1 hd1)
    · exact q1.elim
end

/-! ### try -/
mutual
/-- no caught exception within -/
def noX : D → Bool
  | .exn _ _ _ => false
  | .tup ds => noXL ds
  | .lst ds => noXL ds
  | .rol ds => noXL ds
  | .obj _ _ ds => noXL ds
  | .dic _ ds => noXL ds
  | _ => true
def noXL : List D → Bool
  | [] => true
  | d :: ds => noX d && noXL ds
end
section
variable {W W' : Wd} {ms : List Addr} {G : Hp}
mutual
theorem Rp.noX (hx : W.xi = none) : ∀ (d : D) (v : V), Rp W ms G v d → noX d = true
  | .non, _, _ => rfl
  | .bl _, _, _ => rfl
  | .int _, _, _ => rfl
  | .str _, _, _ => rfl
  | .tup ds, _, h => by cases h with | tup a b => exact RpL.noX hx ds _ b
  | .lst ds, _, h => by cases h with | lst a b => exact RpL.noX hx ds _ b
  | .rol ds, _, h => by cases h with | rol a b => exact RpL.noX hx ds _ b
  | .cell _, _, _ => rfl
  | .obj _ _ ds, _, h => by cases h with | obj a b e r => exact RpL.noX hx ds _ r
  | .dic _ ds, _, h => by cases h with | dic b e r => exact RpL.noX hx ds _ r
  | .exn _ _ _, _, h => by cases h with | exn x a b e r => rw [hx] at x; cases x
  | .junk, _, _ => rfl
theorem RpL.noX (hx : W.xi = none) : ∀ (ds : List D) (vs : List V), RpL W ms G vs ds → noXL ds = true
  | [], _, _ => rfl
  | d :: ds, _, h => by cases h with | cons a b => show (Zd.noX d && noXL ds) = true; rw [Rp.noX hx d _ a, RpL.noX hx ds _ b]; rfl
end
mutual
theorem Rp.chg (hK : W'.K = W.K) (hg : W'.mg = W.mg) : ∀ (d : D) (v : V), Zd.noX d = true → Rp W ms G v d → Rp W' ms G v d
  | .non, _, _, h => by cases h; exact .non
  | .bl _, _, _, h => by cases h; exact .bl _
  | .int _, _, _, h => by cases h; exact .int _
  | .str _, _, _, h => by cases h; exact .str _
  | .tup ds, _, n, h => by cases h with | tup a b => exact .tup (by rw [hK]; exact a) (RpL.chg hK hg ds _ n b)
  | .lst ds, _, n, h => by cases h with | lst a b => exact .lst a (RpL.chg hK hg ds _ n b)
  | .rol ds, _, n, h => by cases h with | rol a b => exact .rol (by rw [hK]; exact a) (RpL.chg hK hg ds _ n b)
  | .cell _, _, _, h => by cases h with | cell a => exact .cell a
  | .obj _ _ ds, _, n, h => by cases h with | obj a b e r => exact .obj (by rw [hg]; exact a) b e (RpL.chg hK hg ds _ n r)
  | .dic _ ds, _, n, h => by cases h with | dic b e r => exact .dic b e (RpL.chg hK hg ds _ n r)
  | .exn _ _ _, _, n, _ => by cases n
  | .junk, _, _, _ => .junk _
theorem RpL.chg (hK : W'.K = W.K) (hg : W'.mg = W.mg) : ∀ (ds : List D) (vs : List V), noXL ds = true → RpL W ms G vs ds → RpL W' ms G vs ds
  | [], _, _, h => by cases h; exact .nil
  | d :: ds, _, n, h => by
    obtain ⟨n1, n2⟩ := Bool.and_eq_true_iff.mp n
    cases h with | cons a b => exact .cons (Rp.chg hK hg d _ n1 a) (RpL.chg hK hg ds _ n2 b)
end
end
def noXC : Cl → Bool
  | .lst ds => noXL ds
  | .obj _ _ ds => noXL ds
  | .dic _ ds => noXL ds
  | .dead => true
section
variable {W W' : Wd} {ms : List Addr} {S : Sto} {H : Hp} {ρ : Nv} {σ : St}
theorem StOk.noX (st : StOk W ms S H) (hx : W.xi = none) : ∀ c ∈ S, noXC c = true := by
  intro c hc
  obtain ⟨n, hn⟩ := List.getElem?_of_mem hc
  obtain ⟨a, _, k⟩ := st.at' hn
  cases c with
  | lst ds => obtain ⟨vs, _, r⟩ := k; exact RpL.noX hx ds vs r
  | obj _ _ ds => obtain ⟨_, _, vs, _, _, _, r⟩ := k; exact RpL.noX hx ds vs r
  | dic _ ds => obtain ⟨vs, _, _, r⟩ := k; exact RpL.noX hx ds vs r
  | dead => rfl
theorem StOk.chg (st : StOk W ms S H) (hK : W'.K = W.K) (hg : W'.mg = W.mg) (hn : ∀ c ∈ S, noXC c = true) : StOk W' ms S H := by
  refine ⟨st.nd, st.len, fun n a c h k => ?_⟩
  have q := st.cell n a c h k
  have m := hn c (List.mem_of_getElem? k)
  cases c with
  | lst ds => obtain ⟨vs, e, r⟩ := q; exact ⟨vs, e, RpL.chg hK hg ds vs m r⟩
  | obj _ _ ds => obtain ⟨C, dx, vs, g, e, l, r⟩ := q; exact ⟨C, dx, vs, by rw [hg]; exact g, e, l, RpL.chg hK hg ds vs m r⟩
  | dic _ ds => obtain ⟨vs, e, l, r⟩ := q; exact ⟨vs, e, l, RpL.chg hK hg ds vs m r⟩
  | dead => exact q
theorem Ev.chg (ev : Ev W ρ σ ms H) (hK : W'.K = W.K) (hg : W'.mg = W.mg) (hn : ∀ (j : Nat) (d : D), ρ[j]? = some (some d) → noX d = true) : Ev W' ρ σ ms H :=
  ⟨ev.len, fun i d h => let ⟨v, a, b⟩ := ev.get i d h; ⟨v, a, Rp.chg hK hg d v (hn i d h) b⟩⟩
theorem Ev.noX (ev : Ev W ρ σ ms H) (hx : W.xi = none) : ∀ (j : Nat) (d : D), ρ[j]? = some (some d) → noX d = true := fun j d h => let ⟨_, _, b⟩ := ev.get j d h; Rp.noX hx d _ b
end
/-- the names behind a suite: the exception's is gone, the others are as ahead or hold no exception -/
def OkN (i : Nat) (ρ1 ρ2 : Nv) : Prop := ∀ (j : Nat) (d : D), (ρ2.set i none)[j]? = some (some d) → noX d = true ∨ ρ1[j]? = some (some d)
open Classical in
/-- try: g, except .. as name i: h; mt says of each class whether the clause takes it -/
noncomputable def tryS (mt : List (Str × Bool)) (i : Nat) (g h : SF) : SF := fun ρ S => match g ρ S with
  | .exc c ks ds ρ1 S1 => match mt.lookup c with
    | some true => match h (ρ1.set i (some (.exn c ks ds))) S1 with
      | .rt d S2 => if (S2 = S1 ∨ ∀ c ∈ S2, noXC c = true) ∧ noX d = true then .rt d S2 else .bad
      | .nx ρ2 S2 => if (S2 = S1 ∨ ∀ c ∈ S2, noXC c = true) ∧ OkN i ρ1 ρ2 then .nx (ρ2.set i none) S2 else .bad
      | .ct ρ2 S2 => if (S2 = S1 ∨ ∀ c ∈ S2, noXC c = true) ∧ OkN i ρ1 ρ2 then .ct (ρ2.set i none) S2 else .bad
      | .bk ρ2 S2 => if (S2 = S1 ∨ ∀ c ∈ S2, noXC c = true) ∧ OkN i ρ1 ρ2 then .bk (ρ2.set i none) S2 else .bad
      | _ => .bad
    | some false => .exc c ks ds ρ1 S1
    | none => .bad
  | r => r
section
variable {X : Cx} {wx : WX}
theorem ds_try {mt : List (Str × Bool)} {i : Nat} {n x : Str} {cv : Value} {body suite : List Stmt} {b₀ : Stmt} {g h : SF} {np pos pos' : Pos} (hs : X.stack = X.env :: X.outer) (hf : X.env.frame = some X.env.locals) (hN : X.N.Nodup) (hi : X.N[i]? = some n) (hln : X.env.kindOf n = some .local) (hc : Names X x cv) (tk : Takes X wx)
    (hmt : ∀ (c : Str) (b : Bool) (C : Addr), mt.lookup c = some b → X.mg c = some (.ref C) → PySem.W.exmOne X.K (.ref C) cv = some b)
    (hb : ∀ (Wb : WX) (pn : List (Addr × Obj)) (xe : Value → Shared → Prop), Takes (X.tr pn xe) Wb → PassesOwn (model X.prog X.w) X.A X.env xe → DSs (X.tr pn xe) ⟨none, Wb⟩ body g)
    (hsu : ∀ (a : Addr) (oe : Obj) (cls : Value) (d : Option Addr) (pn : List (Addr × Obj)), Zc cls d oe → (∃ vs, oe.data = .fields vs) → DSs (X.suite a ((a, oe) :: pn)) ⟨some (a, cls, d), fun _ _ _ _ => False⟩ (b₀ :: suite) h) :
    DS X ⟨none, wx⟩ (.Try body [.ExceptHandler (some (.Name x np)) (some n) (b₀ :: suite) pos'] [] [] pos) (tryS mt i g h) := by
  refine PS.weak (ps_try_as (tb := fun Wb => tDS ⟨X.K, X.mg, none⟩ Wb g) (ts := fun a cls d => tDS ⟨X.K, X.mg, some (a, cls, d)⟩ (fun _ _ _ _ => False) h) hs hf hN hi hln hc tk hb hsu) fun Z σ H q => ?_
  obtain ⟨ms, S, ρ, ev, st, p⟩ := q
  refine ⟨ms, S, ρ, ev, st, ?_⟩
  have p : PostS ⟨X.K, X.mg, none⟩ ms H (tryS mt i g h ρ S) Z wx := p
  unfold tryS at p
  cases hg : g ρ S with
  | nx ρ1 S1 => rw [hg] at p; exact p
  | rt d S1 => rw [hg] at p; exact p
  | bk ρ1 S1 => rw [hg] at p; exact p
  | ct ρ1 S1 => rw [hg] at p; exact p
  | bad => rw [hg] at p; exact p
  | exc c ks ds ρ1 S1 =>
    rw [hg] at p
    dsimp only at p
    intro σ1 C dd ms1 H1 f1 s1 ev1 xr
    cases hl : mt.lookup c with
    | none => rw [hl] at p; exact p.elim
    | some b =>
      rw [hl] at p
      refine ⟨b, hmt c b C hl xr.g, ?_, ?_⟩
      · intro eb a ha
        subst eb
        dsimp only at p
        have nS := s1.noX (W := ⟨X.K, X.mg, none⟩) rfl
        have nE := ev1.noX (W := ⟨X.K, X.mg, none⟩) rfl
        obtain ⟨us, ed, ln, rr⟩ := xr.at_
        have r1 : RpL ⟨X.K, X.mg, some (a, .ref C, some dd)⟩ ms1 (era ms1 H1) us ds := RpL.chg (W := ⟨X.K, X.mg, none⟩) (W' := ⟨X.K, X.mg, some (a, .ref C, some dd)⟩) rfl rfl ds us (RpL.noX (W := ⟨X.K, X.mg, none⟩) rfl ds us rr) rr
        have ex : Rp ⟨X.K, X.mg, some (a, .ref C, some dd)⟩ ms1 (era ms1 H1) (.ref a) (.exn c ks ds) := Rp.exn (W := ⟨X.K, X.mg, some (a, .ref C, some dd)⟩) rfl xr.g ed ln r1
        have e0 : Ev ⟨X.K, X.mg, some (a, .ref C, some dd)⟩ ρ1 σ1 ms1 H1 := ev1.chg rfl rfl nE
        refine ⟨ms1, S1, ρ1.set i (some (.exn c ks ds)), e0.set ex i, s1.chg rfl rfl nS, ?_⟩
        have names : ∀ {ρ2 : Nv} {σ2 : St} {ms2 : List Addr} {H2 : Hp}, OkN i ρ1 ρ2 → Ev ⟨X.K, X.mg, some (a, .ref C, some dd)⟩ ρ2 σ2 ms2 H2 → Ev ⟨X.K, X.mg, none⟩ (ρ2.set i none) (σ2.set i none) ms2 H2 := by
          intro ρ2 σ2 ms2 H2 ok e2
          refine (e2.unset i).chg rfl rfl fun j d hj => ?_
          rcases ok j d hj with k | k
          · exact k
          · exact nE j d k
        cases hh : h (ρ1.set i (some (.exn c ks ds))) S1 with
        | bad => rw [hh] at p; exact p.elim
        | exc _ _ _ _ _ => rw [hh] at p; exact p.elim
        | rt d S2 =>
          rw [hh] at p
          dsimp only at p
          split at p
          · rename_i ok
            obtain ⟨okS, nd⟩ := ok
            have nS2 : ∀ c ∈ S2, noXC c = true := okS.elim (fun e => e ▸ nS) id
            exact fun v ms2 H2 f2 s2 r2 => p v ms2 H2 (f1.trans f2) (s2.chg rfl rfl nS2) (Rp.chg (W := ⟨X.K, X.mg, some (a, .ref C, some dd)⟩) (W' := ⟨X.K, X.mg, none⟩) rfl rfl d v nd r2)
          · exact p.elim
        | nx ρ2 S2 =>
          rw [hh] at p
          dsimp only at p
          split at p
          · rename_i ok
            obtain ⟨okS, nd⟩ := ok
            have nS2 : ∀ c ∈ S2, noXC c = true := okS.elim (fun e => e ▸ nS) id
            exact fun σ2 ms2 H2 f2 s2 e2 => p _ ms2 H2 (f1.trans f2) (s2.chg rfl rfl nS2) (names nd e2)
          · exact p.elim
        | ct ρ2 S2 =>
          rw [hh] at p
          dsimp only at p
          split at p
          · rename_i ok
            obtain ⟨okS, nd⟩ := ok
            have nS2 : ∀ c ∈ S2, noXC c = true := okS.elim (fun e => e ▸ nS) id
            exact fun σ2 ms2 H2 f2 s2 e2 => p _ ms2 H2 (f1.trans f2) (s2.chg rfl rfl nS2) (names nd e2)
          · exact p.elim
        | bk ρ2 S2 =>
          rw [hh] at p
          dsimp only at p
          split at p
          · rename_i ok
            obtain ⟨okS, nd⟩ := ok
            have nS2 : ∀ c ∈ S2, noXC c = true := okS.elim (fun e => e ▸ nS) id
            exact fun σ2 ms2 H2 f2 s2 e2 => p _ ms2 H2 (f1.trans f2) (s2.chg rfl rfl nS2) (names nd e2)
          · exact p.elim
      · intro eb
        subst eb
        exact p σ1 C dd ms1 H1 f1 s1 ev1 xr
end

end Zd
namespace PySem.W
open PySem PySem.Spec PySem.Calls PyProof.Rows
/-! an exception's class, its dict there or not -/
section
variable {prog : Program} {w : World} {A : Around} {E : Value → Shared → Prop} {s : Shared} {K : Frag} {x D : Addr} {ox : Obj} {od : Option Obj}
theorem zd_bindObj {name : Str} {a g : Value} (h1 : (clsIn K D).isSome = true) (h2 : findIn K (.ref D) name = some (some a)) (h3 : specialIn K a "__get__" = some (some g)) (h4 : takesIn K a = some true) : findObj K D od name = some (.bind g a) := by
  obtain ⟨c, e⟩ := Option.isSome_iff_exists.mp h1
  simp [findObj, e, h2, h3, h4]
theorem zd_class {Q : Option Value → Shared → Prop} (T : L2.ExcC K D) (X : K.In s.heap) (I : InstAt s.heap x ox D od) (k : Q (some (.ref D)) { s with toks := s.toks + 1 }) : wpAny (model prog w) A (getAttr? (.ref x) "__class__") Q E s := by
  have isC : (clsIn K D).isSome = true := by
    obtain ⟨c, e, _⟩ := any_some T.hd
    rw [e]; rfl
  have found := zd_bindObj (od := od) isC T.ha T.hn T.ht
  obtain ⟨hp, gs, dr, t, os⟩ := s
  have look0 := I.type (M := model prog w)
  have look1 := looks_findIn (M := model prog w) X T.hg
  have look2 := looks_findIn (M := model prog w) X T.hk
  have look3 := looks_find (M := model prog w) X I found
  have isB : Looks (model prog w) hp (isInstance (.ref x) (.type "BaseException")) true := look0.andThen (looks_subIn X T.hs)
  have other : (onTheHeap (Value.ref D) && Value.builtin "BaseException.__getattribute__" == Value.builtin "object.__getattribute__") = false := by
    have : (Value.builtin "BaseException.__getattribute__" == Value.builtin "object.__getattribute__") = false := by decide +kernel
    rw [this]; rfl
  have plain : (false && onTheHeap (Value.builtin "BaseException.__getattribute__")) = false := rfl
  unfold getAttr? getAttrBy?
  unfold getAttrBy
  refine wpAny_bind (wpAny_mkText ?_)
  refine wpAny_bind (wpAny_attempt (wpAny_holding ?_))
  refine wpAny_bind (look0.at (wpAny_bind (look1.at ?_)))
  dsimp only
  rw [other]
  rw [if_neg Bool.false_ne_true]
  unfold getAttrByItsOwn
  unfold hookBefore
  refine wpAny_bind ?_
  have heapD : onTheHeap (Value.ref D) = true := rfl
  rw [if_pos heapD]
  refine look2.at (wpAny_bind (wpAny_attempt (wpAny_holding ?_)))
  unfold callGetattribute
  rw [plain]
  rw [if_neg Bool.false_ne_true]
  unfold boundAndCalled
  rw [PySem.F.excAttr_ValueError.ga.bind (.ref x)]
  refine wpAny_bind (wpAny_pure (wpAny_call (codeAny_call_builtin PySem.F.excAttr_ValueError.ga.plain PySem.F.entry_bexc_ga ?_)))
  have args := PySem.F.args_bexc_ga (.ref x) (.str "__class__" t)
  refine @check_slot (model prog w) _ _ ⟨hp, gs, dr, t + 1, os⟩ "BaseException.__getattribute__" "BaseException" "__getattribute__" (.ref x) [.str "__class__" t] [] _ (by decide +kernel) (by decide +kernel) isB args ?_
  unfold Builtin.«object.__getattribute__»
  refine wpAny_bind ?_
  refine wpAny_of_eq (a := ((Value.ref x : Value), [Value.str "__class__" t])) ?_ ?_
  · first
      | rfl
      | (simp only [slotArgs]; rfl)
  refine wpAny_bind (wpAny_pure (wpAny_bind (look0.at (wpAny_bind (look3.at ?_)))))
  refine wpAny_bind (wpAny_holding (wpAny_call (class_get (s := ⟨hp, gs, dr, t + 1, os⟩) X I T.hm (wpAny_pure ?_))))
  show wpAny _ _ (handedOut (Value.ref D)) _ _ _
  have given := handedOut_of (v := .ref D) rfl
  rw [given]
  first
    | exact wpAny_pure (wpAny_pure k)
    | exact wpAny_pure k
    | exact wpAny_pure (wpAny_bind (wpAny_pure (wpAny_pure k)))
theorem zd_kit (T : L2.ExcC K D) : KitX K (.ref x) (.ref D) (fun h => ∃ (ox : Obj) (od : Option Obj), InstAt h x ox D od) where
  ty := fun _ _ _ ⟨_, _, I⟩ => I.type
  it := fun _ _ X _ => by
    obtain ⟨c, e, _⟩ := any_some T.hd
    unfold clsIn at e
    split at e
    · rename_i c1 c2 c3 c4 at_
      intro A1 Q1 E1 s1 keep q
      unfold isType loadHead
      exact wpAny_bind (wpAny_loadPart (keep _ _ (X _ _ at_)) (wpAny_pure q))
    · cases e
  ne := fun h tp dd its n sl X htp => by
    obtain ⟨c, e, _⟩ := any_some T.hd
    cases hq : (Value.ref D == Value.ref tp) with
    | false => rfl
    | true =>
      obtain rfl : D = tp := Value.ref.inj (beq_iff_eq.mp hq)
      unfold clsIn at e
      split at e
      · rename_i c1 c2 c3 c4 at_
        cases (X _ _ at_).symm.trans htp
      · cases e
  ca := fun X ⟨_, _, I⟩ k => zd_class T X I k
end
end PySem.W
namespace Zd
open PySem PySem.Spec L2
open PyProof.Rows hiding St

/-! ### what is asked of a caught exception -/
/-- e.f -/
def xfF (cs : List Str) (f : Str) (fe : EF) : EF := fun ρ S => (fe ρ S).bind fun d S1 => match d with
  | .exn c ks ds => if c ∈ cs then match (ks.zip ds).lookup f with
    | some x => .ok x S1
    | none => .bad else .bad
  | _ => .bad
theorem RpL.lookup {W : Wd} {ms : List Addr} {G : Hp} : ∀ {ks : List Str} {vs : List V} {ds : List D} {f : Str} {d : D}, RpL W ms G vs ds → (ks.zip ds).lookup f = some d → ∃ v, (ks.zip vs).lookup f = some v ∧ Rp W ms G v d
  | [], _, _, _, _, _, h => by cases h
  | k :: ks, _, [], _, _, _, h => by cases h
  | k :: ks, _, x :: ds, f, d, r, h => by
    cases r with
    | @cons v vs _ _ a b =>
      rw [List.zip_cons_cons, List.lookup_cons] at h ⊢
      cases e : f == k with
      | true => rw [e] at h; cases h; exact ⟨v, rfl, a⟩
      | false => rw [e] at h; exact RpL.lookup b h
section
variable {X : Cx}
theorem d_xf {cs : List Str} {f : Str} {a : Addr} {oe : Obj} {cls : Value} {d : Option Addr} {pn : List (Addr × Obj)} {wx : WX} {e : Expr} {fe : EF} {pos : Pos}
    (T : ∀ (c : Str) (C : Addr), c ∈ cs → X.mg c = some (.ref C) → XfC X.K C ∧ PySem.W.findIn X.K (.ref C) f = some none) (hz : Zc cls d oe) (hf : ∃ vs, oe.data = .fields vs)
    (he : DE (X.suite a ((a, oe) :: pn)) ⟨some (a, cls, d), wx⟩ e fe) (hb : attributeBase e f X.env (eval e X.env) = eval e X.env := by rfl) : DE (X.suite a ((a, oe) :: pn)) ⟨some (a, cls, d), wx⟩ (.Attribute e f pos) (xfF cs f fe) := by
  by_cases ex : ∃ (c : Str) (C : Addr), c ∈ cs ∧ X.mg c = some (.ref C) ∧ cls = .ref C
  · obtain ⟨c, C, hc, hm, ec⟩ := ex
    obtain ⟨t1, t2⟩ := T c C hc hm
    refine PE.weak (pe_xf t1 t2 hz hf he hb) fun σ H Q h => ?_
    obtain ⟨ms, S, ρ, ev, st, p⟩ := h
    unfold xfF at p
    refine ⟨ms, S, ρ, ev, st, Post.split p fun x S1 v ms1 H1 _ f1 s1 r1 p1 => ?_⟩
    cases x with
    | exn c' ks ds =>
      dsimp only at p1
      split at p1
      · split at p1
        · rename_i y hy
          cases r1 with
          | @exn a' C' dd _ _ vs _ q1 q2 q3 q4 q5 =>
            obtain ⟨v, e1, r2⟩ := RpL.lookup q5 hy
            have q1 : some (a, cls, d) = some (a', Value.ref C', some dd) := q1
            cases q1
            refine ⟨rfl, ec, dd, ks.zip vs, v, rfl, era_same _ _ _ _ q3, e1, p1 v ms1 H1 (Fut.refl _ _) s1 r2⟩
        · exact p1.elim
      · exact p1.elim
    | _ => exact p1.elim
  · constructor
    intro pins s σ H Q I h
    obtain ⟨ms, S, ρ, ev, st, p⟩ := h
    unfold xfF at p
    refine attr_of hb (thn (he.run pins s σ H (fun _ _ => False) I ⟨ms, S, ρ, ev, st, Post.split p fun x S1 v ms1 H1 _ f1 s1 r1 p1 => ?_⟩) ?_)
    rotate_left
    · rintro u s1 ⟨_, _, _, _, no⟩
      exact no.elim
    cases x with
    | exn c' ks ds =>
      dsimp only at p1
      split at p1
      · rename_i hc
        cases r1 with
        | @exn a' C' dd _ _ vs _ q1 q2 q3 q4 q5 =>
          have q1 : some (a, cls, d) = some (a', Value.ref C', some dd) := q1
          cases q1
          exact absurd ⟨c', C', hc, q2, rfl⟩ ex
      · exact p1.elim
    | _ => exact p1.elim
end

/-- isinstance(e, C), e the caught exception; tab says it of each class -/
def isXF (tab : List (Str × Bool)) (fe : EF) : EF := fun ρ S => (fe ρ S).bind fun d S1 => match d with
  | .exn c _ _ => match tab.lookup c with
    | some b => .ok (.bl b) S1
    | none => .bad
  | _ => .bad
def rIsX (K : PySem.W.Frag) (a : Addr) (cls : Value) : List V → Hp → VK → Prop := fun xs H Q => ∃ (c : V) (cv : Value) (b : Bool) (D : Addr), xs = [.ref a, c] ∧ cls = .ref D ∧ (∀ u, RelV c u → u = cv) ∧ L2.ExcC K D ∧ PySem.W.kitOne K (.ref D) cv = some b ∧ Q (.bl b) H
section
variable {X : Cx}
theorem call_isX {a : Addr} {oe : Obj} {cls : Value} {d : Option Addr} {pn : List (Addr × Obj)} (hz : Zc cls d oe) (hf : ∃ vs, oe.data = .fields vs) (hdict : ∀ (s : Shared) (dd : Addr), d = some dd → ∀ (pins : List (Addr × Obj)) (σ : St) (H : Hp), Inv (X.suite a ((a, oe) :: pn)) pins σ H s → (∃ fs, H dd = some (.xd fs)) → ∃ od, s.heap.get? dd = some od) :
    CallR (X.suite a ((a, oe) :: pn)) (.builtin "isinstance") (fun xs H Q => rIsX X.K a cls xs H Q ∧ ∃ dd, d = some dd ∧ ∃ fs, H dd = some (.xd fs)) := by
  intro pins s σ H xs us Q I r h
  obtain ⟨⟨c, cv, b, D, rfl, rfl, hcv, T, e, q⟩, dd, hd, hx⟩ := h
  obtain ⟨od, hod⟩ := hdict s dd hd pins σ H I hx
  match us, r with
  | [u0, u1], .cons rx (.cons rt .nil) =>
    obtain rfl : u0 = Value.ref a := rx
    obtain rfl := hcv _ rt
    obtain ⟨at_, _⟩ := I.pin (a, oe) (List.mem_append_left _ List.mem_cons_self)
    obtain ⟨vs, hv⟩ := hf
    have J : PySem.W.InstAt s.heap a oe D (some od) := ⟨at_, hz.1, by unfold PySem.W.notCls; rw [hv] <;> rfl, by rw [hz.2, hd]; exact hod⟩
    exact PySem.W.kia_one (PySem.W.zd_kit T) I.kIn ⟨oe, some od, J⟩ e (fun z => nomatch z) fun tk => ⟨.bl b, H, I.kept (t' := tk) fun _ _ z => z, rfl, q⟩
theorem xd_there {pins : List (Addr × Obj)} {σ : St} {H : Hp} {s : Shared} {dd : Addr} (I : Inv X pins σ H s) (h : ∃ fs, H dd = some (.xd fs)) : ∃ od, s.heap.get? dd = some od := by
  obtain ⟨fs, e⟩ := h
  exact objOk_get (I.hok dd _ e)
theorem d_isX {tab : List (Str × Bool)} {a : Addr} {oe : Obj} {cls : Value} {d : Option Addr} {pn : List (Addr × Obj)} {wx : WX} {e : Expr} {fe : EF} {nm : Str} {q p pos : Pos} {c : V} {cv : Value} (hz : Zc cls d oe) (hf : ∃ vs, oe.data = .fields vs)
    (hcn : PE (X.suite a ((a, oe) :: pn)) (.Name nm q) (tC c)) (hcv : ∀ u, RelV c u → u = cv)
    (T : ∀ (x : Str) (b : Bool) (C : Addr), tab.lookup x = some b → X.mg x = some (.ref C) → L2.ExcC X.K C ∧ PySem.W.kitOne X.K (.ref C) cv = some b)
    (hg : Gl X "isinstance") (hm : X.mg "isinstance" = none) (he : DE (X.suite a ((a, oe) :: pn)) ⟨some (a, cls, d), wx⟩ e fe)
    (h1 : starEach [e, .Name nm q] X.env = (false, eval e X.env) :: starEach [.Name nm q] X.env := by rfl) (h2 : starEach [.Name nm q] X.env = (false, eval (.Name nm q) X.env) :: starEach [] X.env := by rfl) (hpl : (backTo pos (starEach [.Name nm q] X.env)).any (·.1) = false := by rfl) :
    DE (X.suite a ((a, oe) :: pn)) ⟨some (a, cls, d), wx⟩ (.Call (.Name "isinstance" p) [e, .Name nm q] [] pos) (isXF tab fe) := by
  refine PE.weak (pe_callB (call_isX hz hf fun s dd _ pins σ H I hx => xd_there I hx) hg hm boot_isinstance (pa_cons he (pa_cons hcn pa_nil h2) h1) (by decide) (by decide) h1 hpl) fun σ H Q h => ?_
  obtain ⟨ms, S, ρ, ev, st, p⟩ := h
  unfold isXF at p
  refine ⟨ms, S, ρ, ev, st, Post.split p fun x S1 v ms1 H1 _ f1 s1 r1 p1 => ?_⟩
  cases x with
  | exn c' ks ds =>
    dsimp only at p1
    split at p1
    · rename_i b hb
      cases r1 with
      | @exn a' C' dd _ _ vs _ q1 q2 q3 q4 q5 =>
        have q1 : some (a, cls, d) = some (a', Value.ref C', some dd) := q1
        cases q1
        obtain ⟨t1, t2⟩ := T c' b C' hb q2
        exact ⟨⟨c, cv, b, C', rfl, rfl, hcv, t1, t2, p1 (.bl b) ms1 H1 (Fut.refl _ _) s1 (.bl b)⟩, dd, rfl, _, era_same _ _ _ _ q3⟩
    · exact p1.elim
  | _ => exact p1.elim
end

/-! ### what the written part says of an exception class -/
structure XRaw (K : PySem.W.Frag) (nm : Str) (C : Addr) : Prop where
  cls : ∃ q N bs bm sn sub ab col dd k0 k1 k2 k3 k5, K.lookup C = some (excClassObj nm q C N bs bm true sn sub ab col dd k0 k1 k2 k3 k5 "ValueError.__new__") ∧ PySem.HandSPX.refsVE bm = true
  sa : PySem.W.findIn K (.ref C) "__setattr__" = some (some (.builtin "object.__setattr__"))
  exC : PySem.W.subIn K (.ref C) (.type "BaseException") = some true
  tyC : PySem.W.typeIn K (.ref C) = some (.type "type")
  kC : PySem.W.keepIn K (.ref C) = true
  ga : PySem.W.findIn K (.ref C) "__getattribute__" = some (some (.builtin "BaseException.__getattribute__"))
  gg : PySem.W.findIn K (.ref C) "__getattr__" = some none
  hd : PySem.W.hasDictIn K C = true
  ca : PySem.W.findIn K (.ref C) "__class__" = some (some (.builtin "object.__class__"))
  mo : PySem.W.mroIn K C (.type "object") = some true
structure XObj (K : PySem.W.Frag) : Prop where
  hn : PySem.W.specialIn K (.builtin "object.__class__") "__get__" = some (some (.builtin "getset_descriptor.__get__"))
  ht : PySem.W.takesIn K (.builtin "object.__class__") = some true
section
variable {K : PySem.W.Frag} {n n' : Str} {C H : Addr}
theorem XRaw.oex (R : XRaw K n C) : OexC K C := by
  obtain ⟨q, N, bs, bm, sn, sub, ab, col, dd, k0, k1, k2, k3, k5, h, r⟩ := R.cls
  exact ⟨⟨n, q, N, bs, bm, sn, sub, ab, col, dd, k0, k1, k2, k3, k5, h, r⟩, R.sa, R.exC, R.tyC, R.kC⟩
theorem XRaw.exc (R : XRaw K n C) (O : XObj K) : L2.ExcC K C := ⟨R.ga, R.gg, R.exC, R.hd, R.ca, O.hn, O.ht, R.mo⟩
theorem XRaw.xf (R : XRaw K n C) : XfC K C := ⟨R.ga, R.gg, R.exC, R.hd⟩
theorem XRaw.exm (R : XRaw K n H) {b : Bool} (s : PySem.W.subIn K (.ref C) (.ref H) = some b) : PySem.W.exmOne K (.ref C) (.ref H) = some b := PySem.W.exm_ref R.exC R.hd R.tyC s
theorem XRaw.name (R : XRaw K n C) (R' : XRaw K n' C) : n = n' := by
  obtain ⟨_, _, _, _, _, _, _, _, _, _, _, _, _, _, h, _⟩ := R.cls
  obtain ⟨_, _, _, _, _, _, _, _, _, _, _, _, _, _, h', _⟩ := R'.cls
  have e := Option.some.inj (h.symm.trans h')
  injection e with _ _ e3 _
  injection e3 with e4
  injection e4
theorem XRaw.kit (R1 : XRaw K n C) (R2 : XRaw K n' H) {b : Bool} (hn : b = true ∨ n ≠ n') (s : PySem.W.subIn K (.ref C) (.ref H) = some b) : PySem.W.kitOne K (.ref C) (.ref H) = some b := by
  have step : PySem.W.kitCls K (.ref C) (.ref H) = some b := by
    have e := R2.exm (C := C) s
    unfold PySem.W.exmOne at e
    rw [R2.exC] at e
    rw [if_pos (by rfl)] at e
    exact e
  unfold PySem.W.kitOne
  by_cases h : (Value.ref C == Value.ref H) = true
  · rw [if_pos h]
    rcases hn with hb | hn
    · rw [hb]
    · obtain rfl : C = H := Value.ref.inj (beq_iff_eq.mp h)
      exact absurd (R1.name R2) hn
  · rw [if_neg h]; exact step
theorem kit_ve {b : Bool} (s : PySem.W.subIn K (.ref C) (.type "ValueError") = some b) : PySem.W.kitOne K (.ref C) (.type "ValueError") = some b := by
  have m : PySem.W.kitMeta "ValueError" = true := by decide +kernel
  unfold PySem.W.kitOne
  rw [if_neg (by simp)]
  show (if PySem.W.kitMeta "ValueError" = true then PySem.W.subIn K (.ref C) (.type "ValueError") else none) = some b
  rw [if_pos m]; exact s
/-- a table of classes, entry by entry -/
theorem tab_nil {mg : Str → Option Value} {R : Addr → Bool → Prop} : ∀ (c : Str) (b : Bool) (C : Addr), ([] : List (Str × Bool)).lookup c = some b → mg c = some (.ref C) → R C b := fun _ _ _ h => by cases h
theorem tab_cons {mg : Str → Option Value} {R : Addr → Bool → Prop} {c0 : Str} {b0 : Bool} {C0 : Addr} {l : List (Str × Bool)} (hm : mg c0 = some (.ref C0)) (h0 : R C0 b0) (hr : ∀ (c : Str) (b : Bool) (C : Addr), l.lookup c = some b → mg c = some (.ref C) → R C b) :
    ∀ (c : Str) (b : Bool) (C : Addr), ((c0, b0) :: l).lookup c = some b → mg c = some (.ref C) → R C b := by
  intro c b C h m
  rw [List.lookup_cons] at h
  cases e : c == c0 with
  | true =>
    rw [e] at h
    cases h
    obtain rfl := beq_iff_eq.mp e
    rw [hm] at m
    cases m
    exact h0
  | false => rw [e] at h; exact hr c b C h m
theorem mem_nil {mg : Str → Option Value} {R : Addr → Prop} : ∀ (c : Str) (C : Addr), c ∈ ([] : List Str) → mg c = some (.ref C) → R C := fun _ _ h => by cases h
theorem mem_cons {mg : Str → Option Value} {R : Addr → Prop} {c0 : Str} {C0 : Addr} {l : List Str} (hm : mg c0 = some (.ref C0)) (h0 : R C0) (hr : ∀ (c : Str) (C : Addr), c ∈ l → mg c = some (.ref C) → R C) :
    ∀ (c : Str) (C : Addr), c ∈ c0 :: l → mg c = some (.ref C) → R C := by
  intro c C h m
  rcases List.mem_cons.mp h with rfl | h
  · rw [hm] at m; cases m; exact h0
  · exact hr c C h m
end
end Zd

set_option Elab.async false
set_option linter.all false
set_option maxRecDepth 100000
set_option maxHeartbeats 4000000
set_option autoImplicit false
/-! Zd: own classes: fields, making, methods. -/
namespace Zd
open PySem PySem.Spec L2
open PyProof.Rows hiding St

/-! ### o.f -/
/-- an object: its class, fields, values -/
def asO (d : D) (S : Sto) : Option (Str × List Str × List D) := match d with
  | .obj c ks ds => some (c, ks, ds)
  | .cell n => match S[n]? with
    | some (.obj c ks ds) => some (c, ks, ds)
    | _ => none
  | _ => none
theorem asO_of {W : Wd} {ms : List Addr} {S : Sto} {H : Hp} {d : D} {v : V} {c : Str} {ks : List Str} {ds : List D} (st : StOk W ms S H) (r : Rp W ms (era ms H) v d) (h : asO d S = some (c, ks, ds)) :
    ∃ a C dx vs, v = .ref a ∧ W.mg c = some (.ref C) ∧ H a = some (.ins C dx (ks.zip vs)) ∧ ks.length = vs.length ∧ RpL W ms (era ms H) vs ds := by
  unfold asO at h
  split at h
  · cases h
    cases r with | obj a b e q => exact ⟨_, _, _, _, rfl, a, era_same _ _ _ _ b, e, q⟩
  · split at h
    · rename_i n _ _ _ hn
      cases h
      cases r with
      | cell a =>
        obtain ⟨C, dx, vs, g, e, l, q⟩ := st.readO a hn
        exact ⟨_, C, dx, vs, rfl, g, e, l, q⟩
    · cases h
  · cases h
def fldF (cs : List Str) (f : Str) (fe : EF) : EF := fun ρ S => (fe ρ S).bind fun d S1 => match asO d S1 with
  | some (c, ks, ds) => if c ∈ cs then match (ks.zip ds).lookup f with
    | some x => .ok x S1
    | none => .bad else .bad
  | none => .bad
section
variable {X : Cx} {Y : Yx}
theorem d_fld {cs : List Str} {f : Str} {e : Expr} {fe : EF} {pos : Pos} (T : ∀ (c : Str) (C : Addr), c ∈ cs → X.mg c = some (.ref C) → Cls X.K C ∧ NoAttr X.K C f) (he : DE X Y e fe) (hb : attributeBase e f X.env (eval e X.env) = eval e X.env := by rfl) : DE X Y (.Attribute e f pos) (fldF cs f fe) := by
  refine PE.weak (pe_fld he hb) fun σ H Q h => ?_
  obtain ⟨ms, S, ρ, ev, st, p⟩ := h
  unfold fldF at p
  refine ⟨ms, S, ρ, ev, st, Post.split p fun x S1 v ms1 H1 _ f1 s1 r1 p1 => ?_⟩
  cases ho : asO x S1 with
  | none => rw [ho] at p1; exact p1.elim
  | some o =>
    obtain ⟨c, ks, ds⟩ := o
    rw [ho] at p1
    dsimp only at p1
    split at p1
    · rename_i hc
      split at p1
      · rename_i y hy
        obtain ⟨a, C, dx, vs, rfl, g, hH, hl, q⟩ := asO_of s1 r1 ho
        obtain ⟨t1, t2⟩ := T c C hc g
        obtain ⟨w, e1, r2⟩ := RpL.lookup q hy
        exact ⟨a, C, dx, _, w, rfl, hH, t1, t2, e1, p1 w ms1 H1 (Fut.refl _ _) s1 r2⟩
      · exact p1.elim
    · exact p1.elim
end
/-! ### putting a field -/
def putK (f : Str) : List Str → List Str
  | [] => [f]
  | k :: ks => if k = f then k :: ks else k :: putK f ks
def putV {α : Type} (f : Str) (v : α) : List Str → List α → List α
  | [], _ => [v]
  | _ :: _, [] => []
  | k :: ks, x :: xs => if k = f then v :: xs else x :: putV f v ks xs
theorem putF_zip {f : Str} {v : V} : ∀ {ks : List Str} {vs : List V}, ks.length = vs.length → L2.putF f v (ks.zip vs) = (putK f ks).zip (putV f v ks vs)
  | [], [], _ => rfl
  | k :: ks, x :: vs, h => by
    have ih := putF_zip (f := f) (v := v) (ks := ks) (vs := vs) (by simpa using h)
    rw [List.zip_cons_cons]
    unfold L2.putF putK putV
    by_cases e : k = f
    · rw [if_pos e, if_pos e, if_pos e]; rfl
    · rw [if_neg e, if_neg e, if_neg e, ih]; rfl
theorem put_len {α : Type} {f : Str} {v : α} : ∀ {ks : List Str} {vs : List α}, ks.length = vs.length → (putK f ks).length = (putV f v ks vs).length
  | [], [], _ => rfl
  | k :: ks, x :: vs, h => by
    have ih := put_len (f := f) (v := v) (ks := ks) (vs := vs) (by simpa using h)
    unfold putK putV
    by_cases e : k = f
    · rw [if_pos e, if_pos e]; simpa using h
    · rw [if_neg e, if_neg e, List.length_cons, List.length_cons, ih]
theorem RpL.putV {W : Wd} {ms : List Addr} {G : Hp} {f : Str} {d : D} {v : V} (r : Rp W ms G v d) : ∀ {ks : List Str} {vs : List V} {ds : List D}, RpL W ms G vs ds → RpL W ms G (Zd.putV f v ks vs) (Zd.putV f d ks ds)
  | [], _, _, _ => .cons r .nil
  | k :: ks, _, [], h => by cases h; exact .nil
  | k :: ks, _, _ :: _, h => by
    cases h with
    | cons a b =>
      unfold Zd.putV
      by_cases e : k = f
      · rw [if_pos e, if_pos e]; exact .cons r b
      · rw [if_neg e, if_neg e]; exact .cons a (RpL.putV r b)
/-- o.f = e, o an owned object -/
def fstS (cs : List Str) (f : Str) (fe fo : EF) : SF := fun ρ S => (fe ρ S).st ρ fun y S1 => (fo ρ S1).st ρ fun d S2 => match d with
  | .cell n => match S2[n]? with
    | some (.obj c ks ds) => if c ∈ cs ∧ low n y = true ∧ ks.length < 1000 then .nx ρ (S2.set n (.obj c (putK f ks) (putV f y ks ds))) else .bad
    | _ => .bad
  | _ => .bad
section
variable {X : Cx} {Y : Yx}
theorem ds_fst {cs : List Str} {f : Str} {o e : Expr} {fe fo : EF} {pos pos' : Pos} (T : ∀ (c : Str) (C : Addr), c ∈ cs → X.mg c = some (.ref C) → Cls X.K C ∧ NoAttr X.K C f) (ho : DE X Y o fo) (he : DE X Y e fe)
    (hs : swapsWith e (some (.Attribute o f pos')) pos.line X.env = pure false := by rfl) : DS X Y (.Assign [.Attribute o f pos'] e pos) (fstS cs f fe fo) := by
  refine PS.weak (ps_fld ho he hs) fun Z σ H h => ?_
  obtain ⟨ms, S, ρ, ev, st, p⟩ := h
  refine ⟨ms, S, ρ, ev, st, PostS.split ev p fun y S1 v ms1 H1 _ f1 s1 r1 p1 => ?_⟩
  refine ⟨ms1, S1, ρ, ev.fut f1, s1, PostS.split (ev.fut f1) p1 fun d S2 x ms2 H2 _ f2 s2 r2 p2 => ?_⟩
  cases r2 with
  | @cell a n q =>
    dsimp only at p2
    cases hc : S2[n]? with
    | none => rw [hc] at p2; exact p2.elim
    | some cl =>
      rw [hc] at p2
      cases cl with
      | obj c ks ds =>
        dsimp only at p2
        split at p2
        · rename_i hh
          obtain ⟨h1, h2, h3⟩ := hh
          obtain ⟨C, dx, vs, g, e1, l, rr⟩ := s2.cell _ _ _ q hc
          obtain ⟨t1, t2⟩ := T c C h1 g
          refine ⟨a, C, dx, ks.zip vs, rfl, e1, t1, t2, by rw [List.length_zip]; omega, ?_⟩
          rw [putF_zip l]
          have hm := List.mem_of_getElem? q
          refine p2 σ ms2 _ (Fut.write hm) (s2.write q ⟨C, dx, _, g, upd_same, put_len l, ?_⟩) ((ev.fut (f1.trans f2)).fut (Fut.write hm))
          rw [era_write hm]
          exact RpL.putV (Rp.take _ _ h2 (Rp.fut r1 f2)) rr
        · exact p2.elim
      | lst _ => exact p2.elim
      | dic _ _ => exact p2.elim
      | dead => exact p2.elim
  | _ => exact p2.elim
end

/-! ### calls of any shape -/
/-- how values of a call lie among the parameters, the defaults put in -/
structure BD (K : PySem.W.Frag) (fd : FuncData) (ps : List Str) (n : Nat) (ks : List Str) (gD : List D → List D → List D) : Prop where
  ex : ∃ (g : List Value → List Value → List Value) (gV : List V → List V → List V), KBn K fd ps n ks g gV ∧
    ∀ (mg : Str → Option Value) (xi : Option (Addr × Value × Option Addr)) (ms : List Addr) (G : Hp) (vs zs : List V) (ds es : List D), RpL ⟨K, mg, xi⟩ ms G vs ds → RpL ⟨K, mg, xi⟩ ms G zs es → RpL ⟨K, mg, xi⟩ ms G (gV vs zs) (gD ds es)
theorem BD.plain {K : PySem.W.Frag} {fd : FuncData} {ps : List Str} {n : Nat} (h : Binds K fd ps []) (hn : n = ps.length) : BD K fd ps n [] (fun ds _ => ds) := by
  refine ⟨fun us _ => us, fun vs _ => vs, ⟨fun s us ws i l1 l2 => ?_, fun r _ => r⟩, fun mg xi ms G vs zs ds es r _ => r⟩
  have q := h s us i (by rw [List.append_nil]; omega)
  rw [List.append_nil] at q
  exact q
/-- all that a call has: values by place, by name -/
abbrev DK (X : Cx) (Y : Yx) (kws : List Keyword) (f : F (List D)) : Prop := PK X kws (tX (wd X Y) Y.wx (relL (wd X Y)) f)
theorem PK.weak {X : Cx} {e : List Keyword} {t t' : TA} (h : PK X e t) (w : ∀ σ H Q, t' σ H Q → t σ H Q) : PK X e t' := ⟨fun pos pins s σ H Q I q => h.run pos pins s σ H Q I (w σ H Q q)⟩
section
variable {X : Cx} {Y : Yx}
theorem dk_nil : DK X Y [] nilF := PK.weak pk_nil fun σ H Q ⟨ms, S, ρ, ev, st, p⟩ => p [] ms H (Fut.refl _ _) st .nil
theorem dk_cons {nm : Option Str} {e : Expr} {kpos : Pos} {kws : List Keyword} {fe : EF} {fs : F (List D)} (he : DE X Y e fe) (hs : DK X Y kws fs) : DK X Y (⟨nm, e, kpos⟩ :: kws) (consF fe fs) := by
  refine PK.weak (pk_cons he hs) fun σ H Q h => ?_
  obtain ⟨ms, S, ρ, ev, st, p⟩ := h
  refine ⟨ms, S, ρ, ev, st, Post.split p fun d S1 x ms1 H1 _ f1 s1 r1 p1 => ⟨ms1, S1, ρ, ev.fut f1, s1, Post.split p1 fun ds S2 xs ms2 H2 _ f2 s2 r2 p2 => ?_⟩⟩
  exact p2 (x :: xs) ms2 H2 (Fut.refl _ _) s2 (.cons (Rp.fut r1 f2) r2)
end
def argsF (n m : Nat) (k : List D → List D → Sto → R D) (fs fk : F (List D)) : EF := fun ρ S => (fs ρ S).bind fun ds S1 => (fk ρ S1).bind fun es S2 => if ds.length = n ∧ es.length = m then k ds es S2 else .bad
/-- where a call's values stand -/
def At2 (W : Wd) (Wx : WX) (σ : St) (ms : List Addr) (H : Hp) (n m : Nat) (k : List D → List D → Sto → R D) (Q : VK) (vs zs : List V) (H2 : Hp) : Prop :=
  vs.length = n ∧ zs.length = m ∧ ∃ ms2 S2 ds es, Fut ms H ms2 H2 ∧ StOk W ms2 S2 H2 ∧ RpL W ms2 (era ms2 H2) vs ds ∧ RpL W ms2 (era ms2 H2) zs es ∧ Post W (relD W) ms2 H2 (k ds es S2) Q (fun c d H' => Wx c d σ H')
theorem args_of {W : Wd} {Wx : WX} {n m : Nat} {k : List D → List D → Sto → R D} {fs fk : F (List D)} {σ : St} {ρ : Nv} {ms : List Addr} {S : Sto} {H : Hp} {Q : VK} (ev : Ev W ρ σ ms H) (st : StOk W ms S H)
    (p : Post W (relD W) ms H (argsF n m k fs fk ρ S) Q (fun c d H' => Wx c d σ H')) : tX W Wx (relL W) fs σ H fun vs H1 => tX W Wx (relL W) fk σ H1 fun zs H2 => At2 W Wx σ ms H n m k Q vs zs H2 := by
  refine ⟨ms, S, ρ, ev, st, Post.split p fun ds S1 vs ms1 H1 _ f1 s1 r1 p1 => ⟨ms1, S1, ρ, ev.fut f1, s1, Post.split p1 fun es S2 zs ms2 H2 _ f2 s2 r2 p2 => ?_⟩⟩
  split at p2
  · rename_i hl
    exact ⟨by rw [r1.length]; exact hl.1, by rw [r2.length]; exact hl.2, ms2, S2, ds, es, f1.trans f2, s2, RpL.fut r1 f2, r2, p2⟩
  · exact p2.elim
/-- the written places: none, or some -/
def Ar (X : Cx) (es : List Expr) (fs : F (List D)) : Prop := (es = [] ∧ fs = nilF) ∨ ∃ e r, es = e :: r ∧ starEach (e :: r) X.env = (false, eval e X.env) :: starEach r X.env
section
variable {X : Cx} {wx : WX} {pins : List (Addr × Obj)} {σ : St} {H : Hp} {s : Shared}
theorem cw_D {Y : Yx} {f : Addr} {first : List Value} {es : List Expr} {kws : List Keyword} {ks : List Str} {fs : F (List D)} {tk : TA} {pos : Pos} {Q : Value → Shared → Prop} {Z : List V → List V → Hp → Prop} (hk : PySem.W.keepIn X.K (.ref f) = true) (ha : DA X Y es fs) (hkw : PK X kws tk) (hs : Ar X es fs)
    (hall : (backToKw pos (keywordEach kws X.env)).all (·.1.isSome) = true) (hks : (backToKw pos (keywordEach kws X.env)).filterMap (·.1) = ks)
    (hpl : ((backTo pos (starEach es X.env)).any (·.1) || (backToKw pos (keywordEach kws X.env)).any (·.1.isNone)) = false) (I : Inv X pins σ H s)
    (q : tX (wd X Y) Y.wx (relL (wd X Y)) fs σ H fun vs H1 => tk σ H1 fun zs H2 => Z vs zs H2)
    (h : ∀ us ws vs zs H2 s2, Inv X pins σ H2 s2 → Vals vs us → Vals zs ws → Z vs zs H2 → wpAny (model X.prog X.w) X.A (call (.ref f) (first ++ us) (ks.zip ws)) Q X.xe s2) :
    wpAny (model X.prog X.w) X.A (callWith pos (.ref f) first (backTo pos (starEach es X.env)) (backToKw pos (keywordEach kws X.env))) Q X.xe s := by
  rcases hs with ⟨rfl, rfl⟩ | ⟨e, r, rfl, he⟩
  · obtain ⟨ms, S, ρ, ev, st, p⟩ := q
    have q1 := p [] ms H (Fut.refl _ _) st .nil
    refine PySem.W.callWith_KW0 (h₀ := X.base) I.ok.mod.kin hk hall (thn (hkw.run pos pins s σ H _ I q1) fun ws s2 ⟨zs, H2, I2, rz, z⟩ => ⟨I2.kIn, ?_⟩) hpl
    rw [hks]
    exact h [] ws [] zs H2 s2 I2 .nil rz z
  · refine PySem.W.callWith_KW (h₀ := X.base) I.ok.mod.kin hk hall (thn (ha.run pos pins s σ H _ I q) fun us s1 ⟨vs, H1, I1, r1, q1⟩ => ?_) hpl he
    refine thn (hkw.run pos pins s1 σ H1 _ I1 q1) fun ws s2 ⟨zs, H2, I2, rz, z⟩ => ⟨I2.kIn, ?_⟩
    rw [hks]
    exact h us ws vs zs H2 s2 I2 r1 rz z
/-- a def runs that asks for no guard -/
theorem run_G {A : Around} {k n : Nat} {f : Addr} {fd : FuncData} {ps ks : List Str} {sp : Sp} {g : List Value → List Value → List Value} {gV : List V → List V → List V} {Q : VK} {us ws : List Value} {vs zs : List V}
    (F : FnG X.prog X.w X.K X.mg X.base k f fd ps sp) (hr : Room k A) (gd : A.guards = some []) (e0 : Env0 X.prog X.w X.K X.mg X.base A X.stack s H) (tk : Takes X wx) (hb : KBn X.K fd ps n ks g gV)
    (I : Inv X pins σ H s) (r : Vals vs us) (rz : Vals zs ws) (l1 : vs.length = n) (l2 : zs.length = ks.length) (h : sp (gV vs zs) H Q (WE wx σ)) :
    codeAny (model X.prog X.w) A (.call (.ref f) ⟨us, ks.zip ws⟩) (fun r s' => match r with
      | .ok (.ret v) => EP X pins σ Q v s'
      | .ok _ => False
      | .error e => X.xe e s') s := by
  have bd := hb.to s us ws I.kIn (r.length.symm.trans l1) (rz.length.symm.trans l2)
  refine codeAny_mono (F.go A X.stack s H ⟨us, ks.zip ws⟩ (g us ws) (gV vs zs) Q (WE wx σ) hr gd e0 bd (hb.rel r rz) h) fun out s' q => ?_
  match out with
  | .error ex => exact passAt tk σ pins H s ex s' I q
  | .ok (.ret u) => exact I.after q
  | .ok .next => exact q.elim
  | .ok .brk => exact q.elim
  | .ok .cont => exact q.elim
end
section
variable {X : Cx} {pins : List (Addr × Obj)} {σ : St} {H : Hp} {s : Shared}
/-- .. and lets nothing out -/
theorem run_G0 {A : Around} {k n : Nat} {f : Addr} {fd : FuncData} {ps ks : List Str} {sp : Sp} {g : List Value → List Value → List Value} {gV : List V → List V → List V} {Q : VK} {us ws : List Value} {vs zs : List V}
    (F : FnG X.prog X.w X.K X.mg X.base k f fd ps sp) (hr : Room k A) (gd : A.guards = some []) (e0 : Env0 X.prog X.w X.K X.mg X.base A X.stack s H) (hb : KBn X.K fd ps n ks g gV)
    (I : Inv X pins σ H s) (r : Vals vs us) (rz : Vals zs ws) (l1 : vs.length = n) (l2 : zs.length = ks.length) (h : sp (gV vs zs) H Q (fun _ _ _ => False)) :
    codeAny (model X.prog X.w) A (.call (.ref f) ⟨us, ks.zip ws⟩) (fun r s' => match r with
      | .ok (.ret v) => EP X pins σ Q v s'
      | _ => False) s := by
  have bd := hb.to s us ws I.kIn (r.length.symm.trans l1) (rz.length.symm.trans l2)
  refine codeAny_mono (F.go A X.stack s H ⟨us, ks.zip ws⟩ (g us ws) (gV vs zs) Q _ hr gd e0 bd (hb.rel r rz) h) fun out s' q => ?_
  match out with
  | .error ex => obtain ⟨_, _, _, _, _, _, _, _, _, _, _, _, no⟩ := q; exact no
  | .ok (.ret u) => exact I.after q
  | .ok .next => exact q.elim
  | .ok .brk => exact q.elim
  | .ok .cont => exact q.elim
end
/-- a def by its name, called in a shape -/
structure KGs (P : Program) (w : World) (K : PySem.W.Frag) (mg : Str → Option Value) (base : Heap) (x : Str) (n : Nat) (ks : List Str) (gD : List D → List D → List D) (N : Nat) (Ff : DFun) (k : Nat) : Prop where
  ex : ∃ (f : Addr) (fd : FuncData) (ps : List Str), FnG P w K mg base k f fd ps (spD ⟨K, mg, none⟩ Ff N) ∧ mg x = some (.ref f) ∧ PySem.W.keepIn K (.ref f) = true ∧ BD K fd ps n ks gD
noncomputable def callKF (n m N : Nat) (gD : List D → List D → List D) (Ff : DFun) (fs fk : F (List D)) : EF := argsF n m (fun ds es S => if (gD ds es).length = N then Ff (gD ds es) S else .bad) fs fk
section
variable {X : Cx} {wx : WX}
theorem d_callK {x : Str} {n mm N k : Nat} {ks : List Str} {gD : List D → List D → List D} {Ff : DFun} {es : List Expr} {kws : List Keyword} {fs fk : F (List D)} {p pos : Pos} (h : KGs X.prog X.w X.K X.mg X.base x n ks gD N Ff k) (hr : Room k X.A) (gd : X.A.guards = some []) (tk : Takes X wx) (hg : Gl X x)
    (ha : DA X ⟨none, wx⟩ es fs) (hkw : DK X ⟨none, wx⟩ kws fk) (hs : Ar X es fs := by first | exact .inl ⟨rfl, rfl⟩ | exact .inr ⟨_, _, rfl, rfl⟩) (hdb : (x == ("__debug__" : Str)) = false := by decide)
    (hmm : ks.length = mm := by rfl) (hall : (backToKw pos (keywordEach kws X.env)).all (·.1.isSome) = true := by rfl) (hks : (backToKw pos (keywordEach kws X.env)).filterMap (·.1) = ks := by rfl)
    (hpl : ((backTo pos (starEach es X.env)).any (·.1) || (backToKw pos (keywordEach kws X.env)).any (·.1.isNone)) = false := by rfl) :
    DE X ⟨none, wx⟩ (.Call (.Name x p) es kws pos) (callKF n mm N gD Ff fs fk) := by
  subst hmm
  obtain ⟨f, fd, ps, F, hm, hk, g, gV, hb, hrel⟩ := h.ex
  constructor
  intro pins s σ H Q I q
  obtain ⟨ms, S, ρ, ev, st, pp⟩ := q
  refine wpAny_Call_Name_kw (ld_glob I hg hm ?_ hdb)
  refine cw_D hk ha hkw hs hall hks hpl I (args_of ev st pp) ?_
  rintro us ws vs zs H2 s2 I2 r1 rz ⟨l1, l2, ms2, S2, ds, es, f2, st2, rd, re, p2⟩
  dsimp only at p2
  split at p2
  · rename_i hN
    have rg := hrel X.mg none ms2 _ vs zs ds es rd re
    exact wpAny_call (run_G F hr gd I2.env0 tk hb I2 r1 rz l1 l2 ⟨by rw [rg.length]; exact hN, ms2, S2, _, rg, st2, p2⟩)
  · exact p2.elim
end
/-! ### making -/
/-- C(..): a new object, its __init__ Fi; keep: it stays a cell, else it is data from then on -/
def mkC (keep : Bool) (c : Str) (gD : List D → List D → List D) (Fi : DFun) (ds es : List D) (S : Sto) : R D := match Fi (gD (.cell S.length :: ds) es) (S ++ [.obj c [] []]) with
  | .ok .non S2 => if keep then .ok (.cell S.length) S2 else .ok (fz S.length S2 S2.length (.cell S.length)) (S2.take S.length)
  | .exc c' ks xs S2 => .exc c' ks (xs.map (fz S.length S2 S2.length)) (S2.take S.length)
  | _ => .bad
structure KC (P : Program) (w : World) (K : PySem.W.Frag) (mg : Str → Option Value) (base : Heap) (c : Str) (n : Nat) (ks : List Str) (gD : List D → List D → List D) (N : Nat) (Fi : DFun) (k : Nat) : Prop where
  ex : ∃ (C f : Addr) (fd : FuncData) (ps : List Str), mg c = some (.ref C) ∧ Mk K C f ∧ FnG P w K mg base k f fd ps (spD ⟨K, mg, none⟩ Fi N) ∧ BD K fd ps (n + 1) ks gD
noncomputable def makeF (keep : Bool) (c : Str) (n m N : Nat) (gD : List D → List D → List D) (Fi : DFun) (fs fk : F (List D)) : EF := argsF n m (fun ds es S => if (gD (.cell S.length :: ds) es).length = N then mkC keep c gD Fi ds es S else .bad) fs fk
theorem mk_of {W : Wd} {keep : Bool} {c : Str} {C x dx : Addr} {gD : List D → List D → List D} {Fi : DFun} {ms : List Addr} {S : Sto} {H : Hp} {ds es : List D} {vs zs : List V} {gV : List V → List V → List V} {N : Nat} {Q : VK} {E : XK}
    (hrel : ∀ (ms : List Addr) (G : Hp) (vs zs : List V) (ds es : List D), RpL W ms G vs ds → RpL W ms G zs es → RpL W ms G (gV vs zs) (gD ds es)) (hm : W.mg c = some (.ref C)) (hx : H x = none) (hdx : H dx = none) (ne : dx ≠ x)
    (st : StOk W ms S H) (rd : RpL W ms (era ms H) vs ds) (re : RpL W ms (era ms H) zs es) (hN : (gD (.cell S.length :: ds) es).length = N) (p : Post W (relD W) ms H (mkC keep c gD Fi ds es S) Q E) :
    spD W Fi N (gV (.ref x :: vs) zs) (upd (upd H dx (.own x)) x (.ins C dx [])) (fun v H3 => v = .non ∧ Q (.ref x) H3) E := by
  have f1 : Fut ms H ms (upd H dx (.own x)) := Fut.new st hdx
  have st1 : StOk W ms S (upd H dx (.own x)) := st.new hdx
  have hx1 : upd H dx (.own x) x = none := by rw [upd_ne (Ne.symm ne)]; exact hx
  have f2 : Fut ms (upd H dx (.own x)) (ms ++ [x]) (upd (upd H dx (.own x)) x (.ins C dx [])) := Fut.own hx1
  have st2 : StOk W (ms ++ [x]) (S ++ [.obj c [] []]) (upd (upd H dx (.own x)) x (.ins C dx [])) := by
    refine st1.own hx1 ⟨C, dx, [], hm, upd_same, rfl, .nil⟩
  have ff := f1.trans f2
  have atX : (ms ++ [x])[S.length]? = some x := by
    rw [← st.len, List.getElem?_append_right (Nat.le_refl _), Nat.sub_self]; rfl
  have rg := hrel (ms ++ [x]) _ (.ref x :: vs) zs (.cell S.length :: ds) es (.cons (.cell atX) (RpL.fut rd ff)) (RpL.fut re ff)
  refine ⟨by rw [rg.length]; exact hN, ms ++ [x], _, _, rg, st2, ?_⟩
  unfold mkC at p
  cases hF : Fi (gD (.cell S.length :: ds) es) (S ++ [.obj c [] []]) with
  | bad => rw [hF] at p; exact p.elim
  | exc c' ks xs S2 =>
    rw [hF] at p
    intro C' dd ms' H' f s xr
    obtain ⟨e1, g1⟩ := Fut.drop s st.len.symm (ff.trans f)
    have s1 := s.take S.length
    obtain ⟨gg, us, hz, hl, rr⟩ := xr
    have hz1 := era_take s S.length _ _ hz
    have rr1 : RpL W (ms'.take S.length) (era (ms'.take S.length) H') us (xs.map (fz S.length S2 S2.length)) := RpL.mapD (fun d v r => Rp.fz s S.length S2.length d v r) rr
    rw [e1] at s1 hz1 rr1
    exact p C' dd ms H' g1 s1 ⟨gg, us, hz1, hl, rr1⟩
  | ok d S2 =>
    rw [hF] at p
    intro v ms' H' f s r
    cases d with
    | non =>
      cases r
      refine ⟨rfl, ?_⟩
      have atX' : ms'[S.length]? = some x := by
        obtain ⟨l, rfl⟩ := f.ext
        exact pre_get atX
      cases keep with
      | true => exact p _ ms' H' (ff.trans f) s (.cell atX')
      | false =>
        obtain ⟨e1, g1⟩ := Fut.drop s st.len.symm (ff.trans f)
        have s1 := s.take S.length
        have r1 := Rp.fz s S.length S2.length (.cell S.length) (.ref x) (.cell atX')
        rw [e1] at s1 r1
        exact p _ ms H' g1 s1 r1
    | _ => exact p.elim
section
variable {X : Cx} {wx : WX}
theorem guards_make {A : Around} {C : Addr} {us : List Value} {kw : List (Str × Value)} (gd : A.guards = some []) : (A.under (.builtin "type.__call__" ⟨.ref C :: us, kw⟩)).guards = some [] := by
  unfold Around.under
  show _ = _
  rw [gd]
  rfl
theorem d_make {keep : Bool} {c : Str} {n mm N k : Nat} {ks : List Str} {gD : List D → List D → List D} {Fi : DFun} {es : List Expr} {kws : List Keyword} {fs fk : F (List D)} {p pos : Pos} (h : KC X.prog X.w X.K X.mg X.base c n ks gD N Fi k) (hr : Room (k + 1) X.A) (gd : X.A.guards = some []) (tk : Takes X wx) (hg : Gl X c)
    (ha : DA X ⟨none, wx⟩ es fs) (hkw : DK X ⟨none, wx⟩ kws fk) (hs : Ar X es fs := by first | exact .inl ⟨rfl, rfl⟩ | exact .inr ⟨_, _, rfl, rfl⟩) (hdb : (c == ("__debug__" : Str)) = false := by decide)
    (hmm : ks.length = mm := by rfl) (hall : (backToKw pos (keywordEach kws X.env)).all (·.1.isSome) = true := by rfl) (hks : (backToKw pos (keywordEach kws X.env)).filterMap (·.1) = ks := by rfl)
    (hpl : ((backTo pos (starEach es X.env)).any (·.1) || (backToKw pos (keywordEach kws X.env)).any (·.1.isNone)) = false := by rfl) :
    DE X ⟨none, wx⟩ (.Call (.Name c p) es kws pos) (makeF keep c n mm N gD Fi fs fk) := by
  subst hmm
  obtain ⟨C, f, fd, ps, hm, M, F, g, gV, hb, hrel⟩ := h.ex
  constructor
  intro pins s σ H Q I q
  obtain ⟨ms, S, ρ, ev, st, pp⟩ := q
  refine wpAny_Call_Name_kw (ld_glob I hg hm ?_ hdb)
  refine cw_D M.kp ha hkw hs hall hks hpl I (args_of ev st pp) ?_
  rintro us ws vs zs H2 s2 I2 r1 rz ⟨l1, l2, ms2, S2, ds, es, f2, st2, rd, re, p2⟩
  dsimp only at p2
  split at p2
  · rename_i hN
    have fr1 := I2.hok.fresh (Nat.le_succ s2.heap.objs.size)
    have fr2 := I2.hok.fresh (Nat.le_refl s2.heap.objs.size)
    have ne : s2.heap.objs.size ≠ s2.heap.objs.size + 1 := Nat.ne_of_lt (Nat.lt_succ_self _)
    have sp := mk_of (W := wd X ⟨none, wx⟩) (C := C) (gV := gV) (N := N) (fun ms G vs zs ds es a b => hrel X.mg none ms G vs zs ds es a b) hm fr1 fr2 ne st2 rd re hN p2
    have I3 := Inv.made (C := C) I2
    have run := run_G (us := Value.ref (s2.heap.objs.size + 1) :: us) (ws := ws) (vs := V.ref (s2.heap.objs.size + 1) :: vs) (zs := zs) F (hr.make C us (ks.zip ws)) (guards_make gd) (I3.env0.make C us (ks.zip ws)) tk hb I3 (.cons rfl r1) rz (by rw [List.length_cons, l1]) l2 sp
    refine wpAny_call (make_map (f := f) I2.kIn M.makes M.init (beq_iff_eq.mp M.fn) (codeAny_mono run fun r s' hq => ?_))
    match r with
    | .error e => exact hq
    | .ok (.ret u) =>
      obtain ⟨v, H', I4, rv, ev, q3⟩ := hq
      subst ev
      exact ⟨rv, ⟨V.ref (s2.heap.objs.size + 1), H', I4, rfl, q3⟩⟩
    | .ok .next => exact hq.elim
    | .ok .brk => exact hq.elim
    | .ok .cont => exact hq.elim
  · exact p2.elim
end

/-! ### methods -/
theorem zip_none {ks : List Str} {m : Str} (h : m ∉ ks) : ∀ vs : List V, (ks.zip vs).lookup m = none := by
  induction ks with
  | nil => intro vs; rfl
  | cons k ks ih =>
    intro vs
    cases vs with
    | nil => rfl
    | cons v vs =>
      rw [List.zip_cons_cons, List.lookup_cons]
      have : (m == k) = false := by
        rw [beq_eq_false_iff_ne]
        exact fun e => h (by rw [e]; exact List.mem_cons_self)
      rw [this]
      exact ih (fun q => h (List.mem_cons_of_mem _ q)) vs
/-- what one knows of the method m of class c (n: places behind self) -/
structure KM (P : Program) (w : World) (K : PySem.W.Frag) (mg : Str → Option Value) (base : Heap) (c m : Str) (n : Nat) (ks : List Str) (gD : List D → List D → List D) (N : Nat) (Ff : DFun) (k : Nat) : Prop where
  ex : ∃ (C f : Addr) (fd : FuncData) (ps : List Str), mg c = some (.ref C) ∧ Cls K C ∧ Meth K C m f ∧ FnG P w K mg base k f fd ps (spD ⟨K, mg, none⟩ Ff N) ∧ BD K fd ps (n + 1) ks gD
/-- o.m(..), by the class of o -/
noncomputable def mthO (m : Str) (n mm N : Nat) (gD : List D → List D → List D) (tab : List (Str × DFun)) (fo : EF) (fs fk : F (List D)) : EF := fun ρ S => (fo ρ S).bind fun d S1 => match asO d S1 with
  | some (c, fks, _) => match tab.lookup c with
    | some Ff => if m ∈ fks then .bad else argsF n mm (fun ds es S => if (gD (d :: ds) es).length = N then Ff (gD (d :: ds) es) S else .bad) fs fk ρ S1
    | none => .bad
  | none => .bad
section
variable {X : Cx} {wx : WX}
theorem d_mthO {m : Str} {n mm N k : Nat} {ks : List Str} {gD : List D → List D → List D} {tab : List (Str × DFun)} {o : Expr} {es : List Expr} {kws : List Keyword} {fo : EF} {fs fk : F (List D)} {apos pos : Pos} {pl : Sem Bool}
    (T : ∀ (c : Str) (Ff : DFun), tab.lookup c = some Ff → KM X.prog X.w X.K X.mg X.base c m n ks gD N Ff k) (hr : Room k X.A) (gd : X.A.guards = some []) (tk : Takes X wx)
    (ho : DE X ⟨none, wx⟩ o fo) (ha : DA X ⟨none, wx⟩ es fs) (hkw : DK X ⟨none, wx⟩ kws fk) (hs : Ar X es fs := by first | exact .inl ⟨rfl, rfl⟩ | exact .inr ⟨_, _, rfl, rfl⟩)
    (hmm : ks.length = mm := by rfl) (hall : (backToKw pos (keywordEach kws X.env)).all (·.1.isSome) = true := by rfl) (hks : (backToKw pos (keywordEach kws X.env)).filterMap (·.1) = ks := by rfl)
    (hpl : ((backTo pos (starEach es X.env)).any (·.1) || (backToKw pos (keywordEach kws X.env)).any (·.1.isNone)) = false := by rfl)
    (ht : eval (.Call (.Attribute o m apos) es kws pos) X.env = (do
      let ov ← eval o X.env
      standAt apos.atName
      let (f, first) ← holding [ov] (getMethod ov m pl)
      callWith pos f first (backTo pos (starEach es X.env)) (backToKw pos (keywordEach kws X.env))) := by rfl) :
    DE X ⟨none, wx⟩ (.Call (.Attribute o m apos) es kws pos) (mthO m n mm N gD tab fo fs fk) := by
  subst hmm
  constructor
  intro pins s σ H Q I q
  obtain ⟨ms, S, ρ, ev, st, pp⟩ := q
  unfold mthO at pp
  have q1 : tX (wd X ⟨none, wx⟩) wx (relD (wd X ⟨none, wx⟩)) fo σ H fun v H1 => ∃ ms1 S1 d c fks xs Ff, Ev (wd X ⟨none, wx⟩) ρ σ ms1 H1 ∧ StOk (wd X ⟨none, wx⟩) ms1 S1 H1 ∧ Rp (wd X ⟨none, wx⟩) ms1 (era ms1 H1) v d ∧ asO d S1 = some (c, fks, xs) ∧ tab.lookup c = some Ff ∧ m ∉ fks ∧
      Post (wd X ⟨none, wx⟩) (relD (wd X ⟨none, wx⟩)) ms1 H1 (argsF n ks.length (fun ds es S => if (gD (d :: ds) es).length = N then Ff (gD (d :: ds) es) S else .bad) fs fk ρ S1) Q (fun c d H' => wx c d σ H') := by
    refine ⟨ms, S, ρ, ev, st, Post.split pp fun d S1 v ms1 H1 _ f1 s1 r1 p1 => ?_⟩
    cases hc : asO d S1 with
    | none => rw [hc] at p1; exact p1.elim
    | some t =>
      obtain ⟨c, fks, xs⟩ := t
      rw [hc] at p1
      dsimp only at p1
      cases hF : tab.lookup c with
      | none => rw [hF] at p1; exact p1.elim
      | some Ff =>
        rw [hF] at p1
        dsimp only at p1
        split at p1
        · exact p1.elim
        · rename_i hmn
          exact ⟨ms1, S1, d, c, fks, xs, Ff, ev.fut f1, s1, r1, hc, hF, hmn, p1⟩
  refine PySem.W.methodCall_KW (pl := pl) (thn (ho.run pins s σ H _ I q1) fun u s1 ⟨v, H1, I1, rv, ms1, S1, d, c, fks, xs, Ff, ev1, st1, rd, hc, hF, hmn, p1⟩ => ?_) ht
  obtain ⟨C, f, fd, ps, hm, cl, me, F, g, gV, hb, hrel⟩ := (T c Ff hF).ex
  obtain ⟨a, C', dx, vs0, rfl, hm', hH, hl, _⟩ := asO_of st1 rd hc
  have hm'' : X.mg c = some (.ref C') := hm'
  rw [hm] at hm''
  cases hm''
  obtain rfl : u = Value.ref a := rv
  refine getmeth_ok I1 hH cl me (zip_none hmn vs0) ?_
  refine cw_D (first := [.ref a]) me.kp ha hkw hs hall hks hpl I1 (args_of ev1 st1 p1) ?_
  rintro us ws vs zs H2 s2 I2 r1 rz ⟨l1, l2, ms2, S2, ds, es, f2, st2, rd2, re, p2⟩
  dsimp only at p2
  split at p2
  · rename_i hN
    have rg := hrel X.mg none ms2 _ (.ref a :: vs) zs (d :: ds) es (.cons (Rp.fut rd f2) rd2) re
    exact wpAny_call (run_G (us := .ref a :: us) (vs := .ref a :: vs) F hr gd I2.env0 tk hb I2 (.cons rfl r1) rz (by rw [List.length_cons, l1]) l2 ⟨by rw [rg.length]; exact hN, ms2, S2, _, rg, st2, p2⟩)
  · exact p2.elim
end

/-! ### fields and properties -/
structure KP (P : Program) (w : World) (K : PySem.W.Frag) (mg : Str → Option Value) (base : Heap) (c f : Str) (Ff : DFun) (k : Nat) : Prop where
  ex : ∃ (C p g : Addr) (fd : FuncData) (ps : List Str), mg c = some (.ref C) ∧ Cls K C ∧ PropOf K C f p g ∧ FnG P w K mg base k g fd ps (spD ⟨K, mg, none⟩ Ff 1) ∧ BD K fd ps 1 [] (fun ds _ => ds)
/-- o.f: a field of the classes cs, a property of those of tab -/
def attF (cs : List Str) (tab : List (Str × DFun)) (f : Str) (fe : EF) : EF := fun ρ S => (fe ρ S).bind fun d S1 => match asO d S1 with
  | some (c, ks, ds) => if c ∈ cs then match (ks.zip ds).lookup f with
    | some x => .ok x S1
    | none => .bad else match tab.lookup c with
    | some Ff => (Ff [d] S1).bindN fun x S2 => .ok x S2
    | none => .bad
  | none => .bad
section
variable {X : Cx} {wx : WX}
theorem d_att {cs : List Str} {tab : List (Str × DFun)} {f : Str} {k : Nat} {e : Expr} {fe : EF} {pos : Pos} (T : ∀ (c : Str) (C : Addr), c ∈ cs → X.mg c = some (.ref C) → Cls X.K C ∧ NoAttr X.K C f) (T2 : ∀ (c : Str) (Ff : DFun), tab.lookup c = some Ff → KP X.prog X.w X.K X.mg X.base c f Ff k)
    (hr : Room (k + 1) X.A) (gd : X.A.guards = some []) (tk : Takes X wx) (he : DE X ⟨none, wx⟩ e fe) (hb : attributeBase e f X.env (eval e X.env) = eval e X.env := by rfl) : DE X ⟨none, wx⟩ (.Attribute e f pos) (attF cs tab f fe) := by
  constructor
  intro pins s σ H Q I q
  obtain ⟨ms, S, ρ, ev, st, pp⟩ := q
  unfold attF at pp
  have q1 : tX (wd X ⟨none, wx⟩) wx (relD (wd X ⟨none, wx⟩)) fe σ H fun v H1 => ∃ ms1 S1 d c ks xs, StOk (wd X ⟨none, wx⟩) ms1 S1 H1 ∧ Rp (wd X ⟨none, wx⟩) ms1 (era ms1 H1) v d ∧ asO d S1 = some (c, ks, xs) ∧
      ((c ∈ cs ∧ ∃ x, (ks.zip xs).lookup f = some x ∧ Post (wd X ⟨none, wx⟩) (relD (wd X ⟨none, wx⟩)) ms1 H1 (.ok x S1) Q (fun c d H' => wx c d σ H')) ∨
       ∃ Ff, tab.lookup c = some Ff ∧ Post (wd X ⟨none, wx⟩) (relD (wd X ⟨none, wx⟩)) ms1 H1 (Ff [d] S1) Q (fun _ _ _ => False)) := by
    refine ⟨ms, S, ρ, ev, st, Post.split pp fun d S1 v ms1 H1 _ f1 s1 r1 p1 => ?_⟩
    cases hc : asO d S1 with
    | none => rw [hc] at p1; exact p1.elim
    | some t =>
      obtain ⟨c, ks, xs⟩ := t
      rw [hc] at p1
      dsimp only at p1
      refine ⟨ms1, S1, d, c, ks, xs, s1, r1, hc, ?_⟩
      split at p1
      · rename_i hcs
        refine .inl ⟨hcs, ?_⟩
        cases hl : (ks.zip xs).lookup f with
        | none => rw [hl] at p1; exact p1.elim
        | some x => rw [hl] at p1; exact ⟨x, rfl, p1⟩
      · cases hF : tab.lookup c with
        | none => rw [hF] at p1; exact p1.elim
        | some Ff =>
          rw [hF] at p1
          refine .inr ⟨Ff, rfl, ?_⟩
          dsimp only at p1
          cases hz : Ff [d] S1 with
          | ok x S2 => rw [hz] at p1; exact p1
          | exc _ _ _ _ => rw [hz] at p1; exact p1.elim
          | bad => rw [hz] at p1; exact p1
  refine attr_of hb (thn (he.run pins s σ H _ I q1) fun u s1 ⟨v, H1, I1, rv, ms1, S1, d, c, ks, xs, st1, rd, hc, p1⟩ => ?_)
  obtain ⟨a, C', dx, vs0, rfl, hm', hH, hl, rf⟩ := asO_of st1 rd hc
  obtain rfl : u = Value.ref a := rv
  rcases p1 with ⟨hcs, x, hlk, p1⟩ | ⟨Ff, hF, p1⟩
  · obtain ⟨t1, t2⟩ := T c C' hcs hm'
    obtain ⟨w, e1, r2⟩ := RpL.lookup rf hlk
    exact getattr_ok I1 hH t1 t2 e1 fun u' s2 I2 ru => ⟨w, H1, I2, ru, p1 w ms1 H1 (Fut.refl _ _) st1 r2⟩
  · obtain ⟨C, p, g, fd, ps, hm, cl, hp, F, gg, gV, hb, hrel⟩ := (T2 c Ff hF).ex
    have hm'' : X.mg c = some (.ref C') := hm'
    rw [hm] at hm''
    cases hm''
    obtain ⟨mA, O, _, _, _, _⟩ := ins_get I1.hok hH
    obtain ⟨od, J, _⟩ := O.look
    obtain ⟨rest, hrec⟩ := hp.rec_
    have I2 := I1.tok (s1.toks + 1)
    have hcl : (PySem.W.clsIn X.K C').isSome = true := by
      obtain ⟨cd, hc, _⟩ := PySem.W.any_some cl.hd
      rw [hc]
      rfl
    have rg := hrel X.mg none ms1 _ [.ref a] [] [d] [] (.cons rd .nil) .nil
    refine PySem.W.get_bind I1.kIn J (PySem.W.plainGet_of (cl.get f)).1 (PySem.W.findObj_data hcl hp.at_ hp.get hp.tak) (PySem.W.plainGet_of (cl.get f)).2 (wpAny_call (PySem.W.prop_get (s := { s1 with toks := s1.toks + 1 }) I1.kIn hrec ?_))
    refine codeAny_mono (run_G0 (A := X.A.in1) (us := [.ref a]) (ws := []) (vs := [.ref a]) (zs := []) F hr.in1 gd I2.env0.in1 hb I2 (.cons rfl .nil) .nil rfl rfl ⟨by rw [rg.length]; rfl, ms1, S1, _, rg, st1, p1⟩) fun r s' hq => ?_
    match r with
    | .error er => exact hq.elim
    | .ok (.ret u) =>
      obtain ⟨v, H', I3, rv, q3⟩ := hq
      show wpAny _ _ (handedOut u) _ _ _
      rw [PySem.W.handedOut_of (handed_of rv)]
      exact wpAny_pure ⟨v, H', I3, rv, q3⟩
    | .ok .next => exact hq.elim
    | .ok .brk => exact hq.elim
    | .ok .cont => exact hq.elim
end

/-! ### isinstance(x, C), C an own class -/
/-- what isinstance asks of an object's class -/
structure InsC (K : PySem.W.Frag) (C : Addr) : Prop where
  cl : Cls K C
  ca : PySem.W.findIn K (.ref C) "__class__" = some (some (.builtin "object.__class__"))
  mo : PySem.W.mroIn K C (.type "object") = some true
  hn : PySem.W.specialIn K (.builtin "object.__class__") "__get__" = some (some (.builtin "getset_descriptor.__get__"))
  ht : PySem.W.takesIn K (.builtin "object.__class__") = some true
def isOF (tab : List (Str × Bool)) (fe : EF) : EF := fun ρ S => (fe ρ S).bind fun d S1 => match asO d S1 with
  | some (c, _, _) => match tab.lookup c with
    | some b => .ok (.bl b) S1
    | none => .bad
  | none => match tyN d S1 with
    | some _ => .ok (.bl false) S1
    | none => .bad
section
variable {X : Cx} {Y : Yx} {e : Expr} {p pos : Pos}
theorem d_isO {tab : List (Str × Bool)} {fe : EF} {nm : Str} {CC : Addr} {q : Pos} (hmC : X.mg nm = some (.ref CC)) (hgC : Gl X nm) (T : ∀ (c : Str) (b : Bool) (C : Addr), tab.lookup c = some b → X.mg c = some (.ref C) → InsC X.K C ∧ PySem.W.kitOne X.K (.ref C) (.ref CC) = some b)
    (B : ∀ t ∈ ["NoneType", "bool", "int", "str", "tuple", "list", "dict"], PySem.W.kitOne X.K (.type t) (.ref CC) = some false) (hg : Gl X "isinstance") (hm : X.mg "isinstance" = none) (he : DE X Y e fe) (hdn : (nm == ("__debug__" : Str)) = false := by decide)
    (h1 : starEach [e, .Name nm q] X.env = (false, eval e X.env) :: starEach [.Name nm q] X.env := by rfl) (h2 : starEach [.Name nm q] X.env = (false, eval (.Name nm q) X.env) :: starEach [] X.env := by rfl) (hpl : (backTo pos (starEach [.Name nm q] X.env)).any (·.1) = false := by rfl) :
    DE X Y (.Call (.Name "isinstance" p) [e, .Name nm q] [] pos) (isOF tab fe) := by
  refine PE.weak (pe_callB call_isi hg hm boot_isinstance (pa_cons he (pa_cons (pe_glob (v := .ref CC) hgC hmC rfl hdn) pa_nil h2) h1) (by decide) (by decide) h1 hpl) fun σ H Q h => ?_
  obtain ⟨ms, S, ρ, ev, st, p⟩ := h
  refine ⟨ms, S, ρ, ev, st, Post.split p fun d S1 v ms1 H1 _ f1 s1 r1 p1 => ?_⟩
  cases hc : asO d S1 with
  | some t =>
    obtain ⟨c, ks, xs⟩ := t
    rw [hc] at p1
    dsimp only at p1
    split at p1
    · rename_i b hb
      obtain ⟨a, C, dx, vs, rfl, g, hH, hl, _⟩ := asO_of s1 r1 hc
      obtain ⟨t1, t2⟩ := T c b C hb g
      exact ⟨.ref a, .ref CC, .ref C, .ref CC, b, rfl, .own CC, .base (.ins hH t1.cl t1.ca t1.hn t1.ht t1.mo), t2, p1.val s1 (.bl _)⟩
    · exact p1.elim
  | none =>
    rw [hc] at p1
    dsimp only at p1
    split at p1
    · rename_i t hb
      exact ⟨v, .ref CC, .type t, .ref CC, false, rfl, .own CC, tyN_of (W := wd X Y) s1 r1 hb, B t (tyN_mem hb), p1.val s1 (.bl _)⟩
    · exact p1.elim
end
end Zd

set_option Elab.async false
set_option linter.all false
set_option maxRecDepth 100000
set_option maxHeartbeats 4000000
set_option autoImplicit false
/-! Zd: operators by an own class's methods. -/
namespace Zd
open PySem PySem.Spec L2
open PyProof.Rows hiding St

/-- f does g, what it lets out is wished by wx -/
def OpS (X : Cx) (wx : WX) (f : Value → Value → Sem Value) (g : D → D → Sto → R D) : Prop :=
  ∀ (pins : List (Addr × Obj)) (s : Shared) (σ : St) (ms : List Addr) (S : Sto) (H : Hp) (x y : V) (v u : Value) (d e : D) (Q : VK), L2.Inv X pins σ H s → RelV x v → RelV y u → StOk (wd X ⟨none, wx⟩) ms S H →
    Rp (wd X ⟨none, wx⟩) ms (era ms H) x d → Rp (wd X ⟨none, wx⟩) ms (era ms H) y e → Post (wd X ⟨none, wx⟩) (relD (wd X ⟨none, wx⟩)) ms H (g d e S) Q (fun c dd H' => wx c dd σ H') → wpAny (model X.prog X.w) X.A (f v u) (EP X pins σ Q) X.xe s
section
variable {X : Cx} {wx : WX} {f : Value → Value → Sem Value} {g g' : D → D → Sto → R D} {r : R2} {a b c : Expr} {fa fb fc : EF} {pos : Pos}
theorem ops_of (ho : OpR X f r) (hr : OpD (wd X ⟨none, wx⟩) r g) : OpS X wx f g := fun pins s σ ms S H x y v u d e Q I rx ry st rd re p => ho pins s σ H x y v u Q I rx ry (hr ms S H x y d e Q _ st rd re p)
/-- both sides told -/
def Two (X : Cx) (wx : WX) (σ : St) (ms : List Addr) (H : Hp) (k : D → D → Sto → R D) (Q : VK) (x y : V) (H2 : Hp) : Prop :=
  ∃ ms2 S2 d e, Fut ms H ms2 H2 ∧ StOk (wd X ⟨none, wx⟩) ms2 S2 H2 ∧ Rp (wd X ⟨none, wx⟩) ms2 (era ms2 H2) x d ∧ Rp (wd X ⟨none, wx⟩) ms2 (era ms2 H2) y e ∧ Post (wd X ⟨none, wx⟩) (relD (wd X ⟨none, wx⟩)) ms2 H2 (k d e S2) Q (fun c dd H' => wx c dd σ H')
theorem two_args {σ : St} {H : Hp} {ρ : Nv} {ms : List Addr} {S : Sto} {Q : VK} {k : D → D → Sto → R D} (ev : Ev (wd X ⟨none, wx⟩) ρ σ ms H) (st : StOk (wd X ⟨none, wx⟩) ms S H)
    (p : Post (wd X ⟨none, wx⟩) (relD (wd X ⟨none, wx⟩)) ms H (binF k fa fb ρ S) Q (fun c dd H' => wx c dd σ H')) :
    tX (wd X ⟨none, wx⟩) wx (relD (wd X ⟨none, wx⟩)) fa σ H fun x H1 => tX (wd X ⟨none, wx⟩) wx (relD (wd X ⟨none, wx⟩)) fb σ H1 fun y H2 => Two X wx σ ms H k Q x y H2 :=
  ⟨ms, S, ρ, ev, st, Post.split p fun d S1 x ms1 H1 _ f1 s1 r1 p1 => ⟨ms1, S1, ρ, ev.fut f1, s1, Post.split p1 fun e S2 y ms2 H2 _ f2 s2 r2 p2 => ⟨ms2, S2, d, e, f1.trans f2, s2, Rp.fut r1 f2, r2, p2⟩⟩⟩
theorem d_opS {op : Operator} (ho : OpS X wx (binaryOp op) g) (ha : DE X ⟨none, wx⟩ a fa) (hb : DE X ⟨none, wx⟩ b fb) : DE X ⟨none, wx⟩ (.BinOp a op b pos) (binF g fa fb) := by
  constructor
  intro pins s σ H Q I ⟨ms, S, ρ, ev, st, p⟩
  exact wpAny_BinOp (binT ha hb I (two_args ev st p) fun v u s2 x y H2 I2 rx ry ⟨ms2, S2, d, e, _, st2, rd, re, p2⟩ => ho pins s2 σ ms2 S2 H2 x y v u d e Q I2 rx ry st2 rd re p2)
theorem d_cmpS {op : CmpOp} (ho : OpS X wx (compareOp op) g) (ha : DE X ⟨none, wx⟩ a fa) (hb : DE X ⟨none, wx⟩ b fb) (hm : behindInMarks op b = false) : DE X ⟨none, wx⟩ (.Compare a [op] [b] pos) (binF g fa fb) := by
  constructor
  intro pins s σ H Q I ⟨ms, S, ρ, ev, st, p⟩
  exact wpAny_Compare1 (binT ha hb I (two_args ev st p) fun v u s2 x y H2 I2 rx ry ⟨ms2, S2, d, e, _, st2, rd, re, p2⟩ => ho pins s2 σ ms2 S2 H2 x y v u d e Q I2 rx ry st2 rd re p2) hm
theorem d_cmpTS {op : CmpOp} (ho : OpS X wx (compareOp op) g) (ha : DE X ⟨none, wx⟩ a fa) (hb : DE X ⟨none, wx⟩ b fb) (hm : behindInMarks op b = false) : DT X ⟨none, wx⟩ (.Compare a [op] [b] pos) (tstF (binF g fa fb)) := by
  constructor
  intro pins s σ H Q I h
  have h2 := tst_of h
  obtain ⟨ms, S, ρ, ev, st, p⟩ := h2
  have q := two_args ev st p
  refine wpAny_isTrue_Compare1 (thn (ha.run pins s σ H _ I q) fun v s1 ⟨x, H1, I1, r1, q1⟩ => thn (hb.run pins s1 σ H1 _ I1 q1) fun u s2 ⟨y, H2, I2, r2, ms2, S2, d, e, _, st2, rd, re, p2⟩ => thn (ho pins s2 σ ms2 S2 H2 x y v u d e _ I2 r1 r2 st2 rd re p2) fun cc s3 ⟨z, H3, I3, r3, k, ez, q3⟩ => ?_) hm
  subst ez
  cases r3
  exact wpAny_truthy_bool ⟨H3, I3, q3⟩

/-! ### a method runs -/
section
variable {pins : List (Addr × Obj)} {σ : St} {H : Hp} {s : Shared}
theorem meth_run {k n N : Nat} {m : Addr} {fd : FuncData} {ps : List Str} {Ff : DFun} {us : List Value} {vs : List V} {ds : List D} {ms : List Addr} {S : Sto} {Q : VK} {A : Around} (F : FnG X.prog X.w X.K X.mg X.base k m fd ps (spD ⟨X.K, X.mg, none⟩ Ff N)) (bd : BD X.K fd ps n [] (fun ds _ => ds)) (hr : Room k A) (gd : A.guards = some [])
    (e0 : Env0 X.prog X.w X.K X.mg X.base A X.stack s H) (tk : Takes X wx) (I : L2.Inv X pins σ H s) (r : Vals vs us) (l : vs.length = n) (hN : ds.length = N) (st : StOk (wd X ⟨none, wx⟩) ms S H) (rd : RpL (wd X ⟨none, wx⟩) ms (era ms H) vs ds)
    (p : Post (wd X ⟨none, wx⟩) (relD (wd X ⟨none, wx⟩)) ms H (Ff ds S) Q (fun c dd H' => wx c dd σ H')) : wpAny (model X.prog X.w) A (call (.ref m) us) (EP X pins σ Q) X.xe s := by
  obtain ⟨g, gV, hb, hrel⟩ := bd.ex
  have rg := hrel X.mg none ms _ vs [] ds [] rd .nil
  exact wpAny_call (run_G (ws := []) (zs := []) F hr gd e0 tk hb I r .nil l rfl ⟨by rw [rg.length]; exact hN, ms, S, _, rg, st, p⟩)
end
end

/-- what an operator of the class C asks besides -/
structure OpC (K : PySem.W.Frag) (C : Addr) (nm : String) : Prop where
  sf : PySem.W.selfFirst K C = true
  rc : ∃ rc, PySem.W.findIn K (.ref C) (dunderR nm) = some rc ∧ (rc = none ∨ ∃ g : Addr, rc = some (.ref g))
  bt : ∀ T ∈ ["NoneType", "bool", "int", "str", "tuple", "list", "dict"], (∃ fo, PySem.W.findIn K (.type T) (PySem.dunder nm) = some fo) ∧ (∃ ro, PySem.W.findIn K (.type T) (dunderR nm) = some ro) ∧ PySem.W.subIn K (.type T) (.ref C) = some false
/-- the right operand: an object of the same class, or one of a built-in type -/
def okR (c : Str) (e : D) (S : Sto) : Bool := match asO e S with
  | some (c', _, _) => c' == c
  | none => (tyN e S).isSome
def opO (tab : List (Str × DFun)) (g : D → D → Sto → R D) (d e : D) (S : Sto) : R D := match asO d S with
  | some (c, _, _) => match tab.lookup c with
    | some Ff => if okR c e S then Ff [d, e] S else .bad
    | none => .bad
  | none => g d e S
section
variable {prog : Program} {w : World} {A : Around} {E : Value → Shared → Prop} {s : Shared} {K : PySem.W.Frag} {x C f : Addr} {ox : Obj} {od : Option Obj}
open PySem.W in
/-- the right operand's type is a built-in one, looked up in the heap -/
theorem bin_ty {op : Operator} {T : String} {b : Value} {fo ro rc : Option Value} {Q : Value → Shared → Prop} (X : K.In s.heap) (I : InstAt s.heap x ox C od) (hb : Looks (model prog w) s.heap (typeOf b) (.type T)) (hc : selfFirst K C = true)
    (hs : findIn K (.ref C) (PySem.dunder op.info.2) = some (some (.ref f))) (hf : isFn K (.ref f) = true) (hr : findIn K (.ref C) (dunderR op.info.2) = some rc) (hp : rc = none ∨ ∃ g : Addr, rc = some (.ref g))
    (h1 : findIn K (.type T) (PySem.dunder op.info.2) = some fo) (h2 : findIn K (.type T) (dunderR op.info.2) = some ro) (hsub : subIn K (.type T) (.ref C) = some false)
    (h : wpAny (model prog w) A (call (.ref f) [.ref x, b]) (PySem.W.CmpBack Q) E s) : wpAny (model prog w) A (binaryOp op (.ref x) b) Q E s := by
  obtain ⟨cls, more, hcls, hmro⟩ := ksp_first hc
  rcases hi : op.info with ⟨sign, word⟩
  rw [hi] at hs hr h1 h2
  dsimp only at hs hr h1 h2
  have once := ksp_try X I hs hf h
  obtain ⟨hh, gs, dr, tt, os⟩ := s
  have K1 : Looks (model prog w) hh (typeOf (.ref x)) (.ref C) := I.type
  have K2 : Looks (model prog w) hh (typeOf b) (.type T) := hb
  have K3 : Looks (model prog w) hh (fillsNumberSlot (.ref C) word) true := fills_K X hcls hmro hs
  have K4 : Looks (model prog w) hh (fillsNumberSlot (.type T) word) ((fo.isSome && !isSeqSlot fo) || (ro.isSome && !isSeqSlot ro)) := ksp_fillsT X h1 h2
  have K5 : Looks (model prog w) hh (isSubtype (.type T) (.ref C)) false := looks_subIn X hsub
  have K6 : Looks (model prog w) hh (numberSlotInPython (.ref C) word) true := ksp_inPy X hs hr hp
  have K7 : Looks (model prog w) hh (numberSlotInPython (.type T) word) false := Looks.of_pure rfl
  have K8 : Looks (model prog w) hh (typeLookup (.type T) (dunderR word)) ro := looks_findIn X h2
  generalize ((fo.isSome && !isSeqSlot fo) || (ro.isSome && !isSeqSlot ro)) = onRight at K4
  have differ : (Value.ref C == Value.type T) = false := Bool.eq_false_iff.mpr fun q => by cases beq_iff_eq.mp q
  simp only [binaryOp, hi]
  refine wpAny_holding (wpAny_bind ?_)
  unfold binaryOp1
  refine wpAny_bind (K1.at (wpAny_bind (K2.at (wpAny_bind (K3.at ?_)))))
  simp only [differ, Bool.false_eq_true, if_false]
  cases onRight with
  | false =>
    ksp_lk
    refine wpAny_mono once (fun r s' z => ?_) fun _ _ e => e
    obtain ⟨v, rfl, hq⟩ := z
    ksp_lk
    exact hq
  | true =>
    ksp_lk
    refine wpAny_mono once (fun r s' z => ?_) fun _ _ e => e
    obtain ⟨v, rfl, hq⟩ := z
    ksp_lk
    exact hq
end
section
variable {X : Cx} {wx : WX}
theorem back_of {pins : List (Addr × Obj)} {σ : St} {Q : VK} {v : Value} {s' : Shared} (h : EP X pins σ Q v s') : PySem.W.CmpBack (EP X pins σ Q) v s' := by
  obtain ⟨z, H', I', rz, qz⟩ := h
  exact SlX.cmpback rz ⟨z, H', I', rz, qz⟩
/-- the type of the right operand -/
theorem okR_ty {c : Str} {C : Addr} {e : D} {y : V} {u : Value} {ms : List Addr} {S : Sto} {H : Hp} {s : Shared} {pins : List (Addr × Obj)} {σ : St} (hm : X.mg c = some (.ref C)) (I : L2.Inv X pins σ H s) (ry : RelV y u) (st : StOk (wd X ⟨none, wx⟩) ms S H) (re : Rp (wd X ⟨none, wx⟩) ms (era ms H) y e) (ok : okR c e S = true) :
    PySem.W.Looks (model X.prog X.w) s.heap (typeOf u) (.ref C) ∨ ∃ T ∈ ["NoneType", "bool", "int", "str", "tuple", "list", "dict"], PySem.W.Looks (model X.prog X.w) s.heap (typeOf u) (.type T) := by
  unfold okR at ok
  cases hc : asO e S with
  | some t =>
    obtain ⟨c', ks, xs⟩ := t
    rw [hc] at ok
    obtain rfl : c' = c := by simpa using ok
    obtain ⟨a, C', dx, vs, rfl, hm', hH, _⟩ := asO_of st re hc
    have hm'' : X.mg c' = some (.ref C') := hm'
    rw [hm] at hm''
    cases hm''
    obtain rfl : u = Value.ref a := ry
    obtain ⟨mA, O, _⟩ := ins_get I.hok hH
    obtain ⟨od, J, _⟩ := O.look
    exact .inl J.type
  | none =>
    rw [hc] at ok
    obtain ⟨T, hT⟩ := Option.isSome_iff_exists.mp ok
    obtain ⟨P, Z, p, _⟩ := kit_of I ry (tyN_of (W := wd X ⟨none, wx⟩) st re hT)
    exact .inr ⟨T, tyN_mem hT, Z.ty _ _ I.kIn p⟩
theorem op_O {op : Operator} {m : Str} {k : Nat} {tab : List (Str × DFun)} {g : D → D → Sto → R D} (hm : PySem.dunder op.info.2 = m) (T : ∀ (c : Str) (Ff : DFun), tab.lookup c = some Ff → KM X.prog X.w X.K X.mg X.base c m 1 [] (fun ds _ => ds) 2 Ff k ∧ ∀ C, X.mg c = some (.ref C) → OpC X.K C op.info.2)
    (hr : Room k X.A) (gd : X.A.guards = some []) (tk : Takes X wx) (hg : OpS X wx (binaryOp op) g) : OpS X wx (binaryOp op) (opO tab g) := by
  intro pins s σ ms S H x y v u d e Q I rx ry st rd re p
  unfold opO at p
  cases hc : asO d S with
  | none => rw [hc] at p; exact hg pins s σ ms S H x y v u d e Q I rx ry st rd re p
  | some t =>
    obtain ⟨c, ks, xs⟩ := t
    rw [hc] at p
    dsimp only at p
    cases hF : tab.lookup c with
    | none => rw [hF] at p; exact p.elim
    | some Ff =>
      rw [hF] at p
      dsimp only at p
      split at p
      · rename_i ok
        obtain ⟨hk, hC⟩ := T c Ff hF
        obtain ⟨C, f, fd, ps, hmC, cl, me, F, bd⟩ := hk.ex
        obtain ⟨a, C', dx, vs, rfl, hm', hH, hl, _⟩ := asO_of st rd hc
        have hm'' : X.mg c = some (.ref C') := hm'
        rw [hmC] at hm''
        cases hm''
        obtain rfl : v = Value.ref a := rx
        obtain ⟨mA, O, _⟩ := ins_get I.hok hH
        obtain ⟨od, J, _⟩ := O.look
        obtain ⟨mm, hFr⟩ := I.fr
        have run := meth_run (us := [.ref a, u]) (vs := [.ref a, y]) (ds := [d, e]) F bd hr gd I.env0 tk I (.cons rfl (.cons ry .nil)) rfl rfl st (.cons rd (.cons re .nil)) p
        have run2 := wpAny_mono run (fun z s' q => back_of q) fun _ _ q => q
        have oc := hC _ hmC
        rcases okR_ty hmC I ry st re ok with hty | ⟨T, hT, hty⟩
        · exact PySem.W.binop_K hFr I.ok.mod.kin J hty oc.sf (by rw [hm]; exact me.at_) me.fn run2
        · obtain ⟨rc, hrc, hp⟩ := oc.rc
          obtain ⟨⟨fo, h1⟩, ⟨ro, h2⟩, h3⟩ := oc.bt T hT
          exact bin_ty I.kIn J hty oc.sf (by rw [hm]; exact me.at_) me.fn hrc hp h1 h2 h3 run2
      · exact p.elim

/-! ### == and != -/
/-- what == of the class C asks besides: no class among the right operands is below it -/
structure EqC (K : PySem.W.Frag) (C : Addr) : Prop where
  bt : ∀ T ∈ ["NoneType", "bool", "int", "str", "tuple", "list", "dict"], PySem.W.subIn K (.type T) (.ref C) = some false
theorem EqC.first {K : PySem.W.Frag} {C : Addr} (h : EqC K C) {T : String} (hT : T ∈ ["NoneType", "bool", "int", "str", "tuple", "list", "dict"]) : PySem.W.notFirst K C (.type T) = true := by
  unfold PySem.W.notFirst
  rw [h.bt T hT]
  simp
def eqO (tab : List (Str × DFun)) (g : D → D → Sto → R D) (d e : D) (S : Sto) : R D := opO tab g d e S
theorem eq_O {k : Nat} {tab : List (Str × DFun)} {g : D → D → Sto → R D} (T : ∀ (c : Str) (Ff : DFun), tab.lookup c = some Ff → KM X.prog X.w X.K X.mg X.base c "__eq__" 1 [] (fun ds _ => ds) 2 Ff k ∧ ∀ C, X.mg c = some (.ref C) → EqC X.K C)
    (hr : Room k X.A) (gd : X.A.guards = some []) (tk : Takes X wx) (hg : OpS X wx (compareOp .Eq) g) : OpS X wx (compareOp .Eq) (eqO tab g) := by
  intro pins s σ ms S H x y v u d e Q I rx ry st rd re p
  unfold eqO opO at p
  cases hc : asO d S with
  | none => rw [hc] at p; exact hg pins s σ ms S H x y v u d e Q I rx ry st rd re p
  | some t =>
    obtain ⟨c, ks, xs⟩ := t
    rw [hc] at p
    dsimp only at p
    cases hF : tab.lookup c with
    | none => rw [hF] at p; exact p.elim
    | some Ff =>
      rw [hF] at p
      dsimp only at p
      split at p
      · rename_i ok
        obtain ⟨hk, hC⟩ := T c Ff hF
        obtain ⟨C, f, fd, ps, hmC, cl, me, F, bd⟩ := hk.ex
        obtain ⟨a, C', dx, vs, rfl, hm', hH, hl, _⟩ := asO_of st rd hc
        have hm'' : X.mg c = some (.ref C') := hm'
        rw [hmC] at hm''
        cases hm''
        obtain rfl : v = Value.ref a := rx
        obtain ⟨mA, O, _⟩ := ins_get I.hok hH
        obtain ⟨od, J, _⟩ := O.look
        obtain ⟨mm, hFr⟩ := I.fr
        have run := meth_run (us := [.ref a, u]) (vs := [.ref a, y]) (ds := [d, e]) F bd hr gd I.env0 tk I (.cons rfl (.cons ry .nil)) rfl rfl st (.cons rd (.cons re .nil)) p
        have run2 := wpAny_mono run (fun z s' q => back_of q) fun _ _ q => q
        have ec := hC _ hmC
        show wpAny _ _ (richCompare .Eq _ _) _ _ _
        rcases okR_ty hmC I ry st re ok with hty | ⟨T, hT, hty⟩
        · exact PySem.W.cmp_K (op := .Eq) hr.units0 hFr I.ok.mod.kin J hty (by simp [PySem.W.notFirst]) me.at_ me.fn run2
        · exact PySem.W.cmp_K (op := .Eq) hr.units0 hFr I.ok.mod.kin J hty (ec.first hT) me.at_ me.fn run2
      · exact p.elim
end
section
variable {prog : Program} {w : World} {A : Around} {E : Value → Shared → Prop} {s : Shared} {K : PySem.W.Frag} {x C f : Addr} {ox : Obj} {od : Option Obj}
open PySem.W in
/-- x != y where the class has an own == and object's != -/
theorem try_ne {y : Value} {Q : Value → Shared → Prop} (X : K.In s.heap) (I : InstAt s.heap x ox C od) (hn : findIn K (.ref C) "__ne__" = some (some (.builtin "object.__ne__"))) (ho : subIn K (.ref C) (.type "object") = some true)
    (hs : findIn K (.ref C) "__eq__" = some (some (.ref f))) (hf : isFn K (.ref f) = true) (hu : A.units + 1 < cLine)
    (h : wpAny (model prog w) A.in1 (call (.ref f) [.ref x, y]) (fun v s' => ∃ b, v = .bool b ∧ Q (.bool (!b)) s') E s) : wpAny (model prog w) A (tryCompare (.ref x) "__ne__" y) (fun r s' => ∃ v, r = some v ∧ Q v s') E s := by
  have isO : Looks (model prog w) s.heap (isInstance (.ref x) (.type "object")) true := I.type.andThen (looks_subIn X ho)
  have called : wpAny (model prog w) A (call (.builtin "object.__ne__") [.ref x, y]) (fun v s' => v ≠ .notImplemented ∧ Q v s') E s := by
    refine wpAny_call (codeAny_call_builtin PySem.F.cmp_object.ne.plain PySem.F.cmpEntry_ne ?_)
    refine check_slot (M := model prog w) PySem.F.cmpKind_ne PySem.F.cmpSplit_ne isO (PySem.F.cmpArgs_ne _ _) ?_
    unfold Builtin.«object.__ne__»
    refine wpAny_bind ?_
    refine wpAny_of_eq (a := ((Value.ref x : Value), [y])) (by first | rfl | (simp only [slotArgs]; rfl)) ?_
    dsimp only
    refine wpAny_bind (wpAny_cRoomFor (by simpa using hu) ?_)
    refine wpAny_bind (ifBound_K X I hs hf (wpAny_mono h (fun v s' hv => ?_) fun _ _ e => e))
    obtain ⟨b, rfl, q⟩ := hv
    dsimp only
    refine wpAny_bind (wpAny_truthy_bool ?_)
    exact wpAny_pure ⟨(fun z => nomatch z), q⟩
  unfold tryCompare
  refine wpAny_bind ?_
  simp only [callSpecialIfBound?, bindSpecialIfBound?]
  refine wpAny_holding (wpAny_bind (wpAny_bind (wpAny_bind (I.type.here ((looks_findIn X hn).here ?_)))))
  refine wpAny_bind (wpAny_askSetting (wpAny_ite ?_))
  have fin : wpAny (model prog w) A (call (.builtin "object.__ne__") ([.ref x] ++ [y]) >>= fun v => pure (some v)) (fun r s' => ∃ v, r = some v ∧ v ≠ .notImplemented ∧ Q v s') E s := wpAny_bind (wpAny_mono called (fun v s' z => wpAny_pure ⟨v, rfl, z⟩) fun _ _ e => e)
  have fin2 : wpAny (model prog w) A (call (.builtin "object.__ne__") ([.ref x] ++ [y]) >>= fun v => pure (some v)) (fun r s' => wpAny (model prog w) A (match r with | some Value.notImplemented => pure none | none => pure none | some v => pure (some v)) (fun r s' => ∃ v, r = some v ∧ Q v s') E s') E s := by
    refine wpAny_mono fin (fun r s' z => ?_) fun _ _ e => e
    obtain ⟨v, rfl, nv, q⟩ := z
    cases v <;> first | exact absurd rfl nv | exact wpAny_pure ⟨_, rfl, q⟩
  have bnd : bindSpecial (.builtin "object.__ne__") (.ref x) = pure (.builtin "object.__ne__", [.ref x]) := PySem.F.cmp_object.ne.bind _
  split
  · rw [bnd]
    exact wpAny_bind (wpAny_pure (wpAny_pure fin2))
  · rw [bnd]
    exact wpAny_tryCatch (wpAny_bind (wpAny_pure (wpAny_pure fin2)))
open PySem.W in
theorem ne_K {b : Value} {tb : Value} {Q : Value → Shared → Prop} (X : K.In s.heap) (I : InstAt s.heap x ox C od) (hb : Looks (model prog w) s.heap (typeOf b) tb) (hfirst : notFirst K C tb = true) (hn : findIn K (.ref C) "__ne__" = some (some (.builtin "object.__ne__"))) (ho : subIn K (.ref C) (.type "object") = some true)
    (hs : findIn K (.ref C) "__eq__" = some (some (.ref f))) (hf : isFn K (.ref f) = true) (hu : A.units + 1 < cLine)
    (h : wpAny (model prog w) A.in1 (call (.ref f) [.ref x, b]) (fun v s' => ∃ k, v = .bool k ∧ Q (.bool (!k)) s') E s) : wpAny (model prog w) A (richCompare .NotEq (.ref x) b) Q E s := by
  have one := try_ne X I hn ho hs hf hu h
  have u0 : A.units < cLine := by omega
  unfold richCompare
  simp only [oneThing_ref]
  refine wpAny_holding (wpAny_bind (wpAny_cRoomFor u0 ?_))
  refine wpAny_bind (I.type.here (wpAny_bind (hb.here ?_)))
  have tail : wpAny (model prog w) A (tryCompare (.ref x) (cmpInfo .NotEq).2.1 b) (fun r s' => ∃ v, r = some v ∧ Q v s') E s := one
  split
  · rename_i q
    have e : subIn K tb (.ref C) = some false := by
      rcases Bool.or_eq_true_iff.mp hfirst with e | e
      · rw [beq_iff_eq.mp e] at q; simp at q
      · exact beq_iff_eq.mp e
    refine wpAny_bind ((looks_subIn X e).here ?_)
    simp only [Bool.false_eq_true, if_false]
    refine wpAny_bind (wpAny_mono tail (fun r s' z => ?_) fun _ _ e => e)
    obtain ⟨v, rfl, hq⟩ := z
    exact wpAny_pure hq
  · refine wpAny_bind (wpAny_pure ?_)
    simp only [Bool.false_eq_true, if_false]
    refine wpAny_bind (wpAny_mono tail (fun r s' z => ?_) fun _ _ e => e)
    obtain ⟨v, rfl, hq⟩ := z
    exact wpAny_pure hq
end
/-- what != asks besides -/
structure NeC (K : PySem.W.Frag) (C : Addr) : Prop extends EqC K C where
  ne : PySem.W.findIn K (.ref C) "__ne__" = some (some (.builtin "object.__ne__"))
  ob : PySem.W.subIn K (.ref C) (.type "object") = some true
/-- a result that is True or False, turned -/
def R.flip (r : R D) : R D := match r with
  | .ok (.bl b) S => .ok (.bl (!b)) S
  | .exc c ks ds S => .exc c ks ds S
  | _ => .bad
def neO (tab : List (Str × DFun)) (g : D → D → Sto → R D) (d e : D) (S : Sto) : R D := match asO d S with
  | some (c, _, _) => match tab.lookup c with
    | some Ff => if okR c e S then (Ff [d, e] S).flip else .bad
    | none => .bad
  | none => g d e S
section
variable {X : Cx} {wx : WX}
theorem flip_of {W : Wd} {ms : List Addr} {H : Hp} {r : R D} {Q : VK} {E : XK} (p : Post W (relD W) ms H r.flip Q E) : Post W (relD W) ms H r (fun v H' => ∃ b, v = .bl b ∧ Q (.bl (!b)) H') E := by
  cases r with
  | bad => exact p
  | exc c ks ds S => exact p
  | ok d S =>
    cases d with
    | bl b => intro v ms' H' f s rr; cases rr; exact ⟨b, rfl, p (.bl (!b)) ms' H' f s (.bl _)⟩
    | _ => exact p.elim
theorem ne_O {k : Nat} {tab : List (Str × DFun)} {g : D → D → Sto → R D} (T : ∀ (c : Str) (Ff : DFun), tab.lookup c = some Ff → KM X.prog X.w X.K X.mg X.base c "__eq__" 1 [] (fun ds _ => ds) 2 Ff k ∧ ∀ C, X.mg c = some (.ref C) → NeC X.K C)
    (hr : Room (k + 1) X.A) (gd : X.A.guards = some []) (tk : Takes X wx) (hg : OpS X wx (compareOp .NotEq) g) : OpS X wx (compareOp .NotEq) (neO tab g) := by
  intro pins s σ ms S H x y v u d e Q I rx ry st rd re p
  unfold neO at p
  cases hc : asO d S with
  | none => rw [hc] at p; exact hg pins s σ ms S H x y v u d e Q I rx ry st rd re p
  | some t =>
    obtain ⟨c, ks, xs⟩ := t
    rw [hc] at p
    dsimp only at p
    cases hF : tab.lookup c with
    | none => rw [hF] at p; exact p.elim
    | some Ff =>
      rw [hF] at p
      dsimp only at p
      split at p
      · rename_i ok
        obtain ⟨hk, hC⟩ := T c Ff hF
        obtain ⟨C, f, fd, ps, hmC, cl, me, F, bd⟩ := hk.ex
        obtain ⟨a, C', dx, vs, rfl, hm', hH, hl, _⟩ := asO_of st rd hc
        have hm'' : X.mg c = some (.ref C') := hm'
        rw [hmC] at hm''
        cases hm''
        obtain rfl : v = Value.ref a := rx
        obtain ⟨mA, O, _⟩ := ins_get I.hok hH
        obtain ⟨od, J, _⟩ := O.look
        have run := meth_run (us := [.ref a, u]) (vs := [.ref a, y]) (ds := [d, e]) (A := X.A.in1) F bd hr.in1 gd I.env0.in1 tk I (.cons rfl (.cons ry .nil)) rfl rfl st (.cons rd (.cons re .nil)) (flip_of p)
        have run2 := wpAny_mono run (Q' := fun z s' => ∃ b, z = Value.bool b ∧ EP X pins σ Q (.bool (!b)) s') (fun z s' q => by
          obtain ⟨z', H', I', rz, b, ez, qz⟩ := q
          subst ez
          cases rz
          exact ⟨b, rfl, .bl (!b), H', I', rfl, qz⟩) fun _ _ q => q
        have ec := hC _ hmC
        have hu : X.A.units + 1 < cLine := by have := hr.units; omega
        show wpAny _ _ (richCompare .NotEq _ _) _ _ _
        rcases okR_ty hmC I ry st re ok with hty | ⟨T, hT, hty⟩
        · exact ne_K I.kIn J hty (by simp [PySem.W.notFirst]) ec.ne ec.ob me.at_ me.fn hu run2
        · exact ne_K I.kIn J hty (ec.toEqC.first hT) ec.ne ec.ob me.at_ me.fn hu run2
      · exact p.elim

/-! ### in, not in -/
/-- d in e, e an object with an own __contains__ that answers True or False -/
def R.tell (r : R D) (neg : Bool) : R D := match r with
  | .ok (.bl b) S => .ok (.bl (if neg then !b else b)) S
  | .exc c ks ds S => .exc c ks ds S
  | _ => .bad
theorem tell_of {W : Wd} {neg : Bool} {ms : List Addr} {H : Hp} {r : R D} {Q : VK} {E : XK} (p : Post W (relD W) ms H (r.tell neg) Q E) : Post W (relD W) ms H r (fun v H' => ∃ b, v = .bl b ∧ Q (.bl (if neg then !b else b)) H') E := by
  cases r with
  | bad => exact p
  | exc c ks ds S => exact p
  | ok d S =>
    cases d with
    | bl b => intro v ms' H' f s rr; cases rr; exact ⟨b, rfl, p _ ms' H' f s (.bl _)⟩
    | _ => exact p.elim
def inO (neg : Bool) (tab : List (Str × DFun)) (g : D → D → Sto → R D) (d e : D) (S : Sto) : R D := match asO e S with
  | some (c, _, _) => match tab.lookup c with
    | some Ff => (Ff [e, d] S).tell neg
    | none => .bad
  | none => g d e S
theorem in_O {k : Nat} {neg : Bool} {tab : List (Str × DFun)} {g : D → D → Sto → R D} (T : ∀ (c : Str) (Ff : DFun), tab.lookup c = some Ff → KM X.prog X.w X.K X.mg X.base c "__contains__" 1 [] (fun ds _ => ds) 2 Ff k)
    (hr : Room k X.A) (gd : X.A.guards = some []) (tk : Takes X wx) (hg : OpS X wx (compareOp (if neg then .NotIn else .In)) g) : OpS X wx (compareOp (if neg then .NotIn else .In)) (inO neg tab g) := by
  intro pins s σ ms S H x y v u d e Q I rx ry st rd re p
  unfold inO at p
  cases hc : asO e S with
  | none => rw [hc] at p; exact hg pins s σ ms S H x y v u d e Q I rx ry st rd re p
  | some t =>
    obtain ⟨c, ks, xs⟩ := t
    rw [hc] at p
    dsimp only at p
    cases hF : tab.lookup c with
    | none => rw [hF] at p; exact p.elim
    | some Ff =>
      rw [hF] at p
      obtain ⟨C, f, fd, ps, hmC, cl, me, F, bd⟩ := (T c Ff hF).ex
      obtain ⟨a, C', dx, vs, rfl, hm', hH, hl, _⟩ := asO_of st re hc
      have hm'' : X.mg c = some (.ref C') := hm'
      rw [hmC] at hm''
      cases hm''
      obtain rfl : u = Value.ref a := ry
      obtain ⟨mA, O, _⟩ := ins_get I.hok hH
      obtain ⟨od, J, _⟩ := O.look
      obtain ⟨mm, hFr⟩ := I.fr
      have run := meth_run (us := [.ref a, v]) (vs := [.ref a, x]) (ds := [e, d]) F bd hr gd I.env0 tk I (.cons rfl (.cons rx .nil)) rfl rfl st (.cons re (.cons rd .nil)) (tell_of p)
      cases neg with
      | false =>
        refine PySem.W.in_K hFr I.ok.mod.kin J me.at_ me.fn (wpAny_mono run (fun z s' q => ?_) fun _ _ q => q)
        obtain ⟨z', H', I', rz, b, ez, qz⟩ := q
        subst ez
        cases rz
        exact wpAny_truthy_bool ⟨.bl b, H', I', rfl, qz⟩
      | true =>
        refine PySem.W.notIn_K hFr I.ok.mod.kin J me.at_ me.fn (wpAny_mono run (fun z s' q => ?_) fun _ _ q => q)
        obtain ⟨z', H', I', rz, b, ez, qz⟩ := q
        subst ez
        cases rz
        exact wpAny_truthy_bool ⟨.bl (!b), H', I', rfl, qz⟩

end
end Zd

set_option Elab.async false
set_option linter.all false
set_option maxRecDepth 100000
set_option maxHeartbeats 4000000
set_option autoImplicit false
/-! Zd: sorted(set(..)) of whole numbers, any number of them. -/
namespace Zd
open PySem PySem.Spec L2
open PyProof.Rows hiding St

/-- a new set -/
abbrev eSet (w : World) : Obj := { cls := .type "set", dict := none, data := .set #[] 0 (.fresh 0 0 (!w.params.followText "set-order")) }
section
variable {P : Program} {w : World} {A : Around} {E : Value → Shared → Prop} {s : Shared}
/-- set(l), l a list of ints -/
theorem set_list {l : Addr} {xs : Array Value} (ns : List Int) {Q : Value → Shared → Prop} (hh : A.handled = none) (hl : s.heap.IsList l xs) (hi : IntsAre xs.toList ns) (hb : ns.length + 1 < scanBound)
    (h : ∀ (h' : Heap) (tk c : Nat), SetR w h' s.heap.objs.size (fun j => decide (j ∈ ns)) c → c ≤ ns.length → (∀ b o, s.heap.get? b = some o → h'.get? b = some o) → Q (.ref s.heap.objs.size) { s with heap := h', toks := tk }) :
    wpAny (model P w) A (call (.type "set") [.ref l]) Q E s := by
  have many : xs.size = ns.length := by
    have q := IntsAre.length hi
    rw [Array.length_toList] at q
    exact q
  obtain ⟨cc, more, order⟩ := F.called_set.mro
  have made := F.called_set.made
  have below := F.called_set.sub
  refine wpAny_call (codeAny_of_tree ?_)
  show wpAny _ _ (callAny (.type "set") _) _ _ _
  refine wpAny_pure ⟨Code.quiet_builtin _ (by decide +kernel), codeAny_builtin F.entry_type_call ?_⟩
  rw [Around.under_plain (weight_type_call_type "set" [.ref l] []) rfl]
  have p1 := F.called_set.notType
  have p2 := F.called_set.canCreate
  have p3 := F.typeCall_set_1 (.ref l)
  repeat (any_goals (first | assumption | wp_step))
  refine codeAny_mono (code_set_led1 (.ref l) (E := E) (Q₁ := fun z t => z = .ref s.heap.objs.size ∧ t = { s with heap := s.heap.push (eSet w) }) ⟨rfl, rfl⟩) fun r t hr => ?_
  match r with
  | .error e => exact hr
  | .ok .next => exact hr.elim
  | .ok .brk => exact hr.elim
  | .ok .cont => exact hr.elim
  | .ok (.ret z) =>
    obtain ⟨rfl, rfl⟩ := hr
    have hS : (s.heap.push (eSet w)).get? s.heap.objs.size = some (eSet w) := Heap.get?_push_size _ rfl
    have hT : Shared.TypeIs { s with heap := s.heap.push (eSet w) } (.ref s.heap.objs.size) "set" := ⟨_, hS, rfl⟩
    have p4 := F.called_set.init.lookup
    have p5 := F.called_set.init.bind (.ref s.heap.objs.size)
    repeat (any_goals (first | assumption | wp_step))
    refine codeAny_mono (codeAny_call_builtin (R := wants (fun r t => r = .none ∧ ∃ h' tk c, t = { s with heap := h', toks := tk } ∧ SetR w h' s.heap.objs.size (fun j => decide (j ∈ ns)) c ∧ c ≤ ns.length ∧ (∀ b o, s.heap.get? b = some o → h'.get? b = some o)) E)
      F.called_set.init.plain F.entry_set_init (check_set_init_1 hT ?_)) fun r2 t2 hr2 => ?_
    · obtain ⟨⟨ocls, odict, odata, oslots⟩, hol, hcl, nl, hdl⟩ := hl
      simp only at hcl hdl
      subst hcl; subst hdl
      have hol' : (s.heap.push (eSet w)).get? l = some { cls := .type "list", dict := odict, data := .seq xs nl, slots := oslots } := Heap.get?_push_of_some _ hol
      have p6 := F.sub_list_set
      have p7 := F.sub_list_frozenset
      have p8 : (Value.type "list" == Value.type "dict") = false := by decide
      have hl1 : (s.heap.push (eSet w)).IsList l xs := ⟨_, hol', rfl, nl, rfl⟩
      unfold Builtin.«set.__init__» noKeywords Builtin.Frozenset.updateFrom
      generalize hPI : pyIter = PI
      wp_walk
      subst hPI
      refine wpAny_pyIter_list hl1 ?_
      refine wpAny_bind (wpAny_runValue ?_)
      have small : l < s.heap.objs.size := Heap.lt_size hol
      have hh3 : A.in1.in1.in1.handled = none := by simp [hh]
      have sz : (s.heap.push (eSet w)).objs.size = s.heap.objs.size + 1 := Heap.size_push ..
      have apart : l ≠ (s.heap.push (eSet w)).objs.size := by rw [sz]; exact Nat.ne_of_lt (Nat.lt_succ_of_lt small)
      have out : s.heap.objs.size ∉ [(s.heap.push (eSet w)).objs.size, l] := by
        rw [sz]
        simp only [List.mem_cons, List.not_mem_nil, or_false, not_or]
        exact ⟨Nat.ne_of_lt (Nat.lt_succ_self _), fun q => Nat.lt_irrefl _ (by rw [← q] at small; exact small)⟩
      have told : ∀ (i : Nat) (v : Value), xs[i]? = some v → ∃ k t, ns[i]? = some k ∧ v = .int k t := fun i v hv => by
        have hlt : i < ns.length := by rw [← many]; exact (Array.getElem?_eq_some_iff.mp hv).1
        obtain ⟨t, e⟩ := PyProof.Rows.IntsAre.int_at hi i v (by rw [Array.getElem?_toList]; exact hv)
        refine ⟨ns[i], t, List.getElem?_eq_getElem hlt, ?_⟩
        rw [e, List.getD_eq_getElem?_getD, List.getElem?_eq_getElem hlt] <;> rfl
      refine set_update_ints ((Walks.list hh3 _ l apart xs).toS) s.heap.objs.size out ns many hb told (xs.size - 0) 0 _ (by omega) (Nat.zero_le _) ⟨⟨_, Heap.get?_push_size _ rfl, rfl, rfl⟩, (hl1.push _)⟩ ?hS0 ?hR
      case hS0 =>
        have at0 : ((s.heap.push (eSet w)).push { cls := .type "list_iterator", data := .fields #[.ref l, .int 0 0] }).get? s.heap.objs.size = some (eSet w) := Heap.get?_push_of_some _ hS
        exact ⟨0, Nat.le_refl 0, setR_new_at at0⟩
      case hR =>
        intro t' c' hm hc' hS'
        obtain ⟨h', g2, d', tk', os'⟩ := t'
        have e1 : g2 = s.gens := hm.gens
        have e2 : d' = s.drawn := hm.drawn
        have e3 : os' = s.os := hm.os
        subst e1; subst e2; subst e3
        show wpAny _ _ _ _ _ _
        refine wpAny_pure ?_
        show wpAny _ _ (ret Value.none) _ _ _
        rw [many] at hc'
        refine wpAny_pure ⟨rfl, h', tk', c', rfl, hS', hc', fun b o e => ?_⟩
        have lt : b < s.heap.objs.size := Heap.lt_size e
        refine hm.heap b o ?_ (Heap.get?_push_of_some _ (Heap.get?_push_of_some _ e))
        rw [sz]
        simp only [List.mem_cons, List.not_mem_nil, or_false, not_or]
        exact ⟨Nat.ne_of_lt lt, Nat.ne_of_lt (Nat.lt_succ_of_lt lt)⟩
    · match r2 with
      | .error e => exact hr2
      | .ok .next => exact hr2.elim
      | .ok .brk => exact hr2.elim
      | .ok .cont => exact hr2.elim
      | .ok (.ret r) =>
        obtain ⟨rfl, h', tk, c', rfl, hS', hc', hk'⟩ := hr2
        repeat (any_goals (first | assumption | wp_step))
        exact h _ _ _ hS' hc' hk'
/-- sorted(a), a a set of ints -/
theorem sorted_setN {a : Addr} {S : Int → Bool} {n : Nat} {Q : Value → Shared → Prop} (R : SetR w s.heap a S n) (hh : A.handled = none)
    (hQ : ∀ s' p (out : Array Value) (c : Nat) (ns : List Int), (∀ b o, s.heap.get? b = some o → s'.heap.get? b = some o) → s'.gens = s.gens → s'.os = s.os → s.heap.objs.size ≤ p →
      s'.heap.get? p = some (seqObj "list" out c) → IntsAre out.toList ns → ns.Pairwise (· < ·) → (∀ k, k ∈ ns ↔ S k = true) → ns.length = n → ns.length ≤ sizeLine → Q (.ref p) s') :
    wpAny (model P w) A (call (.builtin "sorted") [.ref a]) Q E s := by
  obtain ⟨o, es, ep, t, ho, hex, hd, g, nd, hm, hb, hf, hn, hr, hl⟩ := R
  refine Calls.call_function_entry kind_sorted plain_sorted entry_sorted (args_sorted1 _) ?_
  unfold Builtin.«sorted»
  refine wpAny_bind (m := checkCount "sorted" 1 1 _) (wpAny_pure ?_)
  refine wpAny_bind (collect_set (A := A.in1) hh ⟨o, ho, hex.1, hd⟩ hf hb hr hl fun s1 vs k1 hz g1 o1 pm => ?_)
  have len : vs.length = n := by rw [pm.length_eq, List.length_map, Array.length_toList]; exact hn
  have few : vs.length ≤ sizeLine := by
    rw [len, ← hn, sizeLine_eq]
    have : scanBound = 4096 := rfl
    omega
  have hI : IntsAre vs (vs.map Builtin.Re.reRawOf) := ints_of vs fun v hv => by
    obtain ⟨e, he, q⟩ := List.mem_map.mp (pm.mem_iff.mp hv)
    obtain ⟨k, tk, h1, _⟩ := g e he
    exact ⟨k, tk, by rw [← q]; exact h1⟩
  have keys : (vs.map Builtin.Re.reRawOf).Perm (es.toList.map keyOf) := by
    have q := pm.map Builtin.Re.reRawOf
    rw [List.map_map] at q
    exact q
  refine wpAny_bind (wpAny_newList ?_ few)
  have hoL : (s1.heap.push (seqObj "list" vs.toArray 0)).get? s1.heap.objs.size = some (seqObj "list" vs.toArray 0) := Heap.get?_push_size _ rfl
  refine wpAny_bind (wpAny_holding (wpAny_call_entry slot_list_sort ⟨_, hoL, rfl⟩ entry_list_sort (SrtO.list_sort_ord SrtO.swo_int hoL few (fun h2 => SrtO.ints_sortable hI h2) fun out h1 h2 => ⟨_, rfl, ?_⟩) (args_list_sort _)))
  obtain ⟨q1, q2, q3⟩ := SrtO.ints_out hI h1 h2
  obtain ⟨c, hc⟩ := sortedHeap_at (vs := vs) (out := out.toArray) hoL
  have pn : (out.map SrtO.iv).Perm (es.toList.map keyOf) := q2.trans keys
  have cnt : (out.map SrtO.iv).length = n := by rw [pn.length_eq, List.length_map, Array.length_toList]; exact hn
  refine wpAny_pure ⟨_, rfl, hQ _ s1.heap.objs.size out.toArray c (out.map SrtO.iv) (fun b u e => ?_) g1 o1 hz hc q1 (lt_of_le_nodup _ q3 (pn.nodup_iff.mpr nd)) (fun k => by rw [pn.mem_iff, ← hm k]) cnt (by rw [cnt, ← len]; exact few)⟩
  have q := k1 b u e
  have hlt := Heap.lt_size q
  show (sortedHeap (s1.heap.push (seqObj "list" vs.toArray 0)) s1.heap.objs.size vs out.toArray).get? b = some u
  rw [sortedHeap_old (Nat.ne_of_lt hlt) (by rw [size_push']; exact Nat.lt_succ_of_lt hlt)]
  exact Heap.get?_push_of_some _ q
end

/-! ### as rules -/
def rSetI (K : PySem.W.Frag) (w : World) : List V → Hp → VK → Prop := fun xs H Q => ∃ (l : Addr) (ns : List Int), xs = [V.ref l] ∧ (SqL K H l (ns.map V.int) ∨ SqT K H l (ns.map V.int)) ∧ ns.length + 1 < scanBound ∧
  ∀ (p : Addr) (c : Nat), H p = none → Q (.ref p) (upd H p (SetO w p (fun j => decide (j ∈ ns)) c))
def rSortedSN (w : World) : List V → Hp → VK → Prop := fun vs H Q => ∃ (a : Addr) (S : Int → Bool) (n : Nat), vs = [V.ref a] ∧ H a = some (SetO w a S n) ∧
  ∀ (ns : List Int) (p : Addr), ns.Pairwise (· < ·) → (∀ k : Int, k ∈ ns ↔ S k = true) → H p = none → Q (.ref p) (upd H p (.lst (ns.map V.int)))
section
variable {X : Cx}
theorem cr_setI (hc : X.calm = true) : CallR X (.type "set") (rSetI X.K X.w) := by
  intro pins s σ H vs us Q I r h
  obtain ⟨l, ns, rfl, hs, hb, q⟩ := h
  rw [Vals.ref1 r]
  have fin : ∀ (h' : Heap) (tk c : Nat), SetR X.w h' s.heap.objs.size (fun j => decide (j ∈ ns)) c → c ≤ ns.length → (∀ b o, s.heap.get? b = some o → h'.get? b = some o) → EP X pins σ Q (.ref s.heap.objs.size) { s with heap := h', toks := tk } := fun h' tk c R _ k =>
    ⟨.ref s.heap.objs.size, _, I.laid (t' := tk) k (Nat.le_refl _) (setO_new R), rfl, q _ c (I.hok.fresh (Nat.le_refl _))⟩
  rcases hs with hs | hs
  · obtain ⟨its, rv, hl, hz⟩ := I.list hs
    exact set_list ns (I.ok.hd hc) hl.isList rv.ints hb fin
  · obtain ⟨its, rv, hl, hz⟩ := I.tuple hs
    exact call_set_tupI ns (I.ok.hd hc) hl rv.ints hb fin
theorem cr_sortedSN (hc : X.calm = true) : CallR X (.builtin "sorted") (rSortedSN X.w) := by
  intro pins s σ H vs us Q I r h
  obtain ⟨a, S, n, rfl, ha, q⟩ := h
  have R := setO_get I ha
  rw [Vals.ref1 r]
  refine sorted_setN R (I.ok.hd hc) fun s' p out c ns k g o hp hg hi hs hm hl hz => ?_
  have few : (ns.map V.int).length ≤ sizeLine := by rw [List.length_map]; exact hz
  have hn : H p = none := I.hok.fresh hp
  have J : L2.Inv X pins σ (upd H p (.lst (ns.map V.int))) { s with heap := s'.heap, gens := s'.gens, drawn := s'.drawn, toks := s'.toks } :=
    I.call (ch := []) (Un.laid k hp hn) (I.hok.laid k hp ⟨few, out.toList, c, vals_of_ints hi, hg⟩) (by rw [g]; exact I.bare) (fun _ z => nomatch z)
  have e : s' = { s with heap := s'.heap, gens := s'.gens, drawn := s'.drawn, toks := s'.toks } := by
    cases s'; cases s; cases o; rfl
  rw [e]
  exact ⟨.ref p, _, J, rfl, q ns p hs hm hn⟩
end
/-- the numbers in order, each once -/
def uins (x : Int) : List Int → List Int
  | [] => [x]
  | y :: l => if x < y then x :: y :: l else if x = y then y :: l else y :: uins x l
def usort : List Int → List Int
  | [] => []
  | x :: l => uins x (usort l)
theorem uins_mem (x k : Int) : ∀ l : List Int, k ∈ uins x l ↔ k = x ∨ k ∈ l
  | [] => by simp [uins]
  | y :: l => by
    have ih := uins_mem x k l
    unfold uins
    by_cases h1 : x < y
    · rw [if_pos h1]; simp
    · rw [if_neg h1]
      by_cases h2 : x = y
      · rw [if_pos h2]; subst h2; simp
      · rw [if_neg h2, List.mem_cons, ih, List.mem_cons]
        constructor
        · rintro (a | a | a) <;> simp [a]
        · rintro (a | a | a) <;> simp [a]
theorem uins_lt (x : Int) : ∀ l : List Int, l.Pairwise (· < ·) → (uins x l).Pairwise (· < ·)
  | [], _ => List.pairwise_singleton _ _
  | y :: l, h => by
    obtain ⟨h1, h2⟩ := List.pairwise_cons.mp h
    unfold uins
    by_cases c1 : x < y
    · rw [if_pos c1]
      refine List.pairwise_cons.mpr ⟨fun z hz => ?_, h⟩
      rcases List.mem_cons.mp hz with rfl | hz
      · exact c1
      · have := h1 z hz; omega
    · rw [if_neg c1]
      by_cases c2 : x = y
      · rw [if_pos c2]; exact h
      · rw [if_neg c2]
        refine List.pairwise_cons.mpr ⟨fun z hz => ?_, uins_lt x l h2⟩
        rcases (uins_mem x z l).mp hz with rfl | hz
        · omega
        · exact h1 z hz
theorem usort_mem (k : Int) : ∀ l : List Int, k ∈ usort l ↔ k ∈ l
  | [] => by simp [usort]
  | x :: l => by unfold usort; rw [uins_mem, usort_mem k l, List.mem_cons]
theorem usort_lt : ∀ l : List Int, (usort l).Pairwise (· < ·)
  | [] => List.Pairwise.nil
  | x :: l => uins_lt x _ (usort_lt l)
/-- what rises is told by its members -/
theorem rise_eq : ∀ {a b : List Int}, a.Pairwise (· < ·) → b.Pairwise (· < ·) → (∀ k, k ∈ a ↔ k ∈ b) → a = b
  | [], [], _, _, _ => rfl
  | [], y :: b, _, _, h => by have := (h y).mpr List.mem_cons_self; cases this
  | x :: a, [], _, _, h => by have := (h x).mp List.mem_cons_self; cases this
  | x :: a, y :: b, ha, hb, h => by
    obtain ⟨a1, a2⟩ := List.pairwise_cons.mp ha
    obtain ⟨b1, b2⟩ := List.pairwise_cons.mp hb
    have exy : x = y := by
      rcases List.mem_cons.mp ((h x).mp List.mem_cons_self) with e | e
      · exact e
      · rcases List.mem_cons.mp ((h y).mpr List.mem_cons_self) with e2 | e2
        · exact e2.symm
        · have := a1 y e2
          have := b1 x e
          omega
    subst exy
    congr 1
    refine rise_eq a2 b2 fun k => ⟨fun hk => ?_, fun hk => ?_⟩
    · rcases List.mem_cons.mp ((h k).mp (List.mem_cons_of_mem _ hk)) with e | e
      · subst e; have := a1 k hk; omega
      · exact e
    · rcases List.mem_cons.mp ((h k).mpr (List.mem_cons_of_mem _ hk)) with e | e
      · subst e; have := b1 k hk; omega
      · exact e
theorem usort_of {ns : List Int} {S : Int → Bool} (hs : ns.Pairwise (· < ·)) {l : List Int} (hS : ∀ k, k ∈ ns ↔ S k = true) (hl : ∀ k, S k = true ↔ k ∈ l) : ns = usort l :=
  rise_eq hs (usort_lt l) fun k => by rw [hS k, hl k, usort_mem]
/-- sorted(set(e)) -/
noncomputable def ssetF (fe : EF) : EF := fun ρ S => (fe ρ S).bind fun d S1 => match (asQ d S1).bind intsOf with
  | some ns => if NLe (ns.length + 2) 4096 then .ok (.lst ((usort ns).map D.int)) S1 else .bad
  | none => .bad
section
variable {X : Cx} {Y : Yx} {e : Expr} {fe : EF} {p1 p2 pos pos2 : Pos}
theorem d_sset (hc : X.calm = true) (hg1 : Gl X "sorted") (hm1 : X.mg "sorted" = none) (hg2 : Gl X "set") (hm2 : X.mg "set" = none) (he : DE X Y e fe)
    (h1 : starEach [e] X.env = (false, eval e X.env) :: starEach [] X.env := by rfl) (h2 : starEach [.Call (.Name "set" p2) [e] [] pos2] X.env = (false, eval (.Call (.Name "set" p2) [e] [] pos2) X.env) :: starEach [] X.env := by rfl)
    (hpl1 : (backTo pos (starEach [] X.env)).any (·.1) = false := by rfl) (hpl2 : (backTo pos2 (starEach [] X.env)).any (·.1) = false := by rfl) :
    DE X Y (.Call (.Name "sorted" p1) [.Call (.Name "set" p2) [e] [] pos2] [] pos) (ssetF fe) := by
  have inner := pe_callTy (cr_setI hc) hg2 hm2 PyProof.Rows.boot_set (pa_cons he pa_nil h1) (by decide) (by decide) h1 hpl2 (p := p2) (pos := pos2)
  refine PE.weak (pe_callB (cr_sortedSN hc) hg1 hm1 PyProof.Rows.boot_sorted (pa_cons inner pa_nil h2) (by decide) (by decide) h2 hpl1) fun σ H Q h => ?_
  obtain ⟨ms, S, ρ, ev, st, p⟩ := h
  unfold ssetF at p
  refine ⟨ms, S, ρ, ev, st, Post.split p fun d S1 v ms1 H1 _ f1 s1 r1 p1 => ?_⟩
  cases hq : (asQ d S1).bind intsOf with
  | none => rw [hq] at p1; exact p1.elim
  | some ns =>
    rw [hq] at p1
    dsimp only at p1
    split at p1
    · rename_i hz
      have hz : ns.length + 2 ≤ 4096 := hz
      obtain ⟨xs, e1, e2⟩ := Option.bind_eq_some_iff.mp hq
      obtain ⟨a, vs, rfl, hs, r2⟩ := asQ_of s1 r1 e1
      have ei := intsOf_of r2 e2
      subst ei
      refine ⟨a, ns, rfl, hs, (by show ns.length + 1 < 4096; omega), fun q c hq => ?_⟩
      refine ⟨q, _, c, rfl, upd_same, fun ms2 p hp hm hn => ?_⟩
      have g1 : Fut ms1 H1 ms1 (upd H1 q (SetO X.w q (fun j => decide (j ∈ ns)) c)) := Fut.new s1 hq
      have t1 := s1.new (o := SetO X.w q (fun j => decide (j ∈ ns)) c) hq
      have g2 := Fut.new (o := .lst (ms2.map V.int)) t1 hn
      have eq : ms2 = usort ns := usort_of hp hm fun k => by simp
      subst eq
      exact p1 _ ms1 _ (g1.trans g2) (t1.new hn) (.lst (era_new t1 hn) (RpL.map (fun i => .int i) _))
    · exact p1.elim
end
end Zd

set_option Elab.async false
set_option linter.all false
set_option maxRecDepth 100000
set_option maxHeartbeats 4000000
set_option autoImplicit false
/-! Zd: dicts with ints and texts as keys: made by a comprehension, asked. -/
namespace Zd
open PySem PySem.Spec L2
open PyProof.Rows hiding St

def keyD (d : D) : Option Key := match d with
  | .int i => some (.inl i)
  | .str z => some (.inr z)
  | _ => none
theorem keyD_of {W : Wd} {ms : List Addr} {G : Hp} {d : D} {v : V} {k : Key} (r : Rp W ms G v d) (h : keyD d = some k) : v = kV k := by
  unfold keyD at h
  split at h
  · cases h; cases r; rfl
  · cases h; cases r; rfl
  · cases h
/-- a dict -/
def asDc (d : D) (S : Sto) : Option (List Key × List D) := match d with
  | .dic ks xs => some (ks, xs)
  | .cell n => match S[n]? with
    | some (.dic ks xs) => some (ks, xs)
    | _ => none
  | _ => none
theorem asDc_of {W : Wd} {ms : List Addr} {S : Sto} {H : Hp} {d : D} {v : V} {ks : List Key} {xs : List D} (st : StOk W ms S H) (r : Rp W ms (era ms H) v d) (h : asDc d S = some (ks, xs)) :
    ∃ a vs, v = .ref a ∧ H a = some (.dK (ks.zip vs)) ∧ ks.length = vs.length ∧ RpL W ms (era ms H) vs xs := by
  unfold asDc at h
  split at h
  · cases h
    cases r with | dic b e q => exact ⟨_, _, rfl, era_same _ _ _ _ b, e, q⟩
  · split at h
    · rename_i hn
      cases h
      cases r with
      | cell a =>
        obtain ⟨vs, e, l, q⟩ := st.cell _ _ _ a hn
        exact ⟨_, vs, rfl, e, l, RpL.mono (take_ext _) (Same.refl _) (.inr rfl) rfl rfl _ vs q⟩
    · cases h
  · cases h
/-- what stands at a key -/
def atK {α : Type} : List Key → List α → Key → Option α
  | k' :: ks, x :: xs, k => if k' = k then some x else atK ks xs k
  | _, _, _ => none
theorem atK_val {k : Key} : ∀ {ks : List Key} {vs : List V}, valV (ks.zip vs) k = atK ks vs k
  | [], _ => rfl
  | _ :: _, [] => rfl
  | k' :: ks, v :: vs => by
    rw [List.zip_cons_cons]
    unfold atK
    by_cases e : k' = k
    · rw [if_pos e]; exact valV_pos (p := (k', v)) e
    · rw [if_neg e, valV_neg (p := (k', v)) e]; exact atK_val
theorem atK_rel {W : Wd} {ms : List Addr} {G : Hp} {k : Key} : ∀ {ks : List Key} {vs : List V} {xs : List D}, RpL W ms G vs xs → (atK ks vs k).isSome = (atK ks xs k).isSome ∧ ∀ x, atK ks xs k = some x → ∃ v, atK ks vs k = some v ∧ Rp W ms G v x
  | [], _, _, _ => ⟨rfl, fun x h => by cases h⟩
  | _ :: _, _, [], r => by cases r; exact ⟨rfl, fun x h => by cases h⟩
  | k' :: ks, _, x :: xs, r => by
    cases r with
    | cons a b =>
      unfold atK
      by_cases e : k' = k
      · rw [if_pos e, if_pos e]; exact ⟨rfl, fun y h => by cases h; exact ⟨_, rfl, a⟩⟩
      · rw [if_neg e, if_neg e]; exact atK_rel b
/-- d in e, e a dict -/
def inDc (neg : Bool) (g : D → D → Sto → R D) (d e : D) (S : Sto) : R D := match asDc e S with
  | some (ks, xs) => match keyD d with
    | some k => .ok (.bl (if neg then !(atK ks xs k).isSome else (atK ks xs k).isSome)) S
    | none => .bad
  | none => g d e S
section
variable {X : Cx} {wx : WX}
theorem in_Dc {neg : Bool} {g : D → D → Sto → R D} (hu : X.A.units + 1 < cLine) (hg : OpS X wx (compareOp (if neg then .NotIn else .In)) g) : OpS X wx (compareOp (if neg then .NotIn else .In)) (inDc neg g) := by
  intro pins s σ ms S H x y v u d e Q I rx ry st rd re p
  unfold inDc at p
  cases hc : asDc e S with
  | none => rw [hc] at p; exact hg pins s σ ms S H x y v u d e Q I rx ry st rd re p
  | some t =>
    obtain ⟨ks, xs⟩ := t
    rw [hc] at p
    dsimp only at p
    cases hk : keyD d with
    | none => rw [hk] at p; exact p.elim
    | some k =>
      rw [hk] at p
      obtain ⟨a, vs, rfl, hH, l, rv⟩ := asDc_of st re hc
      obtain rfl := keyD_of rd hk
      obtain rfl : u = Value.ref a := ry
      have q1 : (valV (ks.zip vs) k).isSome = (atK ks xs k).isSome := by rw [atK_val]; exact (atK_rel rv).1
      cases neg with
      | false => exact d_in hu I (DGet.k hH) rx fun s' J => ⟨.bl (valV (ks.zip vs) k).isSome, H, J, rfl, by rw [q1]; exact p _ ms H (Fut.refl _ _) st (.bl _)⟩
      | true => exact d_notIn hu I (DGet.k hH) rx fun s' J => ⟨.bl (!(valV (ks.zip vs) k).isSome), H, J, rfl, by rw [q1]; exact p _ ms H (Fut.refl _ _) st (.bl _)⟩
end

/-! ### {k: v for ..} -/
def hasK (ks : List Key) (k : Key) : Bool := ks.any fun k' => decide (k' = k)
def kputK (ks : List Key) (k : Key) : List Key := if hasK ks k then ks else ks ++ [k]
def kputV {α : Type} (k : Key) (x : α) (ks : List Key) (xs : List α) : List α := if hasK ks k then List.zipWith (fun k' y => if k' = k then x else y) ks xs else xs ++ [x]
theorem any_zip {k : Key} : ∀ {ks : List Key} {vs : List V}, ks.length = vs.length → ((ks.zip vs).any fun kv => decide (kv.1 = k)) = hasK ks k
  | [], [], _ => rfl
  | k' :: ks, v :: vs, h => by
    rw [List.zip_cons_cons, List.any_cons, any_zip (ks := ks) (vs := vs) (by simpa using h)]
    rfl
theorem map_zip {k : Key} {x : V} : ∀ {ks : List Key} {vs : List V}, ks.length = vs.length → (ks.zip vs).map (fun kv => if kv.1 = k then (kv.1, x) else kv) = ks.zip (List.zipWith (fun k' y => if k' = k then x else y) ks vs)
  | [], [], _ => rfl
  | k' :: ks, v :: vs, h => by
    rw [List.zip_cons_cons, List.map_cons, map_zip (ks := ks) (vs := vs) (by simpa using h), List.zipWith_cons_cons, List.zip_cons_cons]
    by_cases e : k' = k
    · simp [e]
    · simp [e]
theorem kput_zip {k : Key} {x : V} {ks : List Key} {vs : List V} (h : ks.length = vs.length) : L2.putK (ks.zip vs) k x = (kputK ks k).zip (kputV k x ks vs) := by
  unfold L2.putK kputK kputV
  rw [any_zip h]
  by_cases e : hasK ks k = true
  · rw [if_pos e, if_pos e, if_pos e, map_zip h]
  · rw [if_neg e, if_neg e, if_neg e, List.zip_append h]; rfl
theorem kput_len {α : Type} {k : Key} {x : α} {ks : List Key} {vs : List α} (h : ks.length = vs.length) : (kputK ks k).length = (kputV k x ks vs).length := by
  unfold kputK kputV
  by_cases e : hasK ks k = true
  · rw [if_pos e, if_pos e, List.length_zipWith]; omega
  · rw [if_neg e, if_neg e]; simp [h]
theorem RpL.zw {W : Wd} {ms : List Addr} {G : Hp} {k : Key} {d : D} {v : V} (r : Rp W ms G v d) : ∀ {ks : List Key} {vs : List V} {xs : List D}, RpL W ms G vs xs → RpL W ms G (List.zipWith (fun k' y => if k' = k then v else y) ks vs) (List.zipWith (fun k' y => if k' = k then d else y) ks xs)
  | [], _, _, _ => by simp; exact .nil
  | _ :: _, _, [], h => by cases h; exact .nil
  | k' :: ks, _, x :: xs, h => by
    cases h with
    | cons a b =>
      rw [List.zipWith_cons_cons, List.zipWith_cons_cons]
      refine .cons ?_ (RpL.zw r b)
      by_cases e : k' = k
      · rw [if_pos e, if_pos e]; exact r
      · rw [if_neg e, if_neg e]; exact a
theorem RpL.kput {W : Wd} {ms : List Addr} {G : Hp} {k : Key} {d : D} {v : V} {ks : List Key} {vs : List V} {xs : List D} (r : Rp W ms G v d) (h : RpL W ms G vs xs) : RpL W ms G (kputV k v ks vs) (kputV k d ks xs) := by
  unfold kputV
  by_cases e : hasK ks k = true
  · rw [if_pos e, if_pos e]; exact RpL.zw r h
  · rw [if_neg e, if_neg e]; exact h.append (.cons r .nil)
/-- one more pair to the dict in cell n -/
noncomputable def putC (n : Nat) (k : Key) (x : D) (S : Sto) : R Unit := match S[n]? with
  | some (.dic ks xs) => if low n x && decide (NLe (xs.length + 1) sizeLine) then .ok () (S.set n (.dic (kputK ks k) (kputV k x ks xs))) else .bad
  | _ => .bad
noncomputable def dcmL (n : Nat) (g : GF) (t : F Bool) (fk fv : EF) (ρ : Nv) : List D → Sto → R Unit
  | [], S => .ok () S
  | d :: ds, S => match g d ρ S with
    | none => .bad
    | some ρ1 => (t ρ1 S).bindN fun b S1 => if b then (fk ρ1 S1).bindN fun y S2 => (fv ρ1 S2).bindN fun x S3 => match keyD y with
      | some k => (putC n k x S3).bindN fun _ S4 => dcmL n g t fk fv ρ ds S4
      | none => .bad else dcmL n g t fk fv ρ ds S1
def finDc (n : Nat) (S : Sto) : R D := match S[n]? with
  | some (.dic ks xs) => .ok (.dic ks xs) (S.take n)
  | _ => .bad
noncomputable def dcmG (fin : Nat → Sto → R D) (vs : List Nat) (fi : F (List D)) (g : GF) (t : F Bool) (fk fv : EF) : EF := fun ρ S => (fi ρ S).bind fun ds S1 => (dcmL S1.length g t fk fv (wipeD ρ vs) ds (S1 ++ [.dic [] []])).bindN fun _ S2 => fin S1.length S2
theorem fin_Dc (W : Wd) : Fin W finDc := by
  intro ms1 ms' H1 H' S' a Q E _ s f h p
  unfold finDc at p
  split at p
  · rename_i ks xs hx
    obtain ⟨us, e1, hl, rr⟩ := s.cell _ _ _ h hx
    obtain ⟨e2, f2⟩ := Fut.drop s (n := ms1.length) rfl f
    have s1 := s.take ms1.length
    have er := era_take s ms1.length
    have nin : a ∉ ms'.take ms1.length := fun q => by
      obtain ⟨m, hm⟩ := List.getElem?_of_mem q
      have hlt : m < ms1.length := by
        have := (List.getElem?_eq_some_iff.mp hm).1
        rw [List.length_take] at this
        omega
      rw [List.getElem?_take_of_lt hlt] at hm
      obtain ⟨h1, e1⟩ := List.getElem?_eq_some_iff.mp h
      obtain ⟨h2, e2⟩ := List.getElem?_eq_some_iff.mp hm
      have := (List.getElem_inj s.nd).mp (e1.trans e2.symm)
      omega
    have r1 := RpL.mono (ms := ms'.take ms1.length) (ms' := ms'.take ms1.length) ⟨[], by simp⟩ er (.inr rfl) rfl rfl _ _ rr
    have e3 : era (ms'.take ms1.length) H' a = some (.dK (ks.zip us)) := by rw [era_out nin]; exact e1
    rw [e2] at s1 r1 e3
    exact p _ ms1 H' f2 s1 (.dic e3 hl r1)
  · exact p.elim
theorem StOk.ownD {W : Wd} {ms : List Addr} {S : Sto} {H : Hp} {p : Addr} (s : StOk W ms S H) (hp : H p = none) : StOk W (ms ++ [p]) (S ++ [.dic [] []]) (upd H p (.dK [])) :=
  s.own hp ⟨[], upd_same, rfl, .nil⟩
theorem dcm_of {W : Wd} {Wx : WX} {fin : Nat → Sto → R D} {fi : F (List D)} {is vs : List Nat} {g : GF} {t : F Bool} {fk fv : EF} {σ : St} {H : Hp} {Q : VK} (hfin : Fin W fin) (hv : ∀ i ∈ is, i ∈ vs) (h : tX W Wx (relD W) (dcmG fin vs fi g t fk fv) σ H Q) :
    tDc (tI W Wx fi) (tG W is g) (tX W (fun _ _ _ _ => False) relB t) (tX W (fun _ _ _ _ => False) (relD W) fk) (tX W (fun _ _ _ _ => False) (relD W) fv) vs σ H Q := by
  obtain ⟨ms, S, ρ, ev, st, p⟩ := h
  refine ⟨ms, S, ρ, ev, st, ?_⟩
  unfold dcmG at p
  cases hf : fi ρ S with
  | bad => rw [hf] at p; exact p
  | exc c ks ds S' => rw [hf] at p; exact p
  | ok ds S1 =>
    rw [hf, R.bind_ok] at p
    intro J ms1 H1 f1 s1 isI D hD
    have p1 := Post.fut p f1
    have s2 : StOk W (ms1 ++ [D]) (S1 ++ [.dic [] []]) (upd H1 D (.dK [])) := s1.ownD hD
    have hn : S1.length = ms1.length := s1.len.symm
    rw [hn] at p1
    refine ⟨fun i m H' => m = ds.length - i ∧ i ≤ ds.length ∧ ∃ ms' S', Fut (ms1 ++ [D]) (upd H1 D (.dK [])) ms' H' ∧ StOk W ms' S' H' ∧
        Post W (relD W) ms1 H1 ((dcmL ms1.length g t fk fv (wipeD ρ vs) (ds.drop i) S').bindN fun _ S2 => fin ms1.length S2) Q (fun c d H' => Wx c d σ H'),
      ⟨ds.length, by simp, Nat.zero_le _, ms1 ++ [D], S1 ++ [.dic [] []], Fut.refl _ _, s2, by simpa using p1⟩, ?_⟩
    rintro i m H' ⟨rfl, hi, ms', S', f', s', p'⟩
    have atD : ms'[ms1.length]? = some D := by
      obtain ⟨l, rfl⟩ := f'.ext
      refine pre_get ?_
      rw [List.getElem?_append_right (Nat.le_refl _), Nat.sub_self]
      rfl
    have fI : Fut ms1 H1 ms' H' := (Fut.own hD).trans f'
    by_cases hlt : i < ds.length
    · refine .inr ⟨(isI.step ms' H' S' i fI s' hlt).1, fun H' => ∃ ms' S', Fut (ms1 ++ [D]) (upd H1 D (.dK [])) ms' H' ∧ StOk W ms' S' H' ∧
          Post W (relD W) ms1 H1 ((dcmL ms1.length g t fk fv (wipeD ρ vs) (ds.drop (i + 1)) S').bindN fun _ S2 => fin ms1.length S2) Q (fun c d H' => Wx c d σ H'),
        fun H2 ⟨ms2, S2, q⟩ => ⟨ds.length - (i + 1), by omega, rfl, hlt, ms2, S2, q⟩, fun x H2 y => ?_⟩
      obtain ⟨f2, s2', r2⟩ := (isI.step ms' H' S' i fI s' hlt).2 x H2 y
      have r3 := r2 ds[i] (List.getElem?_eq_getElem hlt)
      rw [List.drop_eq_getElem_cons hlt] at p'
      unfold dcmL at p'
      have ev2 : Ev W (wipeD ρ vs) (L2.wipe σ vs) ms' H2 := (ev.fut (f1.trans (fI.trans f2))).wipe vs
      cases hgd : g ds[i] (wipeD ρ vs) S' with
      | none => rw [hgd] at p'; exact p'.elim
      | some ρ1 =>
        rw [hgd] at p'
        refine ⟨ms', S', wipeD ρ vs, ds[i], r3, ev2, s2', ρ1, hgd, fun σ3 ev3 sets => ⟨?_, ms', S', ρ1, ev3, s2', ?_⟩⟩
        · have w1 := sets vs hv
          have w2 : L2.wipe (L2.wipe σ vs) vs = L2.wipe σ vs := by
            apply List.ext_getElem?
            intro j
            rw [wipe_at, wipe_at, wipe_length]
            by_cases hj : j ∈ vs
            · rw [if_pos hj, if_pos hj]
            · rw [if_neg hj, if_neg hj]
          rw [w1, w2]
        · cases ht : t ρ1 S' with
          | bad => dsimp only at p'; rw [ht] at p'; exact p'.elim
          | exc c ks es S2 => dsimp only at p'; rw [ht] at p'; exact p'.elim
          | ok b S2 =>
            dsimp only at p'
            rw [ht, R.bindN_ok] at p'
            intro b' ms3 H3 f3 s3 e3
            cases e3
            cases b with
            | false => exact iteF ⟨ms3, S2, f'.trans (f2.trans f3), s3, p'⟩
            | true =>
              refine iteT ⟨ms3, S2, ρ1, ev3.fut f3, s3, ?_⟩
              rw [if_pos rfl] at p'
              cases he : fk ρ1 S2 with
              | bad => rw [he] at p'; exact p'.elim
              | exc c ks es S3 => rw [he] at p'; exact p'.elim
              | ok yk S3 =>
                rw [he, R.bindN_ok] at p'
                intro vk ms4 H4 f4 s4 r4
                refine ⟨ms4, S3, ρ1, (ev3.fut f3).fut f4, s4, ?_⟩
                cases hv : fv ρ1 S3 with
                | bad => rw [hv] at p'; exact p'.elim
                | exc c ks es S4 => rw [hv] at p'; exact p'.elim
                | ok z S4 =>
                  rw [hv, R.bindN_ok] at p'
                  intro v ms5 H5 f5 s5 r5
                  cases hkey : keyD yk with
                  | none => rw [hkey] at p'; exact p'.elim
                  | some k =>
                    rw [hkey] at p'
                    dsimp only at p'
                    have fD : Fut (ms1 ++ [D]) (upd H1 D (.dK [])) ms5 H5 := f'.trans (f2.trans (f3.trans (f4.trans f5)))
                    have atD5 : ms5[ms1.length]? = some D := by
                      obtain ⟨l, rfl⟩ := fD.ext
                      refine pre_get ?_
                      rw [List.getElem?_append_right (Nat.le_refl _), Nat.sub_self]
                      rfl
                    unfold putC at p'
                    cases hc : S4[ms1.length]? with
                    | none => rw [hc] at p'; exact p'.elim
                    | some cl =>
                      rw [hc] at p'
                      cases cl with
                      | dic ks xs =>
                        dsimp only at p'
                        split at p'
                        · rename_i hl
                          obtain ⟨l1, l2⟩ := Bool.and_eq_true_iff.mp hl
                          have l2 : NLe (xs.length + 1) sizeLine := of_decide_eq_true l2
                          obtain ⟨us, e1, hlk, rr⟩ := s5.cell _ _ _ atD5 hc
                          refine ⟨ks.zip us, k, keyD_of r4 hkey, e1, ?_, ms5, S4.set ms1.length (.dic (kputK ks k) (kputV k z ks xs)), fD.trans (Fut.write (List.mem_of_getElem? atD5)), ?_, ?_⟩
                          · have q1 := rr.length
                            have q2 : (ks.zip us).length = us.length := by rw [List.length_zip, hlk, Nat.min_self]
                            rw [q2, q1]
                            exact l2
                          · refine s5.write atD5 (c := .dic (kputK ks k) (kputV k z ks xs)) ⟨kputV k v ks us, ?_, kput_len hlk, ?_⟩
                            · rw [upd_same, kput_zip hlk]
                            · rw [era_write (List.mem_of_getElem? atD5)]
                              exact RpL.kput (Rp.take _ _ l1 r5) rr
                          · rw [R.bindN_ok] at p'
                            exact p'
                        · exact p'.elim
                      | obj _ _ _ => exact p'.elim
                      | lst _ => exact p'.elim
                      | dead => exact p'.elim
    · have e : i = ds.length := by omega
      subst e
      refine .inl ⟨isI.stop ms' H' S' fI s', ?_⟩
      rw [List.drop_length] at p'
      exact hfin ms1 ms' H1 H' S' D Q _ hD s' fI atD p'
section
variable {X : Cx} {Y : Yx} {kx vx tg iter : Expr} {ifs : List Expr} {scope : Scope} {own : List (Str × Nat)} {pos : Pos} {fi : F (List D)} {is : List Nat} {g : GF} {t : F Bool} {fk fv : EF}
theorem d_dcomp {fin : Nat → Sto → R D} (hfin : Fin (wd X Y) fin) (hc : X.calm = true) (hN : X.N.Nodup) (hi : DI X Y tg iter fi) (ok : BlkOk X.N X.env.scope scope own) (hv : ∀ i ∈ is, i ∈ own.map (·.2))
    (hg : ∀ (s : Shared) (H : Hp) (C : Addr) (cl : List (Str × Addr)) (fp : List Addr), DG (X.blk s H scope (compEnvC scope cl C X.env) fp) (yN Y) tg is g) (ht : ∀ (s : Shared) (H : Hp) (C : Addr) (cl : List (Str × Addr)) (fp : List Addr), DTs (X.blk s H scope (compEnvC scope cl C X.env) fp) (yN Y) ifs t)
    (hk : ∀ (s : Shared) (H : Hp) (C : Addr) (cl : List (Str × Addr)) (fp : List Addr), DE (X.blk s H scope (compEnvC scope cl C X.env) fp) (yN Y) kx fk)
    (he : ∀ (s : Shared) (H : Hp) (C : Addr) (cl : List (Str × Addr)) (fp : List Addr), DE (X.blk s H scope (compEnvC scope cl C X.env) fp) (yN Y) vx fv) (hs : ∀ x, foldedSetIterable iter X.env x = pure x := by intro _; rfl) :
    DE X Y (.DictComp kx vx [⟨tg, iter, ifs, 0⟩] scope pos) (dcmG fin (own.map (·.2)) fi g t fk fv) :=
  PE.weak (pe_dc (g := tG (wd X Y) is g) (tt := tX (wd X Y) (fun _ _ _ _ => False) relB t) (tk := tX (wd X Y) (fun _ _ _ _ => False) (relD (wd X Y)) fk) (tv := tX (wd X Y) (fun _ _ _ _ => False) (relD (wd X Y)) fv) hc hN hi ok hg ht hk he hs) fun σ H Q h => dcm_of (W := wd X Y) hfin hv h
end
end Zd

set_option Elab.async false
set_option linter.all false
set_option maxRecDepth 100000
set_option maxHeartbeats 4000000
set_option autoImplicit false
/-! Zd: own __iter__ that is iter(self.f), f a tuple; len of own. -/
namespace Zd
open PySem PySem.Spec L2
open PyProof.Rows hiding St

/-! ### iter(t), t a tuple -/
def ItTO (T it : Addr) (i : Nat) : HO := .ext fun h => h.IsTupleIter it T i
theorem itT_ok {P : Program} {w : World} {H : Hp} {h : Heap} {T it : Addr} {i : Nat} (e : h.IsTupleIter it T i) : ObjOk P w H h it (ItTO T it i) := by
  have e' := e
  obtain ⟨o, ho, _⟩ := e'
  exact ⟨e, ⟨o, ho⟩, fun h1 h2 q k => q.at fun o z => k _ z⟩
/-- any size -/
def rIterT (K : PySem.W.Frag) (n : Nat) : List V → Hp → VK → Prop := fun xs H Q => ∃ (T : Addr) (zs : List V), xs = [.ref T] ∧ SqT K H T zs ∧ ∀ it, H it = none → n ≤ it → Q (.ref it) (upd H it (ItTO T it 0))
section
variable {X : Cx}
theorem call_iterT : CallR X (.builtin "iter") (rIterT X.K X.s_0.heap.objs.size) := by
  intro pins s σ H xs us Q I r h
  obtain ⟨T, zs, rfl, hq, q⟩ := h
  obtain ⟨u, rfl, ru⟩ := vals1 r
  cases ru
  obtain ⟨its, rv, pl, hz⟩ := I.tuple hq
  refine Calls.call_function_entry (by decide +kernel) (by decide +kernel) PySem.W.kdk_entry_iter (PySem.W.kdk_args_iter _) ?_
  unfold Builtin.«iter»
  refine wpAny_bind (m := someArgs "iter" 1 2 _) (wpAny_of_eq (a := [Value.ref T]) (by first | rfl | kernel_rfl!) ?_)
  show wpAny _ _ (pyIter (.ref T) >>= _) _ _ _
  refine wpAny_bind (wpAny_pyIter_tuple pl ?_)
  refine wpAny_pure ⟨_, rfl, ?_⟩
  exact ⟨.ref s.heap.objs.size, _, I.laid (t' := s.toks) (fun b u e => Heap.get?_push_of_some _ e) (Nat.le_refl _) (itT_ok ⟨_, Heap.get?_push_size _ rfl, rfl, rfl⟩), rfl, q _ (I.hok.fresh (Nat.le_refl _)) I.sz⟩
end

/-! ### a def entered, at one call -/
section
variable {P : Program} {w : World} {K : PySem.W.Frag} {mg : Str → Option Value} {base : Heap}
theorem enter {x qual : Str} {st : Stmt} {f : Addr} {fd : FuncData} {N ps : List Str} {k : Nat} {A : Around} {outer : List Env} {s : Shared} {H : Hp} {args : Args} {us : List Value} {vs : List V} {Q : VK} {E : XK} (F : Fun K x qual st f fd) (S : FnScope N ps (defScope st)) (len : vs.length = ps.length)
    (room : Room (k + 1) A) (env : Env0 P w K mg base A outer s H) (bind_ : BindsTo s fd args (ps.zip us)) (vals : Vals vs us)
    (body : ∀ cdv : Value, Room k (A.deeper (envOfC qual (defScope st) s.heap.objs.size f cdv)) → ∃ t, PSs (cxOf (L2.CX P w) P w K mg base N qual (defScope st) f cdv A outer s H E) (defBody st) t ∧ t { nx := fun _ H' => Q .non H', rt := Q } (start N vs) H) :
    codeAny (model P w) A (.call (.ref f) args) (CR (L2.CX P w) outer P w H s Q E) s := by
  obtain ⟨oc, od, kV, doc, pm, an, cdv, ct, osl, rfl, lk, hcd⟩ := F.ex
  have here : K.In s.heap := env.mod.kin.keeps fun a u h => (env.bs a u h).1
  have noL : s.heap.NoLimit := env.mod.nolimit.keeps fun a u h => (env.bs a u h).1
  have kinds : ∀ q ∈ ps.zip us, (defScope st).names.lookup q.1 = some .local ∨ ((defScope st).names.lookup q.1 = some .cell ∧ ((cellsFrom (s.heap.objs.size + 1) (defScope st).names []).lookup q.1).isSome = true) := fun q hq =>
    (S.par q.1 (List.of_mem_zip (show (q.1, q.2) ∈ ps.zip us from hq)).1).imp id fun c => ⟨c, PySem.W.cellsFrom_some _ _ _ (.inl c)⟩
  refine codeAny_call_function room.depth (here _ _ lk) rfl S.co S.gen rfl (PySem.W.codeRec_of here hcd) (bind_ (model P w) _ _ _ (wpAny_newFunctionEnv_cells S.kind kinds fun env' he s1 fresh => ?_))
  subst he
  refine ⟨noL.keeps fresh.toInCall.keep, codeAny_func ?_⟩
  obtain ⟨t, ht, hq⟩ := body cdv (room.deeper _)
  have inv := inv_start (CX := L2.CX P w) (E := E) (cd := cdv) S room.hd env len vals fresh
  have fin : ∀ {σ' : St} {H' : Hp} {v : V} {u : Value} {s' : Shared}, L2.Inv (cxOf (L2.CX P w) P w K mg base N qual (defScope st) f cdv A outer s H E) [] σ' H' s' → RelV v u → Q v H' → CE outer P w H s Q u s' := fun {σ' H' v u s'} J rv q => ⟨v, H', J.os, J.bare, J.base, J.hok, rv, q⟩
  refine wpAny_mono (ht.run [] s1 (start N vs) H _ inv hq) (fun fl s' ends => ?_) fun _ _ z => z
  match fl with
  | .next => obtain ⟨σ', H', J, q⟩ := ends; exact fin (u := Value.none) (v := V.non) J rfl q
  | .ret u => obtain ⟨v, σ', H', J, rv, q⟩ := ends; exact fin J rv q
  | .brk => obtain ⟨_, _, _, no⟩ := ends; exact no.elim
  | .cont => obtain ⟨_, _, _, no⟩ := ends; exact no.elim
/-- the def at f gives the iterator of its object's field fl -/
def FnI (P : Program) (w : World) (K : PySem.W.Frag) (mg : Str → Option Value) (base : Heap) (k : Nat) (f C : Addr) (fl : Str) : Prop := ∀ (A : Around) (outer : List Env) (s : Shared) (H : Hp) (a dx T : Addr) (fs : List (Str × V)) (us : List V), Room k A → Env0 P w K mg base A outer s H → H a = some (.ins C dx fs) →
  fs.lookup fl = some (.ref T) → SqT K H T us → codeAny (model P w) A (.call (.ref f) ⟨[.ref a], []⟩) (fun r s' => ∃ it, r = .ok (.ret (.ref it)) ∧ s.heap.objs.size ≤ it ∧ CE outer P w H s (fun v H' => v = .ref it ∧ H' = upd H it (ItTO T it 0)) (.ref it) s') s
theorem fnI_mk {qual fl : Str} {st : Stmt} {f C : Addr} {fd : FuncData} {N : List Str} {k : Nat} (F : Fun K "__iter__" qual st f fd) (S : FnScope N ["self"] (defScope st)) (hb : ∀ s : Shared, ∀ u : Value, K.In s.heap → BindsTo s fd ⟨[u], []⟩ [("self", u)]) (cl : Cls K C) (na : NoAttr K C fl)
    (body : ∀ (cdv : Value) (A : Around) (outer : List Env) (s : Shared) (H : Hp) (E : XK), PSs (cxOf (L2.CX P w) P w K mg base N qual (defScope st) f cdv A outer s H E) (defBody st) (tRet (tCB (rIterT K s.heap.objs.size) (tCons (tFld K (tVar 0) fl) tNil)))) : FnI P w K mg base (k + 1) f C fl := by
  intro A outer s H a dx T fs us hr e0 ha hl hs
  have here : K.In s.heap := e0.mod.kin.keeps fun b u h => (e0.bs b u h).1
  refine codeAny_mono (enter (E := fun _ _ _ => False) (Q := fun v H' => ∃ it, v = .ref it ∧ s.heap.objs.size ≤ it ∧ H' = upd H it (ItTO T it 0)) (args := ⟨[.ref a], []⟩) (us := [.ref a]) (vs := [.ref a]) F S rfl hr e0 (hb s (.ref a) here) (.cons rfl .nil) fun cdv _ => ⟨_, body cdv A outer s H _, ?_⟩) fun r s' q => ?_
  · exact ⟨.ref a, rfl, a, C, dx, fs, .ref T, rfl, ha, cl, na, hl, T, us, rfl, hs, fun it hit hn => ⟨it, rfl, hn, rfl⟩⟩
  · match r with
    | .error ex => obtain ⟨_, _, _, _, _, _, _, _, _, _, _, _, no⟩ := q; exact no.elim
    | .ok .next => exact q.elim
    | .ok .brk => exact q.elim
    | .ok .cont => exact q.elim
    | .ok (.ret u) =>
      obtain ⟨v, H', os, bare, un, hok, rv, it, rfl, hn, rfl⟩ := q
      obtain rfl : u = Value.ref it := rv
      exact ⟨it, rfl, hn, .ref it, _, os, bare, un, hok, rfl, rfl, rfl⟩
/-- what one knows of an own class that can be walked -/
structure KI (P : Program) (w : World) (K : PySem.W.Frag) (mg : Str → Option Value) (base : Heap) (c fl : Str) (k : Nat) : Prop where
  ex : ∃ C f : Addr, mg c = some (.ref C) ∧ PySem.W.findIn K (.ref C) "__iter__" = some (some (.ref f)) ∧ PySem.W.isFn K (.ref f) = true ∧ FnI P w K mg base k f C fl
end

/-! ### list(o) -/
section
variable {X : Cx} {pins : List (Addr × Obj)} {σ : St} {H : Hp} {s : Shared}
/-- the list at q is filled, the iterator at it spent -/
theorem filled {s' : Shared} {q it : Addr} {us : List V} {its : List Value} {c : Nat} (I : L2.Inv X pins σ H s) (fq : FpOk X pins H q) (fi : FpOk X pins H it) (k : ∀ b o, b ≠ q → b ≠ it → s.heap.get? b = some o → s'.heap.get? b = some o) (ho : s'.os = s.os) (hg : AllBare s'.gens)
    (hq : s'.heap.get? q = some { cls := .type "list", dict := none, data := .seq its.toArray c, slots := #[] }) (rv : Vals us its) (hz : us.length ≤ sizeLine) : L2.Inv X pins σ (upd H q (.lst us)) s' := by
  have ne : ∀ b u, H b = some u → b ≠ q ∧ b ≠ it := fun b u e => ⟨fun z => (by rw [z, fq.1] at e; cases e), fun z => (by rw [z, fi.1] at e; cases e)⟩
  have nx : ∀ {b : Addr}, b ∉ [q, it] → b ≠ q ∧ b ≠ it := fun {b} h => ⟨fun z => h (by simp [z]), fun z => h (by simp [z])⟩
  refine I.call' (ch := [q, it]) ho ⟨fun b o e _ _ hx => k b o (nx hx).1 (nx hx).2 e, fun b o e _ _ hx => ⟨o.slots, k b o (nx hx).1 (nx hx).2 e⟩, fun b o _ n hx => by rw [upd_ne (nx hx).1]; exact n, fun b o e hx => ⟨o, k b o (nx hx).1 (nx hx).2 e⟩,
    fun b xs e => by rw [upd_ne (ne b _ e).1]; exact e, fun b o u e => by rw [upd_ne (ne b _ e).1]; exact e, fun b ps e => ⟨#[], by rw [upd_ne (ne b _ e).1, e]; simp⟩⟩ (fun b u e => ?_) hg (fun b hb => ?_)
  · by_cases z : b = q
    · subst z
      rw [upd_same] at e
      cases e
      exact ⟨hz, its, c, rv, hq⟩
    · rw [upd_ne z] at e
      refine (I.hok b u e).stay (fun c v w e' => ?_) (fun c e' => by rw [upd_ne (ne c _ e').1]; exact e') fun c xs e' => by rw [upd_ne (ne c _ e').1]; exact e'
      have m : c ≠ q ∧ c ≠ it := by
        rcases w with rfl | w
        · exact ne c _ e
        · exact ne c _ w
      exact k c v m.1 m.2 e'
  · have h : b = q ∨ b = it := by simpa using hb
    rcases h with rfl | rfl
    · exact ⟨fq.2.2.2.1, fq.2.1, fq.2.2.2.2.1, fq.2.2.2.2.2⟩
    · exact ⟨fi.2.2.2.1, fi.2.1, fi.2.2.2.2.1, fi.2.2.2.2.2⟩
theorem tuple_next : typeLookup (.type "tuple_iterator") ("__next__" : Str) = pure (some (.builtin "tuple_iterator.__next__")) := PySem.F.slot_tuple_iterator_next.lookup
theorem list_own {k : Nat} {C f a dx T : Addr} {fl : Str} {fs : List (Str × V)} {us : List V} {Q : VK} {Z : Hp → Prop} (I : L2.Inv X pins σ H s) (hr : Room (k + 2) X.A) (hh : X.A.handled = none) (ha : H a = some (.ins C dx fs)) (hl : fs.lookup fl = some (.ref T)) (hs : SqT X.K H T us)
    (hi : PySem.W.findIn X.K (.ref C) "__iter__" = some (some (.ref f))) (hf : PySem.W.isFn X.K (.ref f) = true) (FI : FnI X.prog X.w X.K X.mg X.base k f C fl)
    (hint : ∀ pins' s', L2.Inv X (pins ++ pins') σ H s' → wpAny (model X.prog X.w) X.A.in1.in1 (Builtin.List.listLengthHint (.ref a)) (fun _ s2 => ∃ H3, L2.Inv X (pins ++ pins') σ H3 s2 ∧ Z H3) X.xe s')
    (hZ : ∀ H3, Z H3 → SqT X.K H3 T us ∧ ∀ q, H3 q = none → Q (.ref q) (upd H3 q (.lst us))) : wpAny (model X.prog X.w) X.A (call (.type "list") [.ref a]) (EP X pins σ Q) X.xe s := by
  refine callType_codes (Q₁ := fun obj s₁ => obj = .ref s.heap.objs.size ∧ s₁ = { s with heap := s.heap.push { cls := .type "list", data := .seq #[] } }) PySem.F.called_list (PySem.F.typeCall_list_1 _) PySem.F.entry_list_init (code_list_new _ ⟨rfl, rfl⟩) fun obj s₁ h₁ => ?_
  obtain ⟨rfl, rfl⟩ := h₁
  generalize hq : s.heap.objs.size = q
  have hS : (s.heap.push { cls := .type "list", data := .seq #[] }).get? q = some { cls := .type "list", data := .seq #[] } := by rw [← hq]; exact Heap.get?_push_size _ rfl
  refine ⟨⟨_, hS, rfl⟩, PySem.F.args_list_init_2 _ _, ?_⟩
  have fr : H q = none := by rw [← hq]; exact I.hok.fresh (Nat.le_refl _)
  have fq : FpOk X pins H q := I.fpOk (by rw [hq]; exact Nat.le_refl _) fr
  have I1 : L2.Inv X pins σ H { s with heap := s.heap.push { cls := .type "list", data := .seq #[] } } := I.kept (t' := s.toks) fun b u e => Heap.get?_push_of_some _ e
  show wpAny _ _ (do let old ← Builtin.List.listItems (.ref q); Builtin.List.listUpdate (.ref q) (fun _ => #[]); letGo old.toList.reverse; Builtin.List.listExtendWith (.ref q) (.ref a) .none) _ _ _
  refine wpAny_bind ?_
  unfold Builtin.List.listItems
  refine wpAny_bind (wpAny_seqItems hS rfl (wpAny_pure ?_))
  show wpAny _ _ (updateSeq q (fun _ => #[]) >>= fun _ => letGo (#[] : Array Value).toList.reverse >>= fun _ => Builtin.List.listExtendWith (.ref q) (.ref a) .none) _ _ _
  refine wpAny_bind (wpAny_updateSeq hS rfl ?_)
  refine wpAny_bind (wpAny_letGo ?_)
  have I2' := I1.turned (it := q) (t' := s.toks) (h' := (s.heap.push { cls := .type "list", data := .seq #[] }).update q (Obj.mapSeq fun _ => #[])) (fun b o hb e => (Heap.get?_update_ne _ _ _ _ hb).trans e) fq.1 fq.2.1 fq.2.2.2.1 fq.2.2.2.2.1 fq.2.2.2.2.2
  have I2 : L2.Inv X pins σ H { s with heap := (s.heap.push { cls := .type "list", data := .seq #[] }).update q (Obj.mapSeq fun _ => #[]) } := I2'
  obtain ⟨c1, hq2⟩ : ∃ c1, ((s.heap.push { cls := .type "list", data := .seq #[] }).update q (Obj.mapSeq fun _ => #[])).get? q = some { cls := .type "list", dict := none, data := .seq #[] c1, slots := #[] } := ⟨_, get?_update_seq hS (fun _ => #[])⟩
  generalize hs2 : ({ s with heap := (s.heap.push { cls := .type "list", data := .seq #[] }).update q (Obj.mapSeq fun _ => #[]) } : Shared) = s2 at I2
  have e2 : s2.heap = (s.heap.push { cls := .type "list", data := .seq #[] }).update q (Obj.mapSeq fun _ => #[]) := by rw [← hs2]
  rw [← e2] at hq2
  have nqa : q ≠ a := ne_of_none ha fr |>.symm
  obtain ⟨mA, O, _⟩ := ins_get I2.hok ha
  obtain ⟨od, J, _⟩ := O.look
  obtain ⟨m0, hF⟩ := I2.fr
  unfold Builtin.List.listExtendWith
  refine wpAny_bind (J.type.here ?_)
  have n1 : Builtin.List.listSameRef (.ref q) (.ref a) = false := by simp [Builtin.List.listSameRef, nqa]
  have n2 : (Value.ref C == Value.type "list") = false := rfl
  have n3 : (Value.ref C == Value.type "tuple") = false := rfl
  simp only [n1, n2, n3, Bool.or_false, Bool.false_eq_true, if_false]
  -- the iterator
  have p0 := I2.pinned (fp := [q]) (fun b hb => by obtain rfl : b = q := (by simpa using hb); exact fq) (fun b hb => by obtain rfl : b = q := (by simpa using hb); exact ⟨_, hq2, fun v z => nomatch z⟩)
  refine wpAny_bind (PySem.W.owit_iter hF I2.ok.mod.kin J hi hf ?_)
  refine wpAny_call (codeAny_mono (FI X.A.in1.in1 X.stack s2 H a dx T fs us hr.in1.in1 I2.env0.in1.in1 ha hl hs) fun r s3 hc => ?_)
  obtain ⟨it, rfl, hit, hce⟩ := hc
  obtain ⟨v, H', I3, rv, ev, eH⟩ := p0.after hce
  subst eH
  have nit : H it = none := I2.hok.fresh hit
  have fi0 : FpOk X pins H it := I2.fpOk hit nit
  have tit : s3.heap.IsTupleIter it T 0 := (I3.hok it _ upd_same).1
  have I4 : L2.Inv X (pins ++ pinsAt [q] s2.heap) σ H s3 := by
    have := ItX.inv_drop I3 upd_same
    rw [ItX.dropH_upd nit] at this
    exact this
  show PySem.W.OwitIt _ _ _ _ (.ref it) s3
  unfold PySem.W.OwitIt
  refine wpAny_specialOf (name := ("__next__" : Str)) tit.typeIs tuple_next ?_
  show wpAny _ _ (holding [Value.ref it] (Builtin.List.listLengthHint (.ref a)) >>= _) _ _ s3
  refine wpAny_bind (wpAny_holding ?_)
  have hq3 : s3.heap.get? q = some { cls := .type "list", dict := none, data := .seq #[] c1, slots := #[] } := (I4.pin (q, _) (List.mem_append_right _ (List.mem_append_right _ (mem_pinsAt (by simp) hq2)))).1
  obtain ⟨oi, hoi, hci, hdi⟩ := id tit
  have I5 : L2.Inv X (pins ++ pinsAt [q, it] s3.heap) σ H s3 := (I4.unpinned).pinned (fp := [q, it]) (fun b hb => by
      have h : b = q ∨ b = it := by simpa using hb
      rcases h with rfl | rfl
      · exact fq
      · exact fi0) (fun b hb => by
      have h : b = q ∨ b = it := by simpa using hb
      rcases h with rfl | rfl
      · exact ⟨_, hq3, fun v z => nomatch z⟩
      · exact ⟨_, hoi, fun v z => by rw [hdi] at z; cases z⟩)
  refine wpAny_mono (hint (pinsAt [q, it] s3.heap) s3 I5) (fun room s4 hz => ?_) fun _ _ e => e
  obtain ⟨H3, I6, hz3⟩ := hz
  obtain ⟨hT3, hQ⟩ := hZ H3 hz3
  have pq := I6.pin (q, _) (List.mem_append_right _ (List.mem_append_right _ (mem_pinsAt (by simp) hq3)))
  have pi := I6.pin (it, _) (List.mem_append_right _ (List.mem_append_right _ (mem_pinsAt (by simp) hoi)))
  have hq4 : s4.heap.get? q = some { cls := .type "list", dict := none, data := .seq #[] c1, slots := #[] } := pq.1
  have ti4 : s4.heap.IsTupleIter it T 0 := ⟨oi, pi.1, hci, hdi⟩
  have I7 : L2.Inv X pins σ H3 s4 := I6.unpinned
  have fq3 : FpOk X pins H3 q := ⟨pq.2.1, fq.2⟩
  have fi3 : FpOk X pins H3 it := ⟨pi.2.1, fi0.2⟩
  obtain ⟨its, rvs, plT, hzT⟩ := I7.tuple hT3
  have nTq : T ≠ q := fun z => by
    obtain ⟨o, ho, hc, _⟩ := plT
    rw [z, hq4] at ho
    cases ho
    exact absurd (show Value.type "list" = Value.type "tuple" from hc) (by decide)
  have nTi : T ≠ it := fun z => by
    obtain ⟨o, ho, hc, _⟩ := plT
    rw [z, pi.1] at ho
    cases ho
    rw [hci] at hc
    exact absurd hc (by decide)
  have nqi : q ≠ it := fun z => by
    rw [z, pi.1] at hq4
    cases hq4
    exact absurd (show Value.type "list" = Value.type "tuple_iterator" from hci) (by decide)
  have loop : ∀ (s5 : Shared) (c5 : Nat), (∀ b o, b ≠ q → s4.heap.get? b = some o → s5.heap.get? b = some o) → s5.os = s4.os → s5.gens = s4.gens → s5.heap.get? q = some { cls := .type "list", dict := none, data := .seq #[] c5, slots := #[] } →
      wpAny (model X.prog X.w) X.A.in1.in1 (again (.builtin "list.extend.loop" ⟨[.ref q, .ref it, .none], []⟩)) (fun fin s' => match fin with | .done f => wants (fun r s₂ => r = .none ∧ EP X pins σ Q (.ref q) s₂) X.xe (.ok f) s' | .again c' => c'.quiet = true ∧ codeAny (model X.prog X.w) X.A.in1 c' (wants (fun r s₂ => r = .none ∧ EP X pins σ Q (.ref q) s₂) X.xe) s')
        (fun e s' => wants (fun r s₂ => r = .none ∧ EP X pins σ Q (.ref q) s₂) X.xe (.error e) s') s5 := by
    intro s5 c5 k5 o5 g5 hq5
    refine wpAny_pure ⟨plainId_quiet PySem.F.plain_extend_loop _, ?_⟩
    have few : its.toArray.size ≤ sizeLine := by rw [List.size_toArray, ← rvs.length]; exact hzT
    refine codeAny_extend_loopS (A := X.A.in1) ((Walks.tuple (by simp [hh]) it T nTi its.toArray).toS) few q (by simp only [List.mem_cons, List.not_mem_nil, or_false, not_or]; exact ⟨nqi, nTq.symm⟩) .none (its.toArray.size - 0) 0 s5 #[] c5 rfl (Nat.zero_le _)
      ⟨ti4.at fun o e => k5 it o nqi.symm e, Heap.IsTuple.at plT fun o e => k5 T o nTq e⟩ hq5 (ItemsOf.nil _) fun s6 acc c6 mv hq6 hacc => ?_
    have eacc : acc.toList = its := by
      refine items_out (out := its) (Pv := fun i v => its.toArray[i]? = some v) ?_ fun j v h => by simpa using h
      simpa using hacc
    refine ⟨rfl, .ref q, upd H3 q (.lst us), filled (its := its) (c := c6) I7 fq3 fi3 (fun b o h1 h2 e => mv.heap b o (by simp only [List.mem_cons, List.not_mem_nil, or_false, not_or]; exact ⟨h1, h2⟩) (k5 b o h1 e)) (mv.os.trans o5) (by rw [show s6.gens = s5.gens from mv.gens, g5]; exact I7.bare) ?_ rvs (by rw [rvs.length]; simpa using few), rfl, hQ q fq3.1⟩
    rw [hq6, ← eacc]
  refine wpAny_ite_split (fun _ => ?_) (fun _ => loop s4 c1 (fun b o _ e => e) rfl rfl hq4)
  refine wpAny_bind (wpAny_rule ?_)
  refine wpAny_bind ?_
  show wpAny _ _ (updateSeq q (·.push .none) >>= fun _ => updateSeq q (·.pop)) _ _ _
  refine wpAny_bind (wpAny_updateSeq hq4 rfl ?_)
  obtain ⟨c2, hq7⟩ : ∃ c2, (s4.heap.update q (Obj.mapSeq (·.push Value.none))).get? q = some { cls := .type "list", dict := none, data := .seq #[Value.none] c2, slots := #[] } := ⟨_, get?_update_seq hq4 (·.push Value.none)⟩
  refine wpAny_updateSeq hq7 rfl ?_ (by show 1 ≤ sizeLine; rw [sizeLine_eq]; decide) (by show 0 ≤ sizeLine + 1; exact Nat.zero_le _)
  obtain ⟨c3, hq8⟩ : ∃ c3, ((s4.heap.update q (Obj.mapSeq (·.push Value.none))).update q (Obj.mapSeq (·.pop))).get? q = some { cls := .type "list", dict := none, data := .seq #[] c3, slots := #[] } := ⟨_, get?_update_seq hq7 (·.pop)⟩
  exact loop _ c3 (fun b o hb e => (Heap.get?_update_ne _ _ _ _ hb).trans ((Heap.get?_update_ne _ _ _ _ hb).trans e)) rfl rfl hq8
end

/-! ### built-ins that ask own methods -/
def CallS (X : Cx) (wx : WX) (f : Value) (g : List D → Sto → R D) : Prop :=
  ∀ (pins : List (Addr × Obj)) (s : Shared) (σ : St) (ms : List Addr) (S : Sto) (H : Hp) (vs : List V) (us : List Value) (ds : List D) (Q : VK), L2.Inv X pins σ H s → Vals vs us → StOk (wd X ⟨none, wx⟩) ms S H →
    RpL (wd X ⟨none, wx⟩) ms (era ms H) vs ds → Post (wd X ⟨none, wx⟩) (relD (wd X ⟨none, wx⟩)) ms H (g ds S) Q (fun c dd H' => wx c dd σ H') → wpAny (model X.prog X.w) X.A (call f us) (EP X pins σ Q) X.xe s
section
variable {X : Cx} {wx : WX} {f : Value} {g : List D → Sto → R D} {r : List V → Hp → VK → Prop} {x : Str} {p pos : Pos} {e : Expr} {es : List Expr} {fs : F (List D)} {id T : String}
theorem calls_of (hc : CallR X f r) (hr : CallD (wd X ⟨none, wx⟩) r g) : CallS X wx f g := fun pins s σ ms S H vs us ds Q I rv st rd p => hc pins s σ H vs us Q I rv (hr ms S H vs ds Q _ st rd p)
/-- values told, then g -/
def ArgsAt (X : Cx) (wx : WX) (σ : St) (g : List D → Sto → R D) (Q : VK) (vs : List V) (H : Hp) : Prop := ∃ ms S ds, StOk (wd X ⟨none, wx⟩) ms S H ∧ RpL (wd X ⟨none, wx⟩) ms (era ms H) vs ds ∧ Post (wd X ⟨none, wx⟩) (relD (wd X ⟨none, wx⟩)) ms H (g ds S) Q (fun c dd H' => wx c dd σ H')
theorem app_args {σ : St} {H : Hp} {Q : VK} (h : tX (wd X ⟨none, wx⟩) wx (relD (wd X ⟨none, wx⟩)) (appF g fs) σ H Q) : tX (wd X ⟨none, wx⟩) wx (relL (wd X ⟨none, wx⟩)) fs σ H (ArgsAt X wx σ g Q) := by
  obtain ⟨ms, S, ρ, ev, st, p⟩ := h
  exact ⟨ms, S, ρ, ev, st, Post.split p fun ds S1 vs ms1 H1 _ f1 s1 r1 p1 => ⟨ms1, S1, ds, s1, r1, p1⟩⟩
theorem d_callSB (hc : CallS X wx (.builtin id) g) (hg : Gl X x) (hm : X.mg x = none) (hv : bootBuiltins x = some (.builtin id)) (ha : DA X ⟨none, wx⟩ (e :: es) fs) (hn : x ≠ "__name__" := by decide) (hdb : (x == ("__debug__" : Str)) = false := by decide)
    (he : starEach (e :: es) X.env = (false, eval e X.env) :: starEach es X.env := by rfl) (hpl : (backTo pos (starEach es X.env)).any (·.1) = false := by rfl) : DE X ⟨none, wx⟩ (.Call (.Name x p) (e :: es) [] pos) (appF g fs) := by
  constructor
  intro pins s σ H Q I h
  refine wpAny_Call_Name_kw (ld_blt I hg hm hv ?_ hn hdb)
  exact PyProof.Rows.callWith_builtin1 (thn (ha.run pos pins s σ H _ I (app_args h)) fun us s1 ⟨vs, H1, I1, r1, ms, S, ds, st, rd, q1⟩ => hc pins s1 σ ms S H1 vs us ds Q I1 r1 st rd q1) he hpl
theorem d_callSTy (hc : CallS X wx (.type T) g) (hg : Gl X x) (hm : X.mg x = none) (hv : bootBuiltins x = some (.type T)) (ha : DA X ⟨none, wx⟩ (e :: es) fs) (hn : x ≠ "__name__" := by decide) (hdb : (x == ("__debug__" : Str)) = false := by decide)
    (he : starEach (e :: es) X.env = (false, eval e X.env) :: starEach es X.env := by rfl) (hpl : (backTo pos (starEach es X.env)).any (·.1) = false := by rfl) : DE X ⟨none, wx⟩ (.Call (.Name x p) (e :: es) [] pos) (appF g fs) := by
  constructor
  intro pins s σ H Q I h
  refine wpAny_Call_Name_kw (ld_blt I hg hm hv ?_ hn hdb)
  exact PyProof.Rows.callWith_type1 (thn (ha.run pos pins s σ H _ I (app_args h)) fun us s1 ⟨vs, H1, I1, r1, ms, S, ds, st, rd, q1⟩ => hc pins s1 σ ms S H1 vs us ds Q I1 r1 st rd q1) he hpl

/-! ### len -/
noncomputable def lenO (tab : List (Str × DFun)) (g : List D → Sto → R D) (ds : List D) (S : Sto) : R D := match ds with
  | [d] => match asO d S with
    | some (c, _, _) => match tab.lookup c with
      | some Ff => match Ff [d] S with
        | .ok (.int n) S2 => if Bd (0 ≤ n ∧ n < 2 ^ 62) then .ok (.int n) S2 else .bad
        | _ => .bad
      | none => .bad
    | none => g ds S
  | _ => g ds S
/-- an own len runs -/
theorem len_run {pins : List (Addr × Obj)} {σ : St} {s : Shared} {ms : List Addr} {S S2 : Sto} {H : Hp} {A : Around} {c : Str} {k : Nat} {Ff : DFun} {d : D} {n : Int} {a : Addr} {ks : List Str} {xs : List D} {Q : Value → Shared → Prop} {E : Value → Shared → Prop} (h : KM X.prog X.w X.K X.mg X.base c "__len__" 0 [] (fun ds _ => ds) 1 Ff k) (hr : Room k A.in1) (gd : A.guards = some []) (e0 : Env0 X.prog X.w X.K X.mg X.base A.in1 X.stack s H)
    (I : L2.Inv X pins σ H s) (st : StOk (wd X ⟨none, wx⟩) ms S H) (rd : Rp (wd X ⟨none, wx⟩) ms (era ms H) (.ref a) d) (hc : asO d S = some (c, ks, xs)) (eq : Ff [d] S = .ok (.int n) S2) (hn : 0 ≤ n ∧ n < 2 ^ 62)
    (q : ∀ ms' H' s' t, Fut ms H ms' H' → StOk (wd X ⟨none, wx⟩) ms' S2 H' → L2.Inv X pins σ H' s' → Q (.int n t) s') : wpAny (model X.prog X.w) A (call (.builtin "len") [.ref a]) Q E s := by
  obtain ⟨C, f, fd, ps, hmC, cl, me, F, bd⟩ := h.ex
  obtain ⟨a', C', dx, vs, ea, hm', hH, hl, _⟩ := asO_of st rd hc
  cases ea
  have hm'' : X.mg c = some (.ref C') := hm'
  rw [hmC] at hm''
  cases hm''
  obtain ⟨mA, O, _⟩ := ins_get I.hok hH
  obtain ⟨od, J, _⟩ := O.look
  obtain ⟨mm, hFr⟩ := I.fr
  obtain ⟨g, gV, hb, hrel⟩ := bd.ex
  have rg := hrel X.mg none ms _ [.ref a] [] [d] [] (.cons rd .nil) .nil
  have run := run_G0 (us := [.ref a]) (ws := []) (vs := [.ref a]) (zs := []) (Q := fun v H' => v = .int n ∧ ∃ ms', Fut ms H ms' H' ∧ StOk (wd X ⟨none, wx⟩) ms' S2 H') F hr gd e0 hb I (.cons rfl .nil) .nil rfl rfl
    ⟨by rw [rg.length]; rfl, ms, S, _, rg, st, by rw [eq]; exact fun v ms' H' f s r => by cases r; exact ⟨rfl, ms', f, s⟩⟩
  refine PySem.W.len_K hFr I.ok.mod.kin J me.at_ me.fn (wpAny_call (codeAny_mono run fun r s' hq => ?_))
  match r with
  | .error er => exact hq.elim
  | .ok .next => exact hq.elim
  | .ok .brk => exact hq.elim
  | .ok .cont => exact hq.elim
  | .ok (.ret u) =>
    obtain ⟨v, H', I', rv, ev, ms', f', s2⟩ := hq
    subst ev
    obtain ⟨t, rfl⟩ := rv
    exact ⟨⟨hn.1, by omega⟩, q ms' H' _ _ f' s2 (I'.tok _)⟩
theorem call_lenO {k : Nat} {tab : List (Str × DFun)} (T : ∀ (c : Str) (Ff : DFun), tab.lookup c = some Ff → KM X.prog X.w X.K X.mg X.base c "__len__" 0 [] (fun ds _ => ds) 1 Ff k) (hr : Room (k + 1) X.A) (gd : X.A.guards = some []) (hg : CallS X wx (.builtin "len") g) : CallS X wx (.builtin "len") (lenO tab g) := by
  intro pins s σ ms S H vs us ds Q I rv st rd p
  unfold lenO at p
  split at p
  · rename_i d
    cases hc : asO d S with
    | none => rw [hc] at p; exact hg pins s σ ms S H vs us [d] Q I rv st rd p
    | some t =>
      obtain ⟨c, ks, xs⟩ := t
      rw [hc] at p
      dsimp only at p
      split at p
      · rename_i Ff hF
        split at p
        · rename_i n S2 heq
          split at p
          · rename_i hn
            obtain ⟨v, rfl, r1⟩ := rd.one
            obtain ⟨a, C', dx, vs0, rfl, _⟩ := asO_of st r1 hc
            rw [Vals.ref1 rv]
            exact len_run (T c Ff hF) hr.in1 gd I.env0.in1 I st r1 hc heq hn fun ms' H' s' t f' s2 I' => ⟨.int n, H', I', ⟨t, rfl⟩, p _ ms' H' f' s2 (.int n)⟩
          · exact p.elim
        · exact p.elim
      · exact p.elim
  · exact hg pins s σ ms S H vs us ds Q I rv st rd p

/-! ### list(o) -/
noncomputable def listO (tab : List (Str × Str × DFun)) (g : List D → Sto → R D) (ds : List D) (S : Sto) : R D := match ds with
  | [d] => match asO d S with
    | some (c, ks, xs) => match tab.lookup c with
      | some (fl, Lf) => match (ks.zip xs).lookup fl with
        | some (.tup zs) => match Lf [d] S with
          | .ok (.int n) S2 => if Bd (0 ≤ n ∧ n ≤ 16777216) then .ok (.lst zs) S2 else .bad
          | _ => .bad
        | _ => .bad
      | none => .bad
    | none => g ds S
  | _ => g ds S
theorem hint_len {s : Shared} {A : Around} {K : PySem.W.Frag} {C g a : Addr} {ox : Obj} {od : Option Obj} {Q : Bool → Shared → Prop} {E : Value → Shared → Prop} (hK : K.In s.heap) (J : PySem.W.InstAt s.heap a ox C od) (hl : PySem.W.findIn K (.ref C) "__len__" = some (some (.ref g)))
    (h : wpAny (model X.prog X.w) A (call (.builtin "len") [.ref a]) (fun v s' => ∃ n t, v = .int n t ∧ 0 ≤ n ∧ n ≤ 16777216 ∧ ∀ b, Q b s') (fun _ _ => False) s) : wpAny (model X.prog X.w) A (Builtin.List.listLengthHint (.ref a)) Q E s := by
  unfold Builtin.List.listLengthHint
  refine wpAny_bind (wpAny_bind (J.type.here ((PySem.W.looks_findIn hK hl).here ?_)))
  refine PySem.W.KFB.if_not rfl ?_
  refine PySem.W.KFB.if_so rfl ?_
  refine wpAny_bind (wpAny_rule ?_)
  refine wpAny_bind (wpAny_attempt (wpAny_mono h (fun v s' q => ?_) fun _ _ no => no.elim))
  obtain ⟨n, t, rfl, h0, h1, q⟩ := q
  refine wpAny_bind (wpAny_pure ?_)
  show wpAny _ _ (if Builtin.List.listTooLong n.toNat = true then _ else _) _ _ _
  rw [if_neg (by
    show ¬ (decide (n.toNat > sizeLine) = true)
    rw [sizeLine_eq]
    simp
    omega)]
  exact wpAny_pure (q _)
theorem call_listO {k : Nat} {tab : List (Str × Str × DFun)} (hcm : X.calm = true) (T : ∀ (c fl : Str) (Lf : DFun), tab.lookup c = some (fl, Lf) → KM X.prog X.w X.K X.mg X.base c "__len__" 0 [] (fun ds _ => ds) 1 Lf k ∧ KI X.prog X.w X.K X.mg X.base c fl k) (hr : Room (k + 3) X.A) (gd : X.A.guards = some []) (hg : CallS X wx (.type "list") g) :
    CallS X wx (.type "list") (listO tab g) := by
  intro pins s σ ms S H vs us ds Q I rv st rd p
  unfold listO at p
  split at p
  · rename_i d
    cases hc : asO d S with
    | none => rw [hc] at p; exact hg pins s σ ms S H vs us [d] Q I rv st rd p
    | some t =>
      obtain ⟨c, ks, xs⟩ := t
      rw [hc] at p
      dsimp only at p
      split at p
      · rename_i fl Lf hF
        split at p
        · rename_i zs hz
          split at p
          · rename_i n S2 heq
            split at p
            · rename_i hn
              have hn : 0 ≤ n ∧ n ≤ 16777216 := hn
              obtain ⟨v, rfl, r1⟩ := rd.one
              obtain ⟨a, C, dx, vs0, rfl, hmc, hH, hl, rf⟩ := asO_of st r1 hc
              rw [Vals.ref1 rv]
              obtain ⟨km, ki⟩ := T c fl Lf hF
              obtain ⟨C', f, hm2, hi, hf, FI⟩ := ki.ex
              have hm3 : X.mg c = some (.ref C) := hmc
              rw [hm2] at hm3
              cases hm3
              obtain ⟨tv, htv, rt⟩ := RpL.lookup rf hz
              cases rt with
              | @tup T us2 _ hT rz =>
                have hTH : SqT X.K H T us2 := Same.sqT (era_same _ _) hT
                refine list_own (k := k) (Z := fun H3 => ∃ ms3, Fut ms H ms3 H3 ∧ StOk (wd X ⟨none, wx⟩) ms3 S2 H3) I (hr.mono (by omega)) (I.ok.hd hcm) hH htv hTH hi hf FI (fun pins' s' I' => ?_) fun H3 ⟨ms3, f3, s3⟩ => ⟨Same.sqT (f3.same.trans (era_same _ _)) hT, fun q hq => ?_⟩
                · obtain ⟨C2, f2, fd2, ps2, hmC2, cl2, me2, F2, bd2⟩ := km.ex
                  rw [hm2] at hmC2
                  cases hmC2
                  obtain ⟨mA, O, _⟩ := ins_get I'.hok hH
                  obtain ⟨od, J, _⟩ := O.look
                  refine hint_len I'.kIn J me2.at_ (len_run (E := fun _ _ => False) km hr.in1.in1.in1 gd I'.env0.in1.in1.in1 I' st r1 hc heq ⟨hn.1, by omega⟩ fun ms' H' s'' t f' s2 I2 => ⟨n, t, rfl, hn.1, hn.2, fun _ => ⟨H', I2, ms', f', s2⟩⟩)
                · exact p _ ms3 _ (f3.trans (Fut.new s3 hq)) (s3.new hq) (.lst (era_new s3 hq) (RpL.fut (RpL.fut rz f3) (Fut.new s3 hq)))
            · exact p.elim
          · exact p.elim
        · exact p.elim
      · exact p.elim
  · exact hg pins s σ ms S H vs us ds Q I rv st rd p
end
end Zd

set_option Elab.async false
set_option linter.all false
set_option maxRecDepth 100000
set_option maxHeartbeats 4000000
set_option autoImplicit false
/-! Zd: defs with defaults, tables of methods. -/
namespace Zd
open PySem PySem.Spec L2
open PyProof.Rows hiding St

/-- a def's text, its defaults -/
abbrev FunX (K : PySem.W.Frag) (x qual : Str) (st : Stmt) (dvs : List V) (kws : List (Str × V)) (f : Addr) (fd : FuncData) : Prop := FunD K x qual (defArgs st) (defBody st) (defScope st) dvs kws f fd
section
variable {P : Program} {w : World} {K : PySem.W.Frag} {mg : Str → Option Value} {base : Heap}
theorem FunX.of {x qual : Str} {st : Stmt} {f : Addr} {fd : FuncData} (F : Fun K x qual st f fd) : FunX K x qual st [] [] f fd := by
  obtain ⟨oc, od, kV, doc, pm, an, cdv, ct, osl, rfl, lk, hcd⟩ := F.ex
  exact ⟨⟨oc, od, .none, kV, doc, pm, an, cdv, ct, osl, rfl, lk, hcd, .inl ⟨rfl, rfl⟩, .inl rfl⟩, F.kp⟩
theorem funX_mk {x qual : Str} {st : Stmt} {dvs : List V} {kws : List (Str × V)} {f : Addr} {oc : Value} {od an : Option Addr} {osl : Array (Option Value)} {dV kV doc pm cdv ct : Value} (l : K.lookup f = some ⟨oc, od, .func (PySem.W.fnOf x qual (defArgs st) (defBody st) (defScope st) dV kV doc pm an cdv ct), osl⟩)
    (c : PySem.W.codeIn K cdv qual = true) (k : PySem.W.keepIn K (.ref f) = true) (hD : DflV K dV dvs) (hK : KwdV K kV kws) : FunX K x qual st dvs kws f (PySem.W.fnOf x qual (defArgs st) (defBody st) (defScope st) dV kV doc pm an cdv ct) :=
  ⟨⟨oc, od, dV, kV, doc, pm, an, cdv, ct, osl, rfl, l, c, hD, hK⟩, k⟩
theorem enterX {x qual : Str} {st : Stmt} {dvs : List V} {kws : List (Str × V)} {f : Addr} {fd : FuncData} {N ps : List Str} {k : Nat} {A : Around} {outer : List Env} {s : Shared} {H : Hp} {args : Args} {us : List Value} {vs : List V} {Q : VK} {E : XK} (F : FunX K x qual st dvs kws f fd) (S : FnScope N ps (defScope st))
    (len : vs.length = ps.length) (room : Room (k + 1) A) (env : Env0 P w K mg base A outer s H) (bind_ : BindsTo s fd args (ps.zip us)) (vals : Vals vs us)
    (body : ∀ cdv : Value, Room k (A.deeper (envOfC qual (defScope st) s.heap.objs.size f cdv)) → ∃ t, PSs (cxOf (L2.CX P w) P w K mg base N qual (defScope st) f cdv A outer s H E) (defBody st) t ∧ t { nx := fun _ H' => Q .non H', rt := Q } (start N vs) H) :
    codeAny (model P w) A (.call (.ref f) args) (CR (L2.CX P w) outer P w H s Q E) s := by
  obtain ⟨oc, od, dV, kV, doc, pm, an, cdv, ct, osl, rfl, lk, hcd, _, _⟩ := F.ex
  have here : K.In s.heap := env.mod.kin.keeps fun a u h => (env.bs a u h).1
  have noL : s.heap.NoLimit := env.mod.nolimit.keeps fun a u h => (env.bs a u h).1
  have kinds : ∀ q ∈ ps.zip us, (defScope st).names.lookup q.1 = some .local ∨ ((defScope st).names.lookup q.1 = some .cell ∧ ((cellsFrom (s.heap.objs.size + 1) (defScope st).names []).lookup q.1).isSome = true) := fun q hq =>
    (S.par q.1 (List.of_mem_zip (show (q.1, q.2) ∈ ps.zip us from hq)).1).imp id fun c => ⟨c, PySem.W.cellsFrom_some _ _ _ (.inl c)⟩
  refine codeAny_call_function room.depth (here _ _ lk) rfl S.co S.gen rfl (PySem.W.codeRec_of here hcd) (bind_ (model P w) _ _ _ (wpAny_newFunctionEnv_cells S.kind kinds fun env' he s1 fresh => ?_))
  subst he
  refine ⟨noL.keeps fresh.toInCall.keep, codeAny_func ?_⟩
  obtain ⟨t, ht, hq⟩ := body cdv (room.deeper _)
  have inv := inv_start (CX := L2.CX P w) (E := E) (cd := cdv) S room.hd env len vals fresh
  have fin : ∀ {σ' : St} {H' : Hp} {v : V} {u : Value} {s' : Shared}, L2.Inv (cxOf (L2.CX P w) P w K mg base N qual (defScope st) f cdv A outer s H E) [] σ' H' s' → RelV v u → Q v H' → CE outer P w H s Q u s' := fun {σ' H' v u s'} J rv q => ⟨v, H', J.os, J.bare, J.base, J.hok, rv, q⟩
  refine wpAny_mono (ht.run [] s1 (start N vs) H _ inv hq) (fun fl s' ends => ?_) fun _ _ z => z
  match fl with
  | .next => obtain ⟨σ', H', J, q⟩ := ends; exact fin (u := Value.none) (v := V.non) J rfl q
  | .ret u => obtain ⟨v, σ', H', J, rv, q⟩ := ends; exact fin J rv q
  | .brk => obtain ⟨_, _, _, no⟩ := ends; exact no.elim
  | .cont => obtain ⟨_, _, _, no⟩ := ends; exact no.elim
/-- a def's promise out of its body's derivation -/
theorem fn_okX {x qual : Str} {st : Stmt} {dvs : List V} {kws : List (Str × V)} {f : Addr} {fd : FuncData} {N ps : List Str} {k : Nat} {g : SF} {Ff : DFun} (F : FunX K x qual st dvs kws f fd) (S : FnScope N ps (defScope st)) (hF : Ff = fnF N.length g ∨ Ff = fnK N.length g)
    (body : ∀ (cdv : Value) (A : Around) (outer : List Env) (s : Shared) (H : Hp) (E : XK), Room k (A.deeper (envOfC qual (defScope st) s.heap.objs.size f cdv)) →
      Takes (cxOf (L2.CX P w) P w K mg base N qual (defScope st) f cdv A outer s H E) (fun c d _ H => E c d H) →
      PassesOwn (model P w) (A.deeper (envOfC qual (defScope st) s.heap.objs.size f cdv)) (envOfC qual (defScope st) s.heap.objs.size f cdv) (cxOf (L2.CX P w) P w K mg base N qual (defScope st) f cdv A outer s H E).xe →
      (cxOf (L2.CX P w) P w K mg base N qual (defScope st) f cdv A outer s H E).A.guards = some [] →
      DSs (cxOf (L2.CX P w) P w K mg base N qual (defScope st) f cdv A outer s H E) (yE E) (defBody st) g) : FnG P w K mg base (k + 1) f fd ps (spD ⟨K, mg, none⟩ Ff ps.length) := by
  refine ⟨fun vs H Q E h => h.1, fun A outer s H args us vs Q E hr hg env bd vals prom => enterX F S prom.1 hr env bd vals fun cdv hr2 => ⟨_, body cdv A outer s H E hr2 (takes_of rfl rfl rfl rfl) (passes_of rfl) hg, ?_⟩⟩
  obtain ⟨_, ms, Sto, ds, r, st, p⟩ := prom
  refine ⟨ms, Sto, startD N.length ds, Ev.start N r, st, ?_⟩
  rcases hF with e | e
  · subst e; exact leave_of st p
  · subst e; exact keep_of p
end

/-! ### how calls bind -/
/-- data that are the same in every state -/
def Ever (K : PySem.W.Frag) (dv : List V) (dd : List D) : Prop := ∀ (mg : Str → Option Value) (xi : Option (Addr × Value × Option Addr)) (ms : List Addr) (G : Hp), RpL ⟨K, mg, xi⟩ ms G dv dd
theorem Ever.nil {K : PySem.W.Frag} : Ever K [] [] := fun _ _ _ _ => .nil
theorem Ever.cons {K : PySem.W.Frag} {v : V} {d : D} {vs : List V} {ds : List D} (h : ∀ W : Wd, W.K = K → ∀ ms G, Rp W ms G v d) (t : Ever K vs ds) : Ever K (v :: vs) (d :: ds) := fun mg xi ms G => .cons (h ⟨K, mg, xi⟩ rfl ms G) (t mg xi ms G)
theorem ever_int {K : PySem.W.Frag} {i : Int} : ∀ W : Wd, W.K = K → ∀ ms G, Rp W ms G (.int i) (.int i) := fun _ _ _ _ => .int i
theorem ever_bl {K : PySem.W.Frag} {b : Bool} : ∀ W : Wd, W.K = K → ∀ ms G, Rp W ms G (.bl b) (.bl b) := fun _ _ _ _ => .bl b
theorem ever_non {K : PySem.W.Frag} : ∀ W : Wd, W.K = K → ∀ ms G, Rp W ms G .non .non := fun _ _ _ _ => .non
theorem ever_str {K : PySem.W.Frag} {z : Str} : ∀ W : Wd, W.K = K → ∀ ms G, Rp W ms G (.str z) (.str z) := fun _ _ _ _ => .str z
theorem ever_tup0 {K : PySem.W.Frag} {T : Addr} {od : Option Addr} {n : Nat} {sl : Array (Option Value)} (l : K.lookup T = some ⟨.type "tuple", od, .seq #[] n, sl⟩) : ∀ W : Wd, W.K = K → ∀ ms G, Rp W ms G (.ref T) (.tup []) := by
  intro W e ms G
  subst e
  exact .tup (.inr ⟨_, #[], n, l, rfl, rfl, by decide, .nil⟩) .nil
theorem BD.dfl {K : PySem.W.Frag} {fd : FuncData} {ps : List Str} {n : Nat} {dv : List V} {dd : List D} (h : ∃ ds, Vals dv ds ∧ Binds K fd ps ds) (e : Ever K dv dd) (hn : n + dv.length = ps.length) : BD K fd ps n [] (fun xs _ => xs ++ dd) := by
  obtain ⟨ds, rv, hb⟩ := h
  refine ⟨fun us _ => us ++ ds, fun vs _ => vs ++ dv, ⟨fun s us ws i l1 l2 => ?_, fun r _ => r.append rv⟩, fun mg xi ms G vs zs xs es r _ => RpL.append r (e mg xi ms G)⟩
  refine hb s us i ?_
  rw [List.length_append, l1, ← rv.length, hn]
theorem BD.key {K : PySem.W.Frag} {fd : FuncData} {ps ks : List Str} {n : Nat} {gV : List V → List V → List V} {gD : List D → List D → List D} (h : ∃ g : List Value → List Value → List Value, KBn K fd ps n ks g gV)
    (hr : ∀ (mg : Str → Option Value) (xi : Option (Addr × Value × Option Addr)) (ms : List Addr) (G : Hp) (vs zs : List V) (ds es : List D), RpL ⟨K, mg, xi⟩ ms G vs ds → RpL ⟨K, mg, xi⟩ ms G zs es → RpL ⟨K, mg, xi⟩ ms G (gV vs zs) (gD ds es)) : BD K fd ps n ks gD := by
  obtain ⟨g, hb⟩ := h
  exact ⟨g, gV, hb, hr⟩

/-! ### tables -/
theorem ftab_nil {β : Type} {Z : Str → β → Prop} : ∀ (c : Str) (Ff : β), ([] : List (Str × β)).lookup c = some Ff → Z c Ff := fun _ _ h => by cases h
theorem ftab_cons {β : Type} {Z : Str → β → Prop} {c0 : Str} {F0 : β} {l : List (Str × β)} (h0 : Z c0 F0) (hr : ∀ (c : Str) (Ff : β), l.lookup c = some Ff → Z c Ff) : ∀ (c : Str) (Ff : β), ((c0, F0) :: l).lookup c = some Ff → Z c Ff := by
  intro c Ff h
  rw [List.lookup_cons] at h
  cases e : c == c0 with
  | true =>
    rw [e] at h
    cases h
    obtain rfl := beq_iff_eq.mp e
    exact h0
  | false => rw [e] at h; exact hr c Ff h
theorem ptab_nil {β γ : Type} {Z : Str → β → γ → Prop} : ∀ (c : Str) (b : β) (g : γ), ([] : List (Str × β × γ)).lookup c = some (b, g) → Z c b g := fun _ _ _ h => by cases h
theorem ptab_cons {β γ : Type} {Z : Str → β → γ → Prop} {c0 : Str} {b0 : β} {g0 : γ} {l : List (Str × β × γ)} (h0 : Z c0 b0 g0) (hr : ∀ (c : Str) (b : β) (g : γ), l.lookup c = some (b, g) → Z c b g) : ∀ (c : Str) (b : β) (g : γ), ((c0, b0, g0) :: l).lookup c = some (b, g) → Z c b g := by
  intro c b g h
  rw [List.lookup_cons] at h
  cases e : c == c0 with
  | true =>
    rw [e] at h
    cases h
    obtain rfl := beq_iff_eq.mp e
    exact h0
  | false => rw [e] at h; exact hr c b g h
theorem only_mg {mg : Str → Option Value} {c : Str} {C0 : Addr} {Z : Addr → Prop} (hm : mg c = some (.ref C0)) (h : Z C0) : ∀ C, mg c = some (.ref C) → Z C := by
  intro C e
  rw [hm] at e
  cases e
  exact h
end Zd
namespace Zd
open PySem PySem.Spec L2
open PyProof.Rows hiding St
section
variable {P : Program} {w : World} {K : PySem.W.Frag} {mg : Str → Option Value} {base : Heap}
theorem FnG.mono {j k : Nat} {f : Addr} {fd : FuncData} {ps : List Str} {sp : Sp} (F : FnG P w K mg base j f fd ps sp) (h : j ≤ k) : FnG P w K mg base k f fd ps sp :=
  ⟨F.len, fun A outer s H args us vs Q E hr => F.go A outer s H args us vs Q E (hr.mono h)⟩
theorem KM.mono {c m : Str} {n N j k : Nat} {ks : List Str} {gD : List D → List D → List D} {Ff : DFun} (h : KM P w K mg base c m n ks gD N Ff j) (l : j ≤ k) : KM P w K mg base c m n ks gD N Ff k := by
  obtain ⟨C, f, fd, ps, h1, h2, h3, h4, h5⟩ := h.ex
  exact ⟨C, f, fd, ps, h1, h2, h3, h4.mono l, h5⟩
theorem KP.mono {c f : Str} {j k : Nat} {Ff : DFun} (h : KP P w K mg base c f Ff j) (l : j ≤ k) : KP P w K mg base c f Ff k := by
  obtain ⟨C, p, g, fd, ps, h1, h2, h3, h4, h5⟩ := h.ex
  exact ⟨C, p, g, fd, ps, h1, h2, h3, h4.mono l, h5⟩
theorem KI.mono {c fl : Str} {j k : Nat} (h : KI P w K mg base c fl j) (l : j ≤ k) : KI P w K mg base c fl k := by
  obtain ⟨C, f, h1, h2, h3, h4⟩ := h.ex
  exact ⟨C, f, h1, h2, h3, fun A outer s H a dx T fs us hr => h4 A outer s H a dx T fs us (hr.mono l)⟩
end
/-- no such operator on data -/
def badO : D → D → Sto → R D := fun _ _ _ => .bad
theorem ops_bad {X : Cx} {wx : WX} {f : Value → Value → Sem Value} : OpS X wx f badO := fun _ _ _ _ _ _ _ _ _ _ _ _ _ _ _ _ _ _ _ p => p.elim
theorem dun_rshift : PySem.dunder (Operator.RShift).info.2 = "__rshift__" := by decide
theorem dun_or : PySem.dunder (Operator.BitOr).info.2 = "__or__" := by decide
theorem dun_and : PySem.dunder (Operator.BitAnd).info.2 = "__and__" := by decide
theorem dun_sub : PySem.dunder (Operator.Sub).info.2 = "__sub__" := by decide
theorem dun_add : PySem.dunder (Operator.Add).info.2 = "__add__" := by decide
/-- the same, by the names as they are written -/
theorem opc_mk {K : PySem.W.Frag} {C : Addr} {nm : String} {m r : Str} (hm : PySem.dunder nm = m) (hr : dunderR nm = r) (sf : PySem.W.selfFirst K C = true) (rc : PySem.W.findIn K (.ref C) r = some none)
    (bt : ∀ T ∈ ["NoneType", "bool", "int", "str", "tuple", "list", "dict"], (∃ fo, PySem.W.findIn K (.type T) m = some fo) ∧ (∃ ro, PySem.W.findIn K (.type T) r = some ro) ∧ PySem.W.subIn K (.type T) (.ref C) = some false) : OpC K C nm :=
  ⟨sf, ⟨none, by rw [hr]; exact rc, .inl rfl⟩, fun T hT => by rw [hm, hr]; exact bt T hT⟩
theorem all7 {p : String → Prop} (h1 : p "NoneType") (h2 : p "bool") (h3 : p "int") (h4 : p "str") (h5 : p "tuple") (h6 : p "list") (h7 : p "dict") : ∀ T ∈ ["NoneType", "bool", "int", "str", "tuple", "list", "dict"], p T := by
  intro T hT
  simp only [List.mem_cons, List.not_mem_nil, or_false] at hT
  rcases hT with rfl | rfl | rfl | rfl | rfl | rfl | rfl <;> assumption
theorem kit_sub {K : PySem.W.Frag} {t : Value} {D : Addr} {b : Bool} (hd : PySem.W.hasDictIn K D = true) (ty : PySem.W.typeIn K (.ref D) = some (.type "type")) (self : PySem.W.subIn K (.ref D) (.ref D) = some true) (s : PySem.W.subIn K t (.ref D) = some b) : PySem.W.kitOne K t (.ref D) = some b := by
  obtain ⟨cd, hc, _⟩ := PySem.W.any_some hd
  have step : PySem.W.kitCls K t (.ref D) = some b := by
    show (if ((PySem.W.clsIn K D).isSome && PySem.W.typeIn K (.ref D) == some (.type "type")) = true then PySem.W.subIn K t (.ref D) else none) = some b
    rw [hc, ty, if_pos (by rfl)]
    exact s
  unfold PySem.W.kitOne
  by_cases e : (t == Value.ref D) = true
  · rw [if_pos e]
    obtain rfl := beq_iff_eq.mp e
    rw [self] at s
    exact s
  · rw [if_neg e]; exact step
end Zd

set_option Elab.async false
set_option linter.all false
set_option maxRecDepth 100000
set_option maxHeartbeats 4000000
set_option autoImplicit false
/-! The drawing of the first laws (k00 .. k15): the bag of numbers, and a number drawn. -/
namespace Zd
open PySem PySem.Spec L2
open PyProof.Rows hiding St
/-! _law_bag: 0 script, 1 cells, 2 cell -/
noncomputable def g__law_bag : SF := (seqS (setS 1 (compG finF [2] (itF anyI (slF (varE 0) noO (someO (cE (.int 63))))) (nmG 2) yesB (ifE (tstF (binF geD (varE 2) (cE (.int 0)))) (varE 2) (binF subD (cE (.int 1)) (varE 2)))))
  (retS (ownF (consF (cE (.int 0)) (consF (varE 1) (consF (cE (.int 0)) (consF (cE (.int 0)) (consF (cE (.int 20261)) nilF))))))))
noncomputable def F__law_bag : DFun := fnK 3 g__law_bag
/-! _law_draw: 0 bag, 1 limit, 2 digit -/
noncomputable def g__law_draw : SF := (seqS (ifS (andB (tstF (binF ltD (binF ixD (varE 0) (cE (.int 0))) (binF powD (cE (.int 10)) (cE (.int 18))))) (tstF (binF ltD (binF ixD (varE 0) (cE (.int 2))) (appF lenD (consF (binF ixD (varE 0) (cE (.int 1))) nilF))))) (seqS (putS (binF ixD (binF ixD (varE 0) (cE (.int 1))) (binF ixD (varE 0) (cE (.int 2)))) (varE 0) (cE (.int 0)))
  (putS (binF addD (binF ixD (varE 0) (cE (.int 2))) (cE (.int 1))) (varE 0) (cE (.int 2)))) nxS)
  (seqS (ifS (tstF (binF geD (binF ixD (varE 0) (cE (.int 0))) (binF powD (cE (.int 10)) (cE (.int 18))))) (seqS (setS 2 (binF modD (appF intD (consF (binF ixD (varE 0) (cE (.int 0))) nilF)) (varE 1)))
  (seqS (putS (binF fdivD (appF intD (consF (binF ixD (varE 0) (cE (.int 0))) nilF)) (varE 1)) (varE 0) (cE (.int 0)))
  (retS (varE 2)))) nxS)
  (seqS (putS (binF addD (binF ixD (varE 0) (cE (.int 3))) (cE (.int 1))) (varE 0) (cE (.int 3)))
  (seqS (putS (binF modD (appF intD (consF (binF addD (binF addD (binF mulD (binF ixD (varE 0) (cE (.int 4))) (cE (.int 48271))) (binF mulD (binF modD (appF intD (consF (binF ixD (varE 0) (cE (.int 0))) nilF)) (cE (.int 1000003))) (cE (.int 69621)))) (binF mulD (binF ixD (varE 0) (cE (.int 3))) (cE (.int 7919)))) nilF)) (cE (.int 2147483647))) (varE 0) (cE (.int 4)))
  (retS (binF modD (binF fdivD (binF modD (appF intD (consF (binF addD (binF mulD (binF ixD (varE 0) (cE (.int 4))) (cE (.int 16807))) (binF mulD (binF ixD (varE 0) (cE (.int 3))) (binF ixD (varE 0) (cE (.int 3))))) nilF)) (cE (.int 2147483629))) (cE (.int 11))) (varE 1)))))))
noncomputable def F__law_draw : DFun := fnF 3 g__law_draw
/-! _law_number: 0 bag, 1 many, 2 way, 3 top, 4 word, 5 left, 6 k, 7 digit -/
noncomputable def g__law_number : SF := (seqS (setS 1 (binF addD (cE (.int 1)) (callF 2 F__law_draw (consF (varE 0) (consF (cE (.int 4)) nilF)))))
  (seqS (setS 2 (callF 2 F__law_draw (consF (varE 0) (consF (cE (.int 6)) nilF))))
  (seqS (setS 3 (binF ixD (lstF (consF (cE (.int 3)) (consF (cE (.int 3)) (consF (cE (.int 3)) (consF (cE (.int 3)) (consF (cE (.int 9)) (consF (cE (.int 9)) nilF))))))) (varE 2)))
  (seqS (setS 4 (cE (.str "")))
  (seqS (setS 5 (cE (.int 24)))
  (seqS (forS (itA rng1I (consF (varE 1) nilF)) (nmG 6) (seqS (setS 7 (binF addD (cE (.int 1)) (callF 2 F__law_draw (consF (varE 0) (consF (appF min2D (consF (varE 3) (consF (binF subD (varE 5) (binF subD (binF subD (varE 1) (cE (.int 1))) (varE 6))) nilF))) nilF)))))
  (seqS (ifS (andB (tstF (binF eqD (varE 2) (cE (.int 5)))) (tstF (binF eqD (varE 6) (binF subD (varE 1) (cE (.int 1)))))) (setS 7 (appF min2D (consF (cE (.int 9)) (consF (varE 5) nilF)))) nxS)
  (seqS (setS 4 (binF addD (varE 4) (appF strD (consF (varE 7) nilF))))
  (setS 5 (binF subD (varE 5) (varE 7)))))))
  (retS (varE 4))))))))
noncomputable def F__law_number : DFun := fnF 8 g__law_number

/-- the bag: what is left of the present cell, the cells, the place of the next one, how many were drawn of the store, the store; at most m drawn so -/
structure BagOk (m : Nat) (xs : List D) : Prop where
  ex : ∃ (x : Int) (cells : List Int) (i c r : Int), xs = [.int x, .lst (cells.map D.int), .int i, .int c, .int r] ∧ 0 ≤ x ∧ (∀ y ∈ cells, 0 ≤ y) ∧ 0 ≤ i ∧ 0 ≤ c ∧ c ≤ m ∧ 0 ≤ r ∧ r < 2147483647
theorem BagOk.mono {m k : Nat} {xs : List D} (h : BagOk m xs) (l : m ≤ k) : BagOk k xs := by
  obtain ⟨x, cells, i, c, r, e, h1, h2, h3, h4, h5, h6⟩ := h.ex
  exact ⟨x, cells, i, c, r, e, h1, h2, h3, h4, by omega, h6⟩
theorem leave_rt {n : Nat} {d : D} {S : Sto} : leave n (.rt d S) = .ok (fz n S S.length d) (S.take n) := rfl
theorem leave_nx {n : Nat} {ρ : Nv} {S : Sto} : leave n (.nx ρ S) = .ok .non (S.take n) := rfl
theorem take_cons (b : Cl) (T : Sto) : (b :: T).take (T.length + 1) = b :: T := by rw [List.take_succ_cons, List.take_length]

theorem draw_ok {m : Nat} {b : List D} {T : Sto} {lim : Int} (hb : BagOk m b) (h0 : 0 < lim) (h1 : lim < 2 ^ 1000) (hm : m < 2 ^ 60) :
    ∃ d b', F__law_draw [.cell 0, .int lim] (.lst b :: T) = .ok (.int d) (.lst b' :: T) ∧ 0 ≤ d ∧ d < lim ∧ BagOk (m + 1) b' := by
  obtain ⟨x, cells, i, c, r, rfl, hx, hc, hi, hc0, hcm, hr0, hr1⟩ := hb.ex
  -- behind the first test
  have rest : ∀ (x i : Int), 0 ≤ x → 0 ≤ i → ∃ d b', leave (T.length + 1) ((seqS (ifS (tstF (binF geD (binF ixD (varE 0) (cE (.int 0))) (binF powD (cE (.int 10)) (cE (.int 18))))) (seqS (setS 2 (binF modD (appF intD (consF (binF ixD (varE 0) (cE (.int 0))) nilF)) (varE 1)))
  (seqS (putS (binF fdivD (appF intD (consF (binF ixD (varE 0) (cE (.int 0))) nilF)) (varE 1)) (varE 0) (cE (.int 0)))
  (retS (varE 2)))) nxS)
  (seqS (putS (binF addD (binF ixD (varE 0) (cE (.int 3))) (cE (.int 1))) (varE 0) (cE (.int 3)))
  (seqS (putS (binF modD (appF intD (consF (binF addD (binF addD (binF mulD (binF ixD (varE 0) (cE (.int 4))) (cE (.int 48271))) (binF mulD (binF modD (appF intD (consF (binF ixD (varE 0) (cE (.int 0))) nilF)) (cE (.int 1000003))) (cE (.int 69621)))) (binF mulD (binF ixD (varE 0) (cE (.int 3))) (cE (.int 7919)))) nilF)) (cE (.int 2147483647))) (varE 0) (cE (.int 4)))
  (retS (binF modD (binF fdivD (binF modD (appF intD (consF (binF addD (binF mulD (binF ixD (varE 0) (cE (.int 4))) (cE (.int 16807))) (binF mulD (binF ixD (varE 0) (cE (.int 3))) (binF ixD (varE 0) (cE (.int 3))))) nilF)) (cE (.int 2147483629))) (cE (.int 11))) (varE 1))))))
      [some (.cell 0), some (.int lim), none] (.lst [.int x, .lst (cells.map D.int), .int i, .int c, .int r] :: T)) = .ok (.int d) (.lst b' :: T) ∧ 0 ≤ d ∧ d < lim ∧ BagOk (m + 1) b' := by
    intro x i hx hi
    by_cases hb : 1000000000000000000 ≤ x
    · refine ⟨x % lim, [.int (x / lim), .lst (cells.map D.int), .int i, .int c, .int r], ?_, Int.emod_nonneg _ (by omega), Int.emod_lt_of_pos _ h0, ⟨_, cells, i, c, r, rfl, Int.ediv_nonneg hx (by omega), hc, hi, hc0, by omega, hr0, hr1⟩⟩
      simp only [Bd, seqS, setS, retS, retN, dropS, ifS, forS, putS, augS, nxS, bkS, ctS, SR.seq_nx, SR.seq_rt, SR.seq_exc, SR.seq_bk, SR.seq_ct, SR.turn_nx, SR.turn_ct, SR.turn_bk, SR.turn_rt, SR.turn_exc, R.bind_ok, R.bind_bad, R.bind_exc, R.bindN_ok, R.st_ok, R.st_exc,
 varE, cE, binF, tstF, chnF, andB, orB, notB, andV, orV, notV, ifE, nilF, consF, tupF, lstF, ownF, negF, noO, someO, slF, callF, appF, isiF, mthF, itF, itA, nmG, nilG, consG, tupG, yesB, wipeD,
 addD_ii, addD_ss, addD_ll, subD_ii, mulD_ii, mulD_li, mulD_si, fdivD_ii, modD_ii, powD_10_18, ltD_ii, leD_ii, gtD_ii, geD_ii, gtD_ss, ltD_ss, eqD_ii, eqD_ss, eqD_bb, neD_ii, neD_ss, isBD_bb, isND_non, isND_int, isND_str, notND_non, notND_int, notND_str, lenD_s, lenD_l, lenD_r, lenD_t, lenD_c, min2D_ii, max2D_ii, intD_i, intD_b, strD_i, sumD_l, sumD_c, sumD_t, maxD_c, tupleD_l, tupleD_t, tupleD_c, listD_l, listD_t,
 ixD_l, ixD_r, ixD_t, ixD_s, ixD_c, slD_s, slD_l, slD_r, putIx_c, appendD_c, extendD_cl, isTy_c, isTy_s, isTy_l, iaddD, atI_0, atI_1, atI_2, atI_3, atI_4, low_int, low_str, low_bl, low_non, anyI_l, anyI_r, anyI_t, anyI_s, rng1I_i, rng2I_ii, ixN5, set_concat, get_concat, take_concat, len_concat, notInD_cs, inD_cs, sindexD_s, intD_s, tyN_s, tyN_i, tyN_b, tyN_n, tyN_t, tyN_l, tyIs_t, zipI_tt,
 startD, List.map_cons, List.map_nil, List.length_cons, List.length_nil, List.cons_append, List.nil_append, List.getElem?_cons_zero, List.getElem?_cons_succ, List.set_cons_zero, List.set_cons_succ, List.replicate_succ, List.replicate_zero, Option.bind_some, if_true, if_false, Bool.true_and, Bool.false_and, Bool.and_true, Bool.not_true, Bool.not_false, decide_true, decide_false, eq_self, Nat.zero_add, Nat.reduceAdd, Nat.reduceSub, reduceIte, reduceCtorEq, Int.reduceEq, Bool.false_eq_true, true_and, and_true, true_or, or_true, decide_eq_true_eq, hb, h0, h1, leave_rt, fz_int, take_cons]
    · have e0 : (0 : Int) < 1000003 := by decide
      have e1 : (0 : Int) < 2147483647 := by decide
      have e2 : (0 : Int) < 2147483629 := by decide
      have c1 : -(2 ^ 64) < r ∧ r < 2 ^ 64 := by constructor <;> omega
      have x1 := Int.emod_nonneg x (show (1000003 : Int) ≠ 0 by decide)
      have x2 := Int.emod_lt_of_pos x e0
      have c2 : -(2 ^ 64) < x % 1000003 ∧ x % 1000003 < 2 ^ 64 := by constructor <;> omega
      have c3 : -(2 ^ 64) < c + 1 ∧ c + 1 < 2 ^ 64 := by constructor <;> omega
      have y1 := Int.emod_nonneg (r * 48271 + x % 1000003 * 69621 + (c + 1) * 7919) (show (2147483647 : Int) ≠ 0 by decide)
      have y2 := Int.emod_lt_of_pos (r * 48271 + x % 1000003 * 69621 + (c + 1) * 7919) e1
      refine ⟨((r * 48271 + x % 1000003 * 69621 + (c + 1) * 7919) % 2147483647 * 16807 + (c + 1) * (c + 1)) % 2147483629 / 11 % lim,
        [.int x, .lst (cells.map D.int), .int i, .int (c + 1), .int ((r * 48271 + x % 1000003 * 69621 + (c + 1) * 7919) % 2147483647)], ?_, Int.emod_nonneg _ (by omega), Int.emod_lt_of_pos _ h0, ⟨x, cells, i, c + 1, _, rfl, hx, hc, hi, by omega, by omega, y1, y2⟩⟩
      have c4 : -(2 ^ 64) < (r * 48271 + x % 1000003 * 69621 + (c + 1) * 7919) % 2147483647 ∧ (r * 48271 + x % 1000003 * 69621 + (c + 1) * 7919) % 2147483647 < 2 ^ 64 := by constructor <;> omega
      have e11 : (0 : Int) < 11 ∧ (11 : Int) < 2 ^ 1000 := by decide
      simp only [Bd, seqS, setS, retS, retN, dropS, ifS, forS, putS, augS, nxS, bkS, ctS, SR.seq_nx, SR.seq_rt, SR.seq_exc, SR.seq_bk, SR.seq_ct, SR.turn_nx, SR.turn_ct, SR.turn_bk, SR.turn_rt, SR.turn_exc, R.bind_ok, R.bind_bad, R.bind_exc, R.bindN_ok, R.st_ok, R.st_exc,
 varE, cE, binF, tstF, chnF, andB, orB, notB, andV, orV, notV, ifE, nilF, consF, tupF, lstF, ownF, negF, noO, someO, slF, callF, appF, isiF, mthF, itF, itA, nmG, nilG, consG, tupG, yesB, wipeD,
 addD_ii, addD_ss, addD_ll, subD_ii, mulD_ii, mulD_li, mulD_si, fdivD_ii, modD_ii, powD_10_18, ltD_ii, leD_ii, gtD_ii, geD_ii, gtD_ss, ltD_ss, eqD_ii, eqD_ss, eqD_bb, neD_ii, neD_ss, isBD_bb, isND_non, isND_int, isND_str, notND_non, notND_int, notND_str, lenD_s, lenD_l, lenD_r, lenD_t, lenD_c, min2D_ii, max2D_ii, intD_i, intD_b, strD_i, sumD_l, sumD_c, sumD_t, maxD_c, tupleD_l, tupleD_t, tupleD_c, listD_l, listD_t,
 ixD_l, ixD_r, ixD_t, ixD_s, ixD_c, slD_s, slD_l, slD_r, putIx_c, appendD_c, extendD_cl, isTy_c, isTy_s, isTy_l, iaddD, atI_0, atI_1, atI_2, atI_3, atI_4, low_int, low_str, low_bl, low_non, anyI_l, anyI_r, anyI_t, anyI_s, rng1I_i, rng2I_ii, ixN5, set_concat, get_concat, take_concat, len_concat, notInD_cs, inD_cs, sindexD_s, intD_s, tyN_s, tyN_i, tyN_b, tyN_n, tyN_t, tyN_l, tyIs_t, zipI_tt,
 startD, List.map_cons, List.map_nil, List.length_cons, List.length_nil, List.cons_append, List.nil_append, List.getElem?_cons_zero, List.getElem?_cons_succ, List.set_cons_zero, List.set_cons_succ, List.replicate_succ, List.replicate_zero, Option.bind_some, if_true, if_false, Bool.true_and, Bool.false_and, Bool.and_true, Bool.not_true, Bool.not_false, decide_true, decide_false, eq_self, Nat.zero_add, Nat.reduceAdd, Nat.reduceSub, reduceIte, reduceCtorEq, Int.reduceEq, Bool.false_eq_true, true_and, and_true, true_or, or_true, decide_eq_true_eq, hb, h0, h1, leave_rt, fz_int, take_cons, c1, c2, c3, c4, e0, e1, e2, e11]
  unfold F__law_draw fnF g__law_draw
  have st : ∀ (x' i' : Int), 0 ≤ x' → 0 ≤ i' → _ := rest
  by_cases hx1 : x < 1000000000000000000
  · by_cases hi1 : i < ((cells.map D.int).length : Nat)
    · have hl : i < (cells.length : Nat) := by simpa using hi1
      have ha : atI (cells.map D.int) i = some (D.int (cells[i.toNat]'(by omega))) := by
        rw [atI_some hi hi1]; simp
      obtain ⟨d, b', e, h2, h3, h4⟩ := rest (cells[i.toNat]'(by omega)) (i + 1) (hc _ (List.getElem_mem _)) (by omega)
      refine ⟨d, b', ?_, h2, h3, h4⟩
      rw [← e]
      simp only [Bd, seqS, setS, retS, retN, dropS, ifS, forS, putS, augS, nxS, bkS, ctS, SR.seq_nx, SR.seq_rt, SR.seq_exc, SR.seq_bk, SR.seq_ct, SR.turn_nx, SR.turn_ct, SR.turn_bk, SR.turn_rt, SR.turn_exc, R.bind_ok, R.bind_bad, R.bind_exc, R.bindN_ok, R.st_ok, R.st_exc,
 varE, cE, binF, tstF, chnF, andB, orB, notB, andV, orV, notV, ifE, nilF, consF, tupF, lstF, ownF, negF, noO, someO, slF, callF, appF, isiF, mthF, itF, itA, nmG, nilG, consG, tupG, yesB, wipeD,
 addD_ii, addD_ss, addD_ll, subD_ii, mulD_ii, mulD_li, mulD_si, fdivD_ii, modD_ii, powD_10_18, ltD_ii, leD_ii, gtD_ii, geD_ii, gtD_ss, ltD_ss, eqD_ii, eqD_ss, eqD_bb, neD_ii, neD_ss, isBD_bb, isND_non, isND_int, isND_str, notND_non, notND_int, notND_str, lenD_s, lenD_l, lenD_r, lenD_t, lenD_c, min2D_ii, max2D_ii, intD_i, intD_b, strD_i, sumD_l, sumD_c, sumD_t, maxD_c, tupleD_l, tupleD_t, tupleD_c, listD_l, listD_t,
 ixD_l, ixD_r, ixD_t, ixD_s, ixD_c, slD_s, slD_l, slD_r, putIx_c, appendD_c, extendD_cl, isTy_c, isTy_s, isTy_l, iaddD, atI_0, atI_1, atI_2, atI_3, atI_4, low_int, low_str, low_bl, low_non, anyI_l, anyI_r, anyI_t, anyI_s, rng1I_i, rng2I_ii, ixN5, set_concat, get_concat, take_concat, len_concat, notInD_cs, inD_cs, sindexD_s, intD_s, tyN_s, tyN_i, tyN_b, tyN_n, tyN_t, tyN_l, tyIs_t, zipI_tt,
 startD, List.map_cons, List.map_nil, List.length_cons, List.length_nil, List.cons_append, List.nil_append, List.getElem?_cons_zero, List.getElem?_cons_succ, List.set_cons_zero, List.set_cons_succ, List.replicate_succ, List.replicate_zero, Option.bind_some, if_true, if_false, Bool.true_and, Bool.false_and, Bool.and_true, Bool.not_true, Bool.not_false, decide_true, decide_false, eq_self, Nat.zero_add, Nat.reduceAdd, Nat.reduceSub, reduceIte, reduceCtorEq, Int.reduceEq, Bool.false_eq_true, true_and, and_true, true_or, or_true, decide_eq_true_eq, hx1, hi1, ha]
    · obtain ⟨d, b', e, h2, h3, h4⟩ := rest x i hx hi
      refine ⟨d, b', ?_, h2, h3, h4⟩
      rw [← e]
      simp only [Bd, seqS, setS, retS, retN, dropS, ifS, forS, putS, augS, nxS, bkS, ctS, SR.seq_nx, SR.seq_rt, SR.seq_exc, SR.seq_bk, SR.seq_ct, SR.turn_nx, SR.turn_ct, SR.turn_bk, SR.turn_rt, SR.turn_exc, R.bind_ok, R.bind_bad, R.bind_exc, R.bindN_ok, R.st_ok, R.st_exc,
 varE, cE, binF, tstF, chnF, andB, orB, notB, andV, orV, notV, ifE, nilF, consF, tupF, lstF, ownF, negF, noO, someO, slF, callF, appF, isiF, mthF, itF, itA, nmG, nilG, consG, tupG, yesB, wipeD,
 addD_ii, addD_ss, addD_ll, subD_ii, mulD_ii, mulD_li, mulD_si, fdivD_ii, modD_ii, powD_10_18, ltD_ii, leD_ii, gtD_ii, geD_ii, gtD_ss, ltD_ss, eqD_ii, eqD_ss, eqD_bb, neD_ii, neD_ss, isBD_bb, isND_non, isND_int, isND_str, notND_non, notND_int, notND_str, lenD_s, lenD_l, lenD_r, lenD_t, lenD_c, min2D_ii, max2D_ii, intD_i, intD_b, strD_i, sumD_l, sumD_c, sumD_t, maxD_c, tupleD_l, tupleD_t, tupleD_c, listD_l, listD_t,
 ixD_l, ixD_r, ixD_t, ixD_s, ixD_c, slD_s, slD_l, slD_r, putIx_c, appendD_c, extendD_cl, isTy_c, isTy_s, isTy_l, iaddD, atI_0, atI_1, atI_2, atI_3, atI_4, low_int, low_str, low_bl, low_non, anyI_l, anyI_r, anyI_t, anyI_s, rng1I_i, rng2I_ii, ixN5, set_concat, get_concat, take_concat, len_concat, notInD_cs, inD_cs, sindexD_s, intD_s, tyN_s, tyN_i, tyN_b, tyN_n, tyN_t, tyN_l, tyIs_t, zipI_tt,
 startD, List.map_cons, List.map_nil, List.length_cons, List.length_nil, List.cons_append, List.nil_append, List.getElem?_cons_zero, List.getElem?_cons_succ, List.set_cons_zero, List.set_cons_succ, List.replicate_succ, List.replicate_zero, Option.bind_some, if_true, if_false, Bool.true_and, Bool.false_and, Bool.and_true, Bool.not_true, Bool.not_false, decide_true, decide_false, eq_self, Nat.zero_add, Nat.reduceAdd, Nat.reduceSub, reduceIte, reduceCtorEq, Int.reduceEq, Bool.false_eq_true, true_and, and_true, true_or, or_true, decide_eq_true_eq, hx1, hi1]
  · obtain ⟨d, b', e, h2, h3, h4⟩ := rest x i hx hi
    refine ⟨d, b', ?_, h2, h3, h4⟩
    rw [← e]
    simp only [Bd, seqS, setS, retS, retN, dropS, ifS, forS, putS, augS, nxS, bkS, ctS, SR.seq_nx, SR.seq_rt, SR.seq_exc, SR.seq_bk, SR.seq_ct, SR.turn_nx, SR.turn_ct, SR.turn_bk, SR.turn_rt, SR.turn_exc, R.bind_ok, R.bind_bad, R.bind_exc, R.bindN_ok, R.st_ok, R.st_exc,
 varE, cE, binF, tstF, chnF, andB, orB, notB, andV, orV, notV, ifE, nilF, consF, tupF, lstF, ownF, negF, noO, someO, slF, callF, appF, isiF, mthF, itF, itA, nmG, nilG, consG, tupG, yesB, wipeD,
 addD_ii, addD_ss, addD_ll, subD_ii, mulD_ii, mulD_li, mulD_si, fdivD_ii, modD_ii, powD_10_18, ltD_ii, leD_ii, gtD_ii, geD_ii, gtD_ss, ltD_ss, eqD_ii, eqD_ss, eqD_bb, neD_ii, neD_ss, isBD_bb, isND_non, isND_int, isND_str, notND_non, notND_int, notND_str, lenD_s, lenD_l, lenD_r, lenD_t, lenD_c, min2D_ii, max2D_ii, intD_i, intD_b, strD_i, sumD_l, sumD_c, sumD_t, maxD_c, tupleD_l, tupleD_t, tupleD_c, listD_l, listD_t,
 ixD_l, ixD_r, ixD_t, ixD_s, ixD_c, slD_s, slD_l, slD_r, putIx_c, appendD_c, extendD_cl, isTy_c, isTy_s, isTy_l, iaddD, atI_0, atI_1, atI_2, atI_3, atI_4, low_int, low_str, low_bl, low_non, anyI_l, anyI_r, anyI_t, anyI_s, rng1I_i, rng2I_ii, ixN5, set_concat, get_concat, take_concat, len_concat, notInD_cs, inD_cs, sindexD_s, intD_s, tyN_s, tyN_i, tyN_b, tyN_n, tyN_t, tyN_l, tyIs_t, zipI_tt,
 startD, List.map_cons, List.map_nil, List.length_cons, List.length_nil, List.cons_append, List.nil_append, List.getElem?_cons_zero, List.getElem?_cons_succ, List.set_cons_zero, List.set_cons_succ, List.replicate_succ, List.replicate_zero, Option.bind_some, if_true, if_false, Bool.true_and, Bool.false_and, Bool.and_true, Bool.not_true, Bool.not_false, decide_true, decide_false, eq_self, Nat.zero_add, Nat.reduceAdd, Nat.reduceSub, reduceIte, reduceCtorEq, Int.reduceEq, Bool.false_eq_true, true_and, and_true, true_or, or_true, decide_eq_true_eq, hx1]

/-! ### the bag made of the script -/
theorem sizeLine_big {n : Nat} (h : n ≤ 1000000) : NLe n sizeLine := by unfold NLe; rw [sizeLine_eq]; omega
theorem sIx63 (n : Nat) : HT.sIx n n (some (63 : Int)) = min 63 n := by
  have := HT.sIx_nat n n 63
  exact this
theorem cutD_head (ds : List D) (k : Nat) : cutD ds none (some (k : Int)) = ds.take k := by
  unfold cutD
  rw [HT.sIx_none, HT.sIx_nat, List.drop_zero, Nat.sub_zero]
  apply List.ext_getElem?
  intro i
  rw [List.getElem?_take, List.getElem?_take]
  by_cases h : i < min k ds.length
  · rw [if_pos h, if_pos (by omega)]
  · rw [if_neg h]
    by_cases h2 : i < k
    · rw [if_pos h2, List.getElem?_eq_none (by omega)]
    · rw [if_neg h2]
theorem cutD_short (ds : List D) (k : Nat) (h : ds.length ≤ k) : cutD ds none (some (k : Int)) = ds := by rw [cutD_head, List.take_of_length_le h]
theorem bag_ok (ns : List Int) (hl : ns.length ≤ 63) : ∃ b, F__law_bag [.rol (ns.map D.int)] [] = .ok (.cell 0) [.lst b] ∧ BagOk 0 b := by
  refine ⟨[.int 0, .lst ((ns.map fun c => if c ≥ 0 then c else 1 - c).map D.int), .int 0, .int 0, .int 20261], ?_, ⟨0, _, 0, 0, 20261, rfl, by decide, fun y hy => ?_, by decide, by decide, by decide, by decide, by decide⟩⟩
  · unfold F__law_bag fnK g__law_bag
    have hcut : cutD (ns.map D.int) none (some 63) = ns.map D.int := cutD_short _ 63 (by simpa using hl)
    have hi : (itF anyI (slF (varE 0) noO (someO (cE (.int 63))))) [some (.rol (ns.map D.int)), none, none] [] = .ok (ns.map D.int) [] := by
      simp only [Bd, seqS, setS, retS, retN, dropS, ifS, forS, putS, augS, nxS, bkS, ctS, SR.seq_nx, SR.seq_rt, SR.seq_exc, SR.seq_bk, SR.seq_ct, SR.turn_nx, SR.turn_ct, SR.turn_bk, SR.turn_rt, SR.turn_exc, R.bind_ok, R.bind_bad, R.bind_exc, R.bindN_ok, R.st_ok, R.st_exc,
 varE, cE, binF, tstF, chnF, andB, orB, notB, andV, orV, notV, ifE, nilF, consF, tupF, lstF, ownF, negF, noO, someO, slF, callF, appF, isiF, mthF, itF, itA, nmG, nilG, consG, tupG, yesB, wipeD,
 addD_ii, addD_ss, addD_ll, subD_ii, mulD_ii, mulD_li, mulD_si, fdivD_ii, modD_ii, powD_10_18, ltD_ii, leD_ii, gtD_ii, geD_ii, gtD_ss, ltD_ss, eqD_ii, eqD_ss, eqD_bb, neD_ii, neD_ss, isBD_bb, isND_non, isND_int, isND_str, notND_non, notND_int, notND_str, lenD_s, lenD_l, lenD_r, lenD_t, lenD_c, min2D_ii, max2D_ii, intD_i, intD_b, strD_i, sumD_l, sumD_c, sumD_t, maxD_c, tupleD_l, tupleD_t, tupleD_c, listD_l, listD_t,
 ixD_l, ixD_r, ixD_t, ixD_s, ixD_c, slD_s, slD_l, slD_r, putIx_c, appendD_c, extendD_cl, isTy_c, isTy_s, isTy_l, iaddD, atI_0, atI_1, atI_2, atI_3, atI_4, low_int, low_str, low_bl, low_non, anyI_l, anyI_r, anyI_t, anyI_s, rng1I_i, rng2I_ii, ixN5, set_concat, get_concat, take_concat, len_concat, notInD_cs, inD_cs, sindexD_s, intD_s, tyN_s, tyN_i, tyN_b, tyN_n, tyN_t, tyN_l, tyIs_t, zipI_tt,
 startD, List.map_cons, List.map_nil, List.length_cons, List.length_nil, List.cons_append, List.nil_append, List.getElem?_cons_zero, List.getElem?_cons_succ, List.set_cons_zero, List.set_cons_succ, List.replicate_succ, List.replicate_zero, Option.bind_some, if_true, if_false, Bool.true_and, Bool.false_and, Bool.and_true, Bool.not_true, Bool.not_false, decide_true, decide_false, eq_self, Nat.zero_add, Nat.reduceAdd, Nat.reduceSub, reduceIte, reduceCtorEq, Int.reduceEq, Bool.false_eq_true, true_and, and_true, true_or, or_true, decide_eq_true_eq, hcut]
    have hc := compF_all (vs := [2]) (g := nmG 2) (fe := ifE (tstF (binF geD (varE 2) (cE (.int 0)))) (varE 2) (binF subD (cE (.int 1)) (varE 2))) (fun d => match d with | .int c => .int (if c ≥ 0 then c else 1 - c) | d => d) hi (by rw [List.length_map]; exact sizeLine_big (by omega)) (fun d hd acc => by
      obtain ⟨c, _, rfl⟩ := List.mem_map.mp hd
      refine ⟨[some (.rol (ns.map D.int)), none, some (.int c)], by simp only [Bd, seqS, setS, retS, retN, dropS, ifS, forS, putS, augS, nxS, bkS, ctS, SR.seq_nx, SR.seq_rt, SR.seq_exc, SR.seq_bk, SR.seq_ct, SR.turn_nx, SR.turn_ct, SR.turn_bk, SR.turn_rt, SR.turn_exc, R.bind_ok, R.bind_bad, R.bind_exc, R.bindN_ok, R.st_ok, R.st_exc,
 varE, cE, binF, tstF, chnF, andB, orB, notB, andV, orV, notV, ifE, nilF, consF, tupF, lstF, ownF, negF, noO, someO, slF, callF, appF, isiF, mthF, itF, itA, nmG, nilG, consG, tupG, yesB, wipeD,
 addD_ii, addD_ss, addD_ll, subD_ii, mulD_ii, mulD_li, mulD_si, fdivD_ii, modD_ii, powD_10_18, ltD_ii, leD_ii, gtD_ii, geD_ii, gtD_ss, ltD_ss, eqD_ii, eqD_ss, eqD_bb, neD_ii, neD_ss, isBD_bb, isND_non, isND_int, isND_str, notND_non, notND_int, notND_str, lenD_s, lenD_l, lenD_r, lenD_t, lenD_c, min2D_ii, max2D_ii, intD_i, intD_b, strD_i, sumD_l, sumD_c, sumD_t, maxD_c, tupleD_l, tupleD_t, tupleD_c, listD_l, listD_t,
 ixD_l, ixD_r, ixD_t, ixD_s, ixD_c, slD_s, slD_l, slD_r, putIx_c, appendD_c, extendD_cl, isTy_c, isTy_s, isTy_l, iaddD, atI_0, atI_1, atI_2, atI_3, atI_4, low_int, low_str, low_bl, low_non, anyI_l, anyI_r, anyI_t, anyI_s, rng1I_i, rng2I_ii, ixN5, set_concat, get_concat, take_concat, len_concat, notInD_cs, inD_cs, sindexD_s, intD_s, tyN_s, tyN_i, tyN_b, tyN_n, tyN_t, tyN_l, tyIs_t, zipI_tt,
 startD, List.map_cons, List.map_nil, List.length_cons, List.length_nil, List.cons_append, List.nil_append, List.getElem?_cons_zero, List.getElem?_cons_succ, List.set_cons_zero, List.set_cons_succ, List.replicate_succ, List.replicate_zero, Option.bind_some, if_true, if_false, Bool.true_and, Bool.false_and, Bool.and_true, Bool.not_true, Bool.not_false, decide_true, decide_false, eq_self, Nat.zero_add, Nat.reduceAdd, Nat.reduceSub, reduceIte, reduceCtorEq, Int.reduceEq, Bool.false_eq_true, true_and, and_true, true_or, or_true, decide_eq_true_eq], ?_, rfl⟩
      by_cases h : 0 ≤ c
      · simp only [Bd, seqS, setS, retS, retN, dropS, ifS, forS, putS, augS, nxS, bkS, ctS, SR.seq_nx, SR.seq_rt, SR.seq_exc, SR.seq_bk, SR.seq_ct, SR.turn_nx, SR.turn_ct, SR.turn_bk, SR.turn_rt, SR.turn_exc, R.bind_ok, R.bind_bad, R.bind_exc, R.bindN_ok, R.st_ok, R.st_exc,
 varE, cE, binF, tstF, chnF, andB, orB, notB, andV, orV, notV, ifE, nilF, consF, tupF, lstF, ownF, negF, noO, someO, slF, callF, appF, isiF, mthF, itF, itA, nmG, nilG, consG, tupG, yesB, wipeD,
 addD_ii, addD_ss, addD_ll, subD_ii, mulD_ii, mulD_li, mulD_si, fdivD_ii, modD_ii, powD_10_18, ltD_ii, leD_ii, gtD_ii, geD_ii, gtD_ss, ltD_ss, eqD_ii, eqD_ss, eqD_bb, neD_ii, neD_ss, isBD_bb, isND_non, isND_int, isND_str, notND_non, notND_int, notND_str, lenD_s, lenD_l, lenD_r, lenD_t, lenD_c, min2D_ii, max2D_ii, intD_i, intD_b, strD_i, sumD_l, sumD_c, sumD_t, maxD_c, tupleD_l, tupleD_t, tupleD_c, listD_l, listD_t,
 ixD_l, ixD_r, ixD_t, ixD_s, ixD_c, slD_s, slD_l, slD_r, putIx_c, appendD_c, extendD_cl, isTy_c, isTy_s, isTy_l, iaddD, atI_0, atI_1, atI_2, atI_3, atI_4, low_int, low_str, low_bl, low_non, anyI_l, anyI_r, anyI_t, anyI_s, rng1I_i, rng2I_ii, ixN5, set_concat, get_concat, take_concat, len_concat, notInD_cs, inD_cs, sindexD_s, intD_s, tyN_s, tyN_i, tyN_b, tyN_n, tyN_t, tyN_l, tyIs_t, zipI_tt,
 startD, List.map_cons, List.map_nil, List.length_cons, List.length_nil, List.cons_append, List.nil_append, List.getElem?_cons_zero, List.getElem?_cons_succ, List.set_cons_zero, List.set_cons_succ, List.replicate_succ, List.replicate_zero, Option.bind_some, if_true, if_false, Bool.true_and, Bool.false_and, Bool.and_true, Bool.not_true, Bool.not_false, decide_true, decide_false, eq_self, Nat.zero_add, Nat.reduceAdd, Nat.reduceSub, reduceIte, reduceCtorEq, Int.reduceEq, Bool.false_eq_true, true_and, and_true, true_or, or_true, decide_eq_true_eq, h, ge_iff_le]
      · simp only [Bd, seqS, setS, retS, retN, dropS, ifS, forS, putS, augS, nxS, bkS, ctS, SR.seq_nx, SR.seq_rt, SR.seq_exc, SR.seq_bk, SR.seq_ct, SR.turn_nx, SR.turn_ct, SR.turn_bk, SR.turn_rt, SR.turn_exc, R.bind_ok, R.bind_bad, R.bind_exc, R.bindN_ok, R.st_ok, R.st_exc,
 varE, cE, binF, tstF, chnF, andB, orB, notB, andV, orV, notV, ifE, nilF, consF, tupF, lstF, ownF, negF, noO, someO, slF, callF, appF, isiF, mthF, itF, itA, nmG, nilG, consG, tupG, yesB, wipeD,
 addD_ii, addD_ss, addD_ll, subD_ii, mulD_ii, mulD_li, mulD_si, fdivD_ii, modD_ii, powD_10_18, ltD_ii, leD_ii, gtD_ii, geD_ii, gtD_ss, ltD_ss, eqD_ii, eqD_ss, eqD_bb, neD_ii, neD_ss, isBD_bb, isND_non, isND_int, isND_str, notND_non, notND_int, notND_str, lenD_s, lenD_l, lenD_r, lenD_t, lenD_c, min2D_ii, max2D_ii, intD_i, intD_b, strD_i, sumD_l, sumD_c, sumD_t, maxD_c, tupleD_l, tupleD_t, tupleD_c, listD_l, listD_t,
 ixD_l, ixD_r, ixD_t, ixD_s, ixD_c, slD_s, slD_l, slD_r, putIx_c, appendD_c, extendD_cl, isTy_c, isTy_s, isTy_l, iaddD, atI_0, atI_1, atI_2, atI_3, atI_4, low_int, low_str, low_bl, low_non, anyI_l, anyI_r, anyI_t, anyI_s, rng1I_i, rng2I_ii, ixN5, set_concat, get_concat, take_concat, len_concat, notInD_cs, inD_cs, sindexD_s, intD_s, tyN_s, tyN_i, tyN_b, tyN_n, tyN_t, tyN_l, tyIs_t, zipI_tt,
 startD, List.map_cons, List.map_nil, List.length_cons, List.length_nil, List.cons_append, List.nil_append, List.getElem?_cons_zero, List.getElem?_cons_succ, List.set_cons_zero, List.set_cons_succ, List.replicate_succ, List.replicate_zero, Option.bind_some, if_true, if_false, Bool.true_and, Bool.false_and, Bool.and_true, Bool.not_true, Bool.not_false, decide_true, decide_false, eq_self, Nat.zero_add, Nat.reduceAdd, Nat.reduceSub, reduceIte, reduceCtorEq, Int.reduceEq, Bool.false_eq_true, true_and, and_true, true_or, or_true, decide_eq_true_eq, h, ge_iff_le])
    simp only [List.map_map] at hc
    simp only [Bd, seqS, setS, retS, retN, dropS, ifS, forS, putS, augS, nxS, bkS, ctS, SR.seq_nx, SR.seq_rt, SR.seq_exc, SR.seq_bk, SR.seq_ct, SR.turn_nx, SR.turn_ct, SR.turn_bk, SR.turn_rt, SR.turn_exc, R.bind_ok, R.bind_bad, R.bind_exc, R.bindN_ok, R.st_ok, R.st_exc,
 varE, cE, binF, tstF, chnF, andB, orB, notB, andV, orV, notV, ifE, nilF, consF, tupF, lstF, ownF, negF, noO, someO, slF, callF, appF, isiF, mthF, itF, itA, nmG, nilG, consG, tupG, yesB, wipeD,
 addD_ii, addD_ss, addD_ll, subD_ii, mulD_ii, mulD_li, mulD_si, fdivD_ii, modD_ii, powD_10_18, ltD_ii, leD_ii, gtD_ii, geD_ii, gtD_ss, ltD_ss, eqD_ii, eqD_ss, eqD_bb, neD_ii, neD_ss, isBD_bb, isND_non, isND_int, isND_str, notND_non, notND_int, notND_str, lenD_s, lenD_l, lenD_r, lenD_t, lenD_c, min2D_ii, max2D_ii, intD_i, intD_b, strD_i, sumD_l, sumD_c, sumD_t, maxD_c, tupleD_l, tupleD_t, tupleD_c, listD_l, listD_t,
 ixD_l, ixD_r, ixD_t, ixD_s, ixD_c, slD_s, slD_l, slD_r, putIx_c, appendD_c, extendD_cl, isTy_c, isTy_s, isTy_l, iaddD, atI_0, atI_1, atI_2, atI_3, atI_4, low_int, low_str, low_bl, low_non, anyI_l, anyI_r, anyI_t, anyI_s, rng1I_i, rng2I_ii, ixN5, set_concat, get_concat, take_concat, len_concat, notInD_cs, inD_cs, sindexD_s, intD_s, tyN_s, tyN_i, tyN_b, tyN_n, tyN_t, tyN_l, tyIs_t, zipI_tt,
 startD, List.map_cons, List.map_nil, List.length_cons, List.length_nil, List.cons_append, List.nil_append, List.getElem?_cons_zero, List.getElem?_cons_succ, List.set_cons_zero, List.set_cons_succ, List.replicate_succ, List.replicate_zero, Option.bind_some, if_true, if_false, Bool.true_and, Bool.false_and, Bool.and_true, Bool.not_true, Bool.not_false, decide_true, decide_false, eq_self, Nat.zero_add, Nat.reduceAdd, Nat.reduceSub, reduceIte, reduceCtorEq, Int.reduceEq, Bool.false_eq_true, true_and, and_true, true_or, or_true, decide_eq_true_eq, hc, List.map_map]
    rw [if_pos (sizeLine_big (by decide))]
    rfl
  · obtain ⟨c, _, rfl⟩ := List.mem_map.mp hy
    split <;> omega

/-! ### numbers -/
/-- the text of digits -/
def numS (ds : List Nat) : Str := ⟨(ds.map fun d => 48 + d).toArray⟩
structure IsNum (ds : List Nat) : Prop where
  dig : ∀ d ∈ ds, 1 ≤ d ∧ d ≤ 9
  pos : 1 ≤ ds.length
  few : ds.length ≤ 4
  sum : ds.sum ≤ 24
theorem numS_len (ds : List Nat) : (numS ds).length = ds.length := by simp [numS, Str.length]
theorem str_ext {a b : Str} (h : a.cps.toList = b.cps.toList) : a = b := Str.ext' (Array.toList_inj.mp h)
theorem numS_list (ds : List Nat) : (numS ds).cps.toList = ds.map fun d => 48 + d := by simp [numS]
theorem numS_snoc (ds : List Nat) (d : Nat) : numS ds ++ (⟨#[48 + d]⟩ : Str) = numS (ds ++ [d]) := by
  apply TL.ext_tl
  rw [TL.tl_append]
  simp [TL.tl, numS]
theorem numS_inj {a b : List Nat} (h : numS a = numS b) : a = b := by
  have := congrArg (fun z : Str => z.cps.toList) h
  simp only [numS_list] at this
  induction a generalizing b with
  | nil => cases b with | nil => rfl | cons _ _ => simp at this
  | cons x a ih =>
    cases b with
    | nil => simp at this
    | cons y b =>
      simp at this
      obtain ⟨h1, h2⟩ := this
      have hh : a.map (fun d => 48 + d) = b.map (fun d => 48 + d) := by simpa using h2
      rw [show x = y by omega, ih (b := b) (by unfold numS; rw [hh]) hh]
theorem str_digit {d : Int} (h1 : 1 ≤ d) (h2 : d ≤ 9) : ((toString d : String) : Str) = (⟨#[48 + d.toNat]⟩ : Str) := by
  have : d = 1 ∨ d = 2 ∨ d = 3 ∨ d = 4 ∨ d = 5 ∨ d = 6 ∨ d = 7 ∨ d = 8 ∨ d = 9 := by omega
  rcases this with rfl | rfl | rfl | rfl | rfl | rfl | rfl | rfl | rfl <;> decide +kernel
theorem tops {way : Int} (h0 : 0 ≤ way) (h1 : way < 6) : ∃ t : Int, atI [D.int 3, D.int 3, D.int 3, D.int 3, D.int 9, D.int 9] way = some (.int t) ∧ 3 ≤ t ∧ t ≤ 9 := by
  have : way = 0 ∨ way = 1 ∨ way = 2 ∨ way = 3 ∨ way = 4 ∨ way = 5 := by omega
  rcases this with rfl | rfl | rfl | rfl | rfl | rfl
  · exact ⟨3, rfl, by decide, by decide⟩
  · exact ⟨3, rfl, by decide, by decide⟩
  · exact ⟨3, rfl, by decide, by decide⟩
  · exact ⟨3, rfl, by decide, by decide⟩
  · exact ⟨9, rfl, by decide, by decide⟩
  · exact ⟨9, rfl, by decide, by decide⟩
theorem log2_small {i : Int} (h0 : 0 ≤ i) (h : i < 1000) : i.natAbs.log2 < 1920 := by
  by_cases hz : i.natAbs = 0
  · rw [hz]; decide
  · rw [Nat.log2_lt hz]
    exact Nat.lt_of_lt_of_le (show i.natAbs < 2 ^ 10 by omega) (Nat.pow_le_pow_right (by decide) (by decide))
theorem lt1000 {i : Int} (h : i < 2 ^ 64) : i < 2 ^ 1000 := Int.lt_of_lt_of_le h (by decide)
theorem number_ok {m : Nat} {b : List D} {T : Sto} (hb : BagOk m b) (hm : m < 2 ^ 59) :
    ∃ ds b', F__law_number [.cell 0] (.lst b :: T) = .ok (.str (numS ds)) (.lst b' :: T) ∧ IsNum ds ∧ BagOk (m + 6) b' := by
  unfold F__law_number fnF g__law_number
  obtain ⟨q, b1, e1, q0, q1, hb1⟩ := draw_ok (T := T) (lim := 4) hb (by decide) (by decide) (by omega)
  obtain ⟨way, b2, e2, w0, w1, hb2⟩ := draw_ok (T := T) (lim := 6) hb1 (by decide) (by decide) (by omega)
  obtain ⟨top, et, t0, t1⟩ := tops w0 w1
  have hmany : (1 + q).toNat ≤ 4 := by omega
  have hr : -(2 ^ 62) ≤ 1 + q ∧ 1 + q < 2 ^ 62 := by constructor <;> omega
  have s6 : NLe 6 sizeLine := sizeLine_big (by decide)
  -- the loop
  have loop := forL_inv (g := nmG 6) (body := (seqS (setS 7 (binF addD (cE (.int 1)) (callF 2 F__law_draw (consF (varE 0) (consF (appF min2D (consF (varE 3) (consF (binF subD (varE 5) (binF subD (binF subD (varE 1) (cE (.int 1))) (varE 6))) nilF))) nilF)))))
  (seqS (ifS (andB (tstF (binF eqD (varE 2) (cE (.int 5)))) (tstF (binF eqD (varE 6) (binF subD (varE 1) (cE (.int 1)))))) (setS 7 (appF min2D (consF (cE (.int 9)) (consF (varE 5) nilF)))) nxS)
  (seqS (setS 4 (binF addD (varE 4) (appF strD (consF (varE 7) nilF))))
  (setS 5 (binF subD (varE 5) (varE 7))))))) (ds := (List.range (1 + q).toNat).map fun k => D.int (0 + (k : Nat)))
    (fun i ρ S => ∃ (ds : List Nat) (b' : List D) (u v : Option D), ρ = [some (.cell 0), some (.int (1 + q)), some (.int way), some (.int top), some (.str (numS ds)), some (.int (24 - (ds.sum : Nat))), u, v] ∧
      S = .lst b' :: T ∧ BagOk (m + 2 + i) b' ∧ ds.length = i ∧ (∀ d ∈ ds, 1 ≤ d ∧ d ≤ 9) ∧ (ds.sum : Int) + (1 + q - i) ≤ 24)
    (fun i d ρ S hd hP => by
      obtain ⟨ds, b', u, v, rfl, rfl, hb', hlen, hdig, hsum⟩ := hP
      have hi : i < (1 + q).toNat := by
        have := (List.getElem?_eq_some_iff.mp hd).1
        simpa using this
      rw [List.getElem?_map, List.getElem?_range hi] at hd
      cases hd
      have hlim : ∃ lim : Int, (if 24 - (ds.sum : Int) - (1 + q - 1 - (0 + (i : Nat))) < top then 24 - (ds.sum : Int) - (1 + q - 1 - (0 + (i : Nat))) else top) = lim ∧ 0 < lim ∧ lim ≤ 9 ∧ lim ≤ 24 - (ds.sum : Int) - (1 + q - 1 - (i : Nat)) := by
        refine ⟨_, rfl, ?_, ?_, ?_⟩ <;> split <;> omega
      obtain ⟨lim, el, l0, l9, ll⟩ := hlim
      obtain ⟨dd, b3, e3, d0, d1, hb3⟩ := draw_ok (T := T) (lim := lim) hb' l0 (lt1000 (by omega)) (by omega)
      have key : ∀ z : Int, 1 ≤ z → z ≤ 9 → (ds.sum : Int) + z + (1 + q - (i + 1 : Nat)) ≤ 24 → ∃ ρ2 S2, (seqS (setS 4 (binF addD (varE 4) (appF strD (consF (varE 7) nilF))))
          (setS 5 (binF subD (varE 5) (varE 7)))) [some (.cell 0), some (.int (1 + q)), some (.int way), some (.int top), some (.str (numS ds)), some (.int (24 - (ds.sum : Nat))), some (.int (0 + (i : Nat))), some (.int z)] (.lst b3 :: T) = .nx ρ2 S2 ∧
          ∃ (ds : List Nat) (b' : List D) (u v : Option D), ρ2 = [some (.cell 0), some (.int (1 + q)), some (.int way), some (.int top), some (.str (numS ds)), some (.int (24 - (ds.sum : Nat))), u, v] ∧
      S2 = .lst b' :: T ∧ BagOk (m + 2 + (i + 1)) b' ∧ ds.length = i + 1 ∧ (∀ d ∈ ds, 1 ≤ d ∧ d ≤ 9) ∧ (ds.sum : Int) + (1 + q - (i + 1 : Nat)) ≤ 24 := by
        intro z z1 z9 hz
        have hs := str_digit z1 z9
        have hl2 : NLe (z.natAbs.log2 + 1) 1920 := log2_small (by omega) (by omega)
        have hsz : NLe ((numS ds).length + (⟨#[48 + z.toNat]⟩ : Str).length) sizeLine := sizeLine_big (by rw [numS_len, hlen]; simp [Str.length]; omega)
        have hsub : 24 - (ds.sum : Int) - z = 24 - ((ds ++ [z.toNat]).sum : Nat) := by simp; omega
        refine ⟨_, _, by simp only [Bd, seqS, setS, retS, retN, dropS, ifS, forS, putS, augS, nxS, bkS, ctS, SR.seq_nx, SR.seq_rt, SR.seq_exc, SR.seq_bk, SR.seq_ct, SR.turn_nx, SR.turn_ct, SR.turn_bk, SR.turn_rt, SR.turn_exc, R.bind_ok, R.bind_bad, R.bind_exc, R.bindN_ok, R.st_ok, R.st_exc,
 varE, cE, binF, tstF, chnF, andB, orB, notB, andV, orV, notV, ifE, nilF, consF, tupF, lstF, ownF, negF, noO, someO, slF, callF, appF, isiF, mthF, itF, itA, nmG, nilG, consG, tupG, yesB, wipeD,
 addD_ii, addD_ss, addD_ll, subD_ii, mulD_ii, mulD_li, mulD_si, fdivD_ii, modD_ii, powD_10_18, ltD_ii, leD_ii, gtD_ii, geD_ii, gtD_ss, ltD_ss, eqD_ii, eqD_ss, eqD_bb, neD_ii, neD_ss, isBD_bb, isND_non, isND_int, isND_str, notND_non, notND_int, notND_str, lenD_s, lenD_l, lenD_r, lenD_t, lenD_c, min2D_ii, max2D_ii, intD_i, intD_b, strD_i, sumD_l, sumD_c, sumD_t, maxD_c, tupleD_l, tupleD_t, tupleD_c, listD_l, listD_t,
 ixD_l, ixD_r, ixD_t, ixD_s, ixD_c, slD_s, slD_l, slD_r, putIx_c, appendD_c, extendD_cl, isTy_c, isTy_s, isTy_l, iaddD, atI_0, atI_1, atI_2, atI_3, atI_4, low_int, low_str, low_bl, low_non, anyI_l, anyI_r, anyI_t, anyI_s, rng1I_i, rng2I_ii, ixN5, set_concat, get_concat, take_concat, len_concat, notInD_cs, inD_cs, sindexD_s, intD_s, tyN_s, tyN_i, tyN_b, tyN_n, tyN_t, tyN_l, tyIs_t, zipI_tt,
 startD, List.map_cons, List.map_nil, List.length_cons, List.length_nil, List.cons_append, List.nil_append, List.getElem?_cons_zero, List.getElem?_cons_succ, List.set_cons_zero, List.set_cons_succ, List.replicate_succ, List.replicate_zero, Option.bind_some, if_true, if_false, Bool.true_and, Bool.false_and, Bool.and_true, Bool.not_true, Bool.not_false, decide_true, decide_false, eq_self, Nat.zero_add, Nat.reduceAdd, Nat.reduceSub, reduceIte, reduceCtorEq, Int.reduceEq, Bool.false_eq_true, true_and, and_true, true_or, or_true, decide_eq_true_eq, hl2, hs, hsz, numS_snoc, hsub]; rfl, ds ++ [z.toNat], b3, _, _, rfl, rfl, by rw [show m + 2 + (i + 1) = m + 2 + i + 1 by omega]; exact hb3, by simp [hlen], fun d hd => ?_, by simp; omega⟩
        rcases List.mem_append.mp hd with h | h
        · exact hdig d h
        · have : d = z.toNat := by simpa using h
          subst this; omega
      by_cases hw : way = 5 ∧ (0 + (i : Nat) : Int) = 1 + q - 1
      · obtain ⟨hw1, hw2⟩ := hw
        have hmin : (if 24 - (ds.sum : Int) < 9 then 24 - (ds.sum : Int) else 9) = min 9 (24 - (ds.sum : Int)) := by rw [Int.min_def]; split <;> split <;> omega
        obtain ⟨ρ2, S2, e4, P⟩ := key (if 24 - (ds.sum : Int) < 9 then 24 - (ds.sum : Int) else 9) (by split <;> omega) (by split <;> omega) (by split <;> omega)
        refine ⟨_, ρ2, S2, rfl, .inl ?_, P⟩
        rw [← e4]
        simp only [Bd, seqS, setS, retS, retN, dropS, ifS, forS, putS, augS, nxS, bkS, ctS, SR.seq_nx, SR.seq_rt, SR.seq_exc, SR.seq_bk, SR.seq_ct, SR.turn_nx, SR.turn_ct, SR.turn_bk, SR.turn_rt, SR.turn_exc, R.bind_ok, R.bind_bad, R.bind_exc, R.bindN_ok, R.st_ok, R.st_exc,
 varE, cE, binF, tstF, chnF, andB, orB, notB, andV, orV, notV, ifE, nilF, consF, tupF, lstF, ownF, negF, noO, someO, slF, callF, appF, isiF, mthF, itF, itA, nmG, nilG, consG, tupG, yesB, wipeD,
 addD_ii, addD_ss, addD_ll, subD_ii, mulD_ii, mulD_li, mulD_si, fdivD_ii, modD_ii, powD_10_18, ltD_ii, leD_ii, gtD_ii, geD_ii, gtD_ss, ltD_ss, eqD_ii, eqD_ss, eqD_bb, neD_ii, neD_ss, isBD_bb, isND_non, isND_int, isND_str, notND_non, notND_int, notND_str, lenD_s, lenD_l, lenD_r, lenD_t, lenD_c, min2D_ii, max2D_ii, intD_i, intD_b, strD_i, sumD_l, sumD_c, sumD_t, maxD_c, tupleD_l, tupleD_t, tupleD_c, listD_l, listD_t,
 ixD_l, ixD_r, ixD_t, ixD_s, ixD_c, slD_s, slD_l, slD_r, putIx_c, appendD_c, extendD_cl, isTy_c, isTy_s, isTy_l, iaddD, atI_0, atI_1, atI_2, atI_3, atI_4, low_int, low_str, low_bl, low_non, anyI_l, anyI_r, anyI_t, anyI_s, rng1I_i, rng2I_ii, ixN5, set_concat, get_concat, take_concat, len_concat, notInD_cs, inD_cs, sindexD_s, intD_s, tyN_s, tyN_i, tyN_b, tyN_n, tyN_t, tyN_l, tyIs_t, zipI_tt,
 startD, List.map_cons, List.map_nil, List.length_cons, List.length_nil, List.cons_append, List.nil_append, List.getElem?_cons_zero, List.getElem?_cons_succ, List.set_cons_zero, List.set_cons_succ, List.replicate_succ, List.replicate_zero, Option.bind_some, if_true, if_false, Bool.true_and, Bool.false_and, Bool.and_true, Bool.not_true, Bool.not_false, decide_true, decide_false, eq_self, Nat.zero_add, Nat.reduceAdd, Nat.reduceSub, reduceIte, reduceCtorEq, Int.reduceEq, Bool.false_eq_true, true_and, and_true, true_or, or_true, decide_eq_true_eq, el, e3, eq_true hw1, eq_true hw2]
      · obtain ⟨ρ2, S2, e4, P⟩ := key (1 + dd) (by omega) (by omega) (by omega)
        refine ⟨_, ρ2, S2, rfl, .inl ?_, P⟩
        rw [← e4]
        by_cases hw1 : way = 5
        · have hw2 : ¬ (0 + (i : Nat) : Int) = 1 + q - 1 := fun z => hw ⟨hw1, z⟩
          simp only [Bd, seqS, setS, retS, retN, dropS, ifS, forS, putS, augS, nxS, bkS, ctS, SR.seq_nx, SR.seq_rt, SR.seq_exc, SR.seq_bk, SR.seq_ct, SR.turn_nx, SR.turn_ct, SR.turn_bk, SR.turn_rt, SR.turn_exc, R.bind_ok, R.bind_bad, R.bind_exc, R.bindN_ok, R.st_ok, R.st_exc,
 varE, cE, binF, tstF, chnF, andB, orB, notB, andV, orV, notV, ifE, nilF, consF, tupF, lstF, ownF, negF, noO, someO, slF, callF, appF, isiF, mthF, itF, itA, nmG, nilG, consG, tupG, yesB, wipeD,
 addD_ii, addD_ss, addD_ll, subD_ii, mulD_ii, mulD_li, mulD_si, fdivD_ii, modD_ii, powD_10_18, ltD_ii, leD_ii, gtD_ii, geD_ii, gtD_ss, ltD_ss, eqD_ii, eqD_ss, eqD_bb, neD_ii, neD_ss, isBD_bb, isND_non, isND_int, isND_str, notND_non, notND_int, notND_str, lenD_s, lenD_l, lenD_r, lenD_t, lenD_c, min2D_ii, max2D_ii, intD_i, intD_b, strD_i, sumD_l, sumD_c, sumD_t, maxD_c, tupleD_l, tupleD_t, tupleD_c, listD_l, listD_t,
 ixD_l, ixD_r, ixD_t, ixD_s, ixD_c, slD_s, slD_l, slD_r, putIx_c, appendD_c, extendD_cl, isTy_c, isTy_s, isTy_l, iaddD, atI_0, atI_1, atI_2, atI_3, atI_4, low_int, low_str, low_bl, low_non, anyI_l, anyI_r, anyI_t, anyI_s, rng1I_i, rng2I_ii, ixN5, set_concat, get_concat, take_concat, len_concat, notInD_cs, inD_cs, sindexD_s, intD_s, tyN_s, tyN_i, tyN_b, tyN_n, tyN_t, tyN_l, tyIs_t, zipI_tt,
 startD, List.map_cons, List.map_nil, List.length_cons, List.length_nil, List.cons_append, List.nil_append, List.getElem?_cons_zero, List.getElem?_cons_succ, List.set_cons_zero, List.set_cons_succ, List.replicate_succ, List.replicate_zero, Option.bind_some, if_true, if_false, Bool.true_and, Bool.false_and, Bool.and_true, Bool.not_true, Bool.not_false, decide_true, decide_false, eq_self, Nat.zero_add, Nat.reduceAdd, Nat.reduceSub, reduceIte, reduceCtorEq, Int.reduceEq, Bool.false_eq_true, true_and, and_true, true_or, or_true, decide_eq_true_eq, el, e3, eq_true hw1, hw2]
        · simp only [Bd, seqS, setS, retS, retN, dropS, ifS, forS, putS, augS, nxS, bkS, ctS, SR.seq_nx, SR.seq_rt, SR.seq_exc, SR.seq_bk, SR.seq_ct, SR.turn_nx, SR.turn_ct, SR.turn_bk, SR.turn_rt, SR.turn_exc, R.bind_ok, R.bind_bad, R.bind_exc, R.bindN_ok, R.st_ok, R.st_exc,
 varE, cE, binF, tstF, chnF, andB, orB, notB, andV, orV, notV, ifE, nilF, consF, tupF, lstF, ownF, negF, noO, someO, slF, callF, appF, isiF, mthF, itF, itA, nmG, nilG, consG, tupG, yesB, wipeD,
 addD_ii, addD_ss, addD_ll, subD_ii, mulD_ii, mulD_li, mulD_si, fdivD_ii, modD_ii, powD_10_18, ltD_ii, leD_ii, gtD_ii, geD_ii, gtD_ss, ltD_ss, eqD_ii, eqD_ss, eqD_bb, neD_ii, neD_ss, isBD_bb, isND_non, isND_int, isND_str, notND_non, notND_int, notND_str, lenD_s, lenD_l, lenD_r, lenD_t, lenD_c, min2D_ii, max2D_ii, intD_i, intD_b, strD_i, sumD_l, sumD_c, sumD_t, maxD_c, tupleD_l, tupleD_t, tupleD_c, listD_l, listD_t,
 ixD_l, ixD_r, ixD_t, ixD_s, ixD_c, slD_s, slD_l, slD_r, putIx_c, appendD_c, extendD_cl, isTy_c, isTy_s, isTy_l, iaddD, atI_0, atI_1, atI_2, atI_3, atI_4, low_int, low_str, low_bl, low_non, anyI_l, anyI_r, anyI_t, anyI_s, rng1I_i, rng2I_ii, ixN5, set_concat, get_concat, take_concat, len_concat, notInD_cs, inD_cs, sindexD_s, intD_s, tyN_s, tyN_i, tyN_b, tyN_n, tyN_t, tyN_l, tyIs_t, zipI_tt,
 startD, List.map_cons, List.map_nil, List.length_cons, List.length_nil, List.cons_append, List.nil_append, List.getElem?_cons_zero, List.getElem?_cons_succ, List.set_cons_zero, List.set_cons_succ, List.replicate_succ, List.replicate_zero, Option.bind_some, if_true, if_false, Bool.true_and, Bool.false_and, Bool.and_true, Bool.not_true, Bool.not_false, decide_true, decide_false, eq_self, Nat.zero_add, Nat.reduceAdd, Nat.reduceSub, reduceIte, reduceCtorEq, Int.reduceEq, Bool.false_eq_true, true_and, and_true, true_or, or_true, decide_eq_true_eq, el, e3, hw1])
    [some (.cell 0), some (.int (1 + q)), some (.int way), some (.int top), some (.str ""), some (.int 24), none, none] (.lst b2 :: T)
    ⟨[], b2, none, none, rfl, rfl, hb2, rfl, fun _ h => (by cases h), by simp; omega⟩
  obtain ⟨ρ2, S2, e5, ds, b', u, v, rfl, rfl, hb', hlen, hdig, hsum⟩ := loop
  have hlen' : ds.length = (1 + q).toNat := by simpa using hlen
  refine ⟨ds, b', ?_, ⟨hdig, by omega, by omega, by omega⟩, hb'.mono (by simp; omega)⟩
  simp only [Bd, seqS, setS, retS, retN, dropS, ifS, forS, putS, augS, nxS, bkS, ctS, SR.seq_nx, SR.seq_rt, SR.seq_exc, SR.seq_bk, SR.seq_ct, SR.turn_nx, SR.turn_ct, SR.turn_bk, SR.turn_rt, SR.turn_exc, R.bind_ok, R.bind_bad, R.bind_exc, R.bindN_ok, R.st_ok, R.st_exc,
 varE, cE, binF, tstF, chnF, andB, orB, notB, andV, orV, notV, ifE, nilF, consF, tupF, lstF, ownF, negF, noO, someO, slF, callF, appF, isiF, mthF, itF, itA, nmG, nilG, consG, tupG, yesB, wipeD,
 addD_ii, addD_ss, addD_ll, subD_ii, mulD_ii, mulD_li, mulD_si, fdivD_ii, modD_ii, powD_10_18, ltD_ii, leD_ii, gtD_ii, geD_ii, gtD_ss, ltD_ss, eqD_ii, eqD_ss, eqD_bb, neD_ii, neD_ss, isBD_bb, isND_non, isND_int, isND_str, notND_non, notND_int, notND_str, lenD_s, lenD_l, lenD_r, lenD_t, lenD_c, min2D_ii, max2D_ii, intD_i, intD_b, strD_i, sumD_l, sumD_c, sumD_t, maxD_c, tupleD_l, tupleD_t, tupleD_c, listD_l, listD_t,
 ixD_l, ixD_r, ixD_t, ixD_s, ixD_c, slD_s, slD_l, slD_r, putIx_c, appendD_c, extendD_cl, isTy_c, isTy_s, isTy_l, iaddD, atI_0, atI_1, atI_2, atI_3, atI_4, low_int, low_str, low_bl, low_non, anyI_l, anyI_r, anyI_t, anyI_s, rng1I_i, rng2I_ii, ixN5, set_concat, get_concat, take_concat, len_concat, notInD_cs, inD_cs, sindexD_s, intD_s, tyN_s, tyN_i, tyN_b, tyN_n, tyN_t, tyN_l, tyIs_t, zipI_tt,
 startD, List.map_cons, List.map_nil, List.length_cons, List.length_nil, List.cons_append, List.nil_append, List.getElem?_cons_zero, List.getElem?_cons_succ, List.set_cons_zero, List.set_cons_succ, List.replicate_succ, List.replicate_zero, Option.bind_some, if_true, if_false, Bool.true_and, Bool.false_and, Bool.and_true, Bool.not_true, Bool.not_false, decide_true, decide_false, eq_self, Nat.zero_add, Nat.reduceAdd, Nat.reduceSub, reduceIte, reduceCtorEq, Int.reduceEq, Bool.false_eq_true, true_and, and_true, true_or, or_true, decide_eq_true_eq, e1, e2, et, s6, hr, e5, leave_rt, fz_str, take_cons]
end Zd

set_option Elab.async false
set_option linter.all false
set_option maxRecDepth 100000
set_option maxHeartbeats 4000000
set_option autoImplicit false
/-! wheelchorus.numbers: is_number, blocks, row_of, goes_ahead. -/
namespace Zd
open PySem PySem.Spec L2
open PyProof.Rows hiding St
/-! is_number: 0 thing, 1 total, 2 sign -/
noncomputable def g_is_number : SF := (seqS (ifS (orB (notB (tstF (isiF "str" (varE 0)))) (notB (tstF (chnF leD leD (cE (.int 1)) (appF lenD (consF (varE 0) nilF)) (cE (.int 4)))))) (retS (cE (.bl false))) nxS)
  (seqS (setS 1 (cE (.int 0)))
  (seqS (forS (itF anyI (varE 0)) (nmG 2) (seqS (ifS (tstF (binF notInD (varE 2) (cE (.str "123456789")))) (retS (cE (.bl false))) nxS)
  (augS 1 iaddD (binF addD (mthF "str" sindexD (cE (.str "123456789")) (consF (varE 2) nilF)) (cE (.int 1))))))
  (retS (binF leD (varE 1) (cE (.int 24)))))))
noncomputable def F_is_number : DFun := fnF 3 g_is_number
/-! check_number: 0 thing -/
noncomputable def g_check_number : SF := (ifS (notB (tstF (callF 1 F_is_number (consF (varE 0) nilF)))) (raiseS "BadNumber" ["number"] (consF (varE 0) nilF)) nxS)
noncomputable def F_check_number : DFun := fnF 1 g_check_number
/-! blocks: 0 number, 1 sign -/
noncomputable def g_blocks : SF := (seqS (dropS (callF 1 F_check_number (consF (varE 0) nilF)))
  (retS (appF tupleD (consF (compG finF [1] (itF anyI (varE 0)) (nmG 1) yesB (appF intD (consF (varE 1) nilF))) nilF))))
noncomputable def F_blocks : DFun := fnF 2 g_blocks
/-! row_of: 0 number, 1 row, 2 size -/
noncomputable def g_row_of : SF := (seqS (setS 1 (ownF nilF))
  (seqS (forS (itF anyI (callF 1 F_blocks (consF (varE 0) nilF))) (nmG 2) (seqS (dropS (mthF "list" extendD (varE 1) (consF (binF mulD (lstF (consF (cE (.int 1)) (consF (cE (.int 0)) nilF))) (varE 2)) nilF)))
  (dropS (mthF "list" extendD (varE 1) (consF (lstF (consF (cE (.int 0)) (consF (cE (.int 0)) nilF))) nilF)))))
  (seqS (dropS (mthF "list" extendD (varE 1) (consF (lstF (consF (cE (.int 0)) (consF (cE (.int 0)) nilF))) nilF)))
  (retS (appF tupleD (consF (varE 1) nilF))))))
noncomputable def F_row_of : DFun := fnF 3 g_row_of
/-! goes_ahead: 0 one, 1 other, 2 first, 3 second, 4 mine, 5 its -/
noncomputable def g_goes_ahead : SF := (seqS (setS 2 (callF 1 F_row_of (consF (varE 0) nilF)))
  (seqS (setS 3 (callF 1 F_row_of (consF (varE 1) nilF)))
  (seqS (forS (itA zipI (consF (varE 2) (consF (varE 3) nilF))) (tupG 2 (consG (nmG 4) (consG (nmG 5) nilG))) (ifS (tstF (binF neD (varE 4) (varE 5))) (retS (binF eqD (varE 4) (cE (.int 1)))) nxS))
  (retS (cE (.bl false))))))
noncomputable def F_goes_ahead : DFun := fnF 6 g_goes_ahead

/-! ### is_number -/
/-- a text that is a number -/
def okSign (c : Nat) : Bool := decide (49 ≤ c) && decide (c ≤ 57)
def numB (z : Str) : Bool := decide (1 ≤ z.length) && decide (z.length ≤ 4) && z.cps.toList.all okSign && decide ((z.cps.toList.map fun (c : Nat) => (c : Int) - 48).sum ≤ 24)
theorem mem_digits (c : Nat) : c ∈ (("123456789" : Str).cps.toList) ↔ okSign c = true := by
  rw [show (("123456789" : Str).cps.toList) = [49, 50, 51, 52, 53, 54, 55, 56, 57] by decide +kernel]
  simp [okSign]
  omega
theorem index_digit {c : Nat} (h : okSign c = true) : Txt.index0 "123456789" (⟨#[c]⟩ : Str) = some (c - 49) := by
  have : c = 49 ∨ c = 50 ∨ c = 51 ∨ c = 52 ∨ c = 53 ∨ c = 54 ∨ c = 55 ∨ c = 56 ∨ c = 57 := by simp [okSign] at h; omega
  rcases this with rfl | rfl | rfl | rfl | rfl | rfl | rfl | rfl | rfl <;> decide +kernel
theorem int_digit {c : Nat} (h : okSign c = true) : PySem.intText? (⟨#[c]⟩ : Str) = some ((c : Int) - 48) := by
  have : c = 49 ∨ c = 50 ∨ c = 51 ∨ c = 52 ∨ c = 53 ∨ c = 54 ∨ c = 55 ∨ c = 56 ∨ c = 57 := by simp [okSign] at h; omega
  rcases this with rfl | rfl | rfl | rfl | rfl | rfl | rfl | rfl | rfl <;> decide +kernel
noncomputable def isnBody : SF := (seqS (ifS (tstF (binF notInD (varE 2) (cE (.str "123456789")))) (retS (cE (.bl false))) nxS)
  (augS 1 iaddD (binF addD (mthF "str" sindexD (cE (.str "123456789")) (consF (varE 2) nilF)) (cE (.int 1)))))
theorem isn_loop (z : D) (S : Sto) : ∀ (cs : List Nat) (t : Int) (u : Option D),
    (cs.all okSign = true ∧ ∃ v, forL (nmG 2) isnBody (cs.map fun c => D.str ⟨#[c]⟩) [some z, some (.int t), u] S = .nx [some z, some (.int (t + (cs.map fun (c : Nat) => (c : Int) - 48).sum)), v] S) ∨
    (cs.all okSign = false ∧ forL (nmG 2) isnBody (cs.map fun c => D.str ⟨#[c]⟩) [some z, some (.int t), u] S = .rt (.bl false) S)
  | [], t, u => .inl ⟨rfl, u, by simp [forL]⟩
  | c :: cs, t, u => by
    cases hc : okSign c with
    | false =>
      right
      refine ⟨by simp [hc], ?_⟩
      have hm : ¬ c ∈ (("123456789" : Str).cps.toList) := by rw [mem_digits, hc]; simp
      rw [List.map_cons, forL]
      simp only [Bd, seqS, setS, retS, retN, dropS, ifS, forS, putS, augS, nxS, bkS, ctS, SR.seq_nx, SR.seq_rt, SR.seq_exc, SR.seq_bk, SR.seq_ct, SR.turn_nx, SR.turn_ct, SR.turn_bk, SR.turn_rt, SR.turn_exc, R.bind_ok, R.bind_bad, R.bind_exc, R.bindN_ok, R.st_ok, R.st_exc,
 varE, cE, binF, tstF, chnF, andB, orB, notB, andV, orV, notV, ifE, nilF, consF, tupF, lstF, ownF, negF, noO, someO, slF, callF, appF, isiF, mthF, itF, itA, nmG, nilG, consG, tupG, yesB, wipeD,
 addD_ii, addD_ss, addD_ll, subD_ii, mulD_ii, mulD_li, mulD_si, fdivD_ii, modD_ii, powD_10_18, ltD_ii, leD_ii, gtD_ii, geD_ii, gtD_ss, ltD_ss, eqD_ii, eqD_ss, eqD_bb, neD_ii, neD_ss, isBD_bb, isND_non, isND_int, isND_str, notND_non, notND_int, notND_str, lenD_s, lenD_l, lenD_r, lenD_t, lenD_c, min2D_ii, max2D_ii, intD_i, intD_b, strD_i, sumD_l, sumD_c, sumD_t, maxD_c, tupleD_l, tupleD_t, tupleD_c, listD_l, listD_t,
 ixD_l, ixD_r, ixD_t, ixD_s, ixD_c, slD_s, slD_l, slD_r, putIx_c, appendD_c, extendD_cl, isTy_c, isTy_s, isTy_l, iaddD, atI_0, atI_1, atI_2, atI_3, atI_4, low_int, low_str, low_bl, low_non, anyI_l, anyI_r, anyI_t, anyI_s, rng1I_i, rng2I_ii, ixN5, set_concat, get_concat, take_concat, len_concat, notInD_cs, inD_cs, sindexD_s, intD_s, tyN_s, tyN_i, tyN_b, tyN_n, tyN_t, tyN_l, tyIs_t, zipI_tt,
 startD, List.map_cons, List.map_nil, List.length_cons, List.length_nil, List.cons_append, List.nil_append, List.getElem?_cons_zero, List.getElem?_cons_succ, List.set_cons_zero, List.set_cons_succ, List.replicate_succ, List.replicate_zero, Option.bind_some, if_true, if_false, Bool.true_and, Bool.false_and, Bool.and_true, Bool.not_true, Bool.not_false, decide_true, decide_false, eq_self, Nat.zero_add, Nat.reduceAdd, Nat.reduceSub, reduceIte, reduceCtorEq, Int.reduceEq, Bool.false_eq_true, true_and, and_true, true_or, or_true, decide_eq_true_eq, isnBody, hm]
    | true =>
      have hm : c ∈ (("123456789" : Str).cps.toList) := by rw [mem_digits, hc]
      have hs : isTy "str" (D.str "123456789") S = true := rfl
      have h49 : 49 ≤ c := by simp [okSign] at hc; omega
      have e1 : forL (nmG 2) isnBody ((c :: cs).map fun c => D.str ⟨#[c]⟩) [some z, some (.int t), u] S = forL (nmG 2) isnBody (cs.map fun c => D.str ⟨#[c]⟩) [some z, some (.int (t + (((c - 49 : Nat) : Int) + 1))), some (.str ⟨#[c]⟩)] S := by
        rw [List.map_cons, forL]
        simp only [Bd, seqS, setS, retS, retN, dropS, ifS, forS, putS, augS, nxS, bkS, ctS, SR.seq_nx, SR.seq_rt, SR.seq_exc, SR.seq_bk, SR.seq_ct, SR.turn_nx, SR.turn_ct, SR.turn_bk, SR.turn_rt, SR.turn_exc, R.bind_ok, R.bind_bad, R.bind_exc, R.bindN_ok, R.st_ok, R.st_exc,
 varE, cE, binF, tstF, chnF, andB, orB, notB, andV, orV, notV, ifE, nilF, consF, tupF, lstF, ownF, negF, noO, someO, slF, callF, appF, isiF, mthF, itF, itA, nmG, nilG, consG, tupG, yesB, wipeD,
 addD_ii, addD_ss, addD_ll, subD_ii, mulD_ii, mulD_li, mulD_si, fdivD_ii, modD_ii, powD_10_18, ltD_ii, leD_ii, gtD_ii, geD_ii, gtD_ss, ltD_ss, eqD_ii, eqD_ss, eqD_bb, neD_ii, neD_ss, isBD_bb, isND_non, isND_int, isND_str, notND_non, notND_int, notND_str, lenD_s, lenD_l, lenD_r, lenD_t, lenD_c, min2D_ii, max2D_ii, intD_i, intD_b, strD_i, sumD_l, sumD_c, sumD_t, maxD_c, tupleD_l, tupleD_t, tupleD_c, listD_l, listD_t,
 ixD_l, ixD_r, ixD_t, ixD_s, ixD_c, slD_s, slD_l, slD_r, putIx_c, appendD_c, extendD_cl, isTy_c, isTy_s, isTy_l, iaddD, atI_0, atI_1, atI_2, atI_3, atI_4, low_int, low_str, low_bl, low_non, anyI_l, anyI_r, anyI_t, anyI_s, rng1I_i, rng2I_ii, ixN5, set_concat, get_concat, take_concat, len_concat, notInD_cs, inD_cs, sindexD_s, intD_s, tyN_s, tyN_i, tyN_b, tyN_n, tyN_t, tyN_l, tyIs_t, zipI_tt,
 startD, List.map_cons, List.map_nil, List.length_cons, List.length_nil, List.cons_append, List.nil_append, List.getElem?_cons_zero, List.getElem?_cons_succ, List.set_cons_zero, List.set_cons_succ, List.replicate_succ, List.replicate_zero, Option.bind_some, if_true, if_false, Bool.true_and, Bool.false_and, Bool.and_true, Bool.not_true, Bool.not_false, decide_true, decide_false, eq_self, Nat.zero_add, Nat.reduceAdd, Nat.reduceSub, reduceIte, reduceCtorEq, Int.reduceEq, Bool.false_eq_true, true_and, and_true, true_or, or_true, decide_eq_true_eq, isnBody, hm, hs, index_digit hc]
      rw [e1]
      rcases isn_loop z S cs (t + (((c - 49 : Nat) : Int) + 1)) (some (.str ⟨#[c]⟩)) with ⟨h1, v, h2⟩ | ⟨h1, h2⟩
      · refine .inl ⟨by simp [hc, h1], v, ?_⟩
        rw [h2]
        congr 5
        rw [List.map_cons, List.sum_cons]
        omega
      · exact .inr ⟨by simp [hc, h1], h2⟩
theorem is_number_str (z : Str) (S : Sto) (hz : NLe z.length sizeLine) : F_is_number [.str z] S = .ok (.bl (numB z)) S := by
  unfold F_is_number fnF g_is_number
  by_cases h1 : (1 : Int) ≤ (z.length : Nat)
  · by_cases h4 : ((z.length : Nat) : Int) ≤ 4
    · rcases isn_loop (.str z) S z.cps.toList 0 none with ⟨h5, v, h6⟩ | ⟨h5, h6⟩
      · have e : numB z = decide ((z.cps.toList.map fun (c : Nat) => (c : Int) - 48).sum ≤ 24) := by
          unfold numB; rw [decide_eq_true (show 1 ≤ z.length by omega), decide_eq_true (show z.length ≤ 4 by omega), h5]; rfl
        unfold isnBody at h6
        simp only [Bd, seqS, setS, retS, retN, dropS, ifS, forS, putS, augS, nxS, bkS, ctS, SR.seq_nx, SR.seq_rt, SR.seq_exc, SR.seq_bk, SR.seq_ct, SR.turn_nx, SR.turn_ct, SR.turn_bk, SR.turn_rt, SR.turn_exc, R.bind_ok, R.bind_bad, R.bind_exc, R.bindN_ok, R.st_ok, R.st_exc,
 varE, cE, binF, tstF, chnF, andB, orB, notB, andV, orV, notV, ifE, nilF, consF, tupF, lstF, ownF, negF, noO, someO, slF, callF, appF, isiF, mthF, itF, itA, nmG, nilG, consG, tupG, yesB, wipeD,
 addD_ii, addD_ss, addD_ll, subD_ii, mulD_ii, mulD_li, mulD_si, fdivD_ii, modD_ii, powD_10_18, ltD_ii, leD_ii, gtD_ii, geD_ii, gtD_ss, ltD_ss, eqD_ii, eqD_ss, eqD_bb, neD_ii, neD_ss, isBD_bb, isND_non, isND_int, isND_str, notND_non, notND_int, notND_str, lenD_s, lenD_l, lenD_r, lenD_t, lenD_c, min2D_ii, max2D_ii, intD_i, intD_b, strD_i, sumD_l, sumD_c, sumD_t, maxD_c, tupleD_l, tupleD_t, tupleD_c, listD_l, listD_t,
 ixD_l, ixD_r, ixD_t, ixD_s, ixD_c, slD_s, slD_l, slD_r, putIx_c, appendD_c, extendD_cl, isTy_c, isTy_s, isTy_l, iaddD, atI_0, atI_1, atI_2, atI_3, atI_4, low_int, low_str, low_bl, low_non, anyI_l, anyI_r, anyI_t, anyI_s, rng1I_i, rng2I_ii, ixN5, set_concat, get_concat, take_concat, len_concat, notInD_cs, inD_cs, sindexD_s, intD_s, tyN_s, tyN_i, tyN_b, tyN_n, tyN_t, tyN_l, tyIs_t, zipI_tt,
 startD, List.map_cons, List.map_nil, List.length_cons, List.length_nil, List.cons_append, List.nil_append, List.getElem?_cons_zero, List.getElem?_cons_succ, List.set_cons_zero, List.set_cons_succ, List.replicate_succ, List.replicate_zero, Option.bind_some, if_true, if_false, Bool.true_and, Bool.false_and, Bool.and_true, Bool.not_true, Bool.not_false, decide_true, decide_false, eq_self, Nat.zero_add, Nat.reduceAdd, Nat.reduceSub, reduceIte, reduceCtorEq, Int.reduceEq, Bool.false_eq_true, true_and, and_true, true_or, or_true, decide_eq_true_eq, hz, h1, h4, h6, leave_rt, fz_bl, List.take_length, e, Int.zero_add]
      · have e : numB z = false := by unfold numB; rw [h5]; simp
        unfold isnBody at h6
        simp only [Bd, seqS, setS, retS, retN, dropS, ifS, forS, putS, augS, nxS, bkS, ctS, SR.seq_nx, SR.seq_rt, SR.seq_exc, SR.seq_bk, SR.seq_ct, SR.turn_nx, SR.turn_ct, SR.turn_bk, SR.turn_rt, SR.turn_exc, R.bind_ok, R.bind_bad, R.bind_exc, R.bindN_ok, R.st_ok, R.st_exc,
 varE, cE, binF, tstF, chnF, andB, orB, notB, andV, orV, notV, ifE, nilF, consF, tupF, lstF, ownF, negF, noO, someO, slF, callF, appF, isiF, mthF, itF, itA, nmG, nilG, consG, tupG, yesB, wipeD,
 addD_ii, addD_ss, addD_ll, subD_ii, mulD_ii, mulD_li, mulD_si, fdivD_ii, modD_ii, powD_10_18, ltD_ii, leD_ii, gtD_ii, geD_ii, gtD_ss, ltD_ss, eqD_ii, eqD_ss, eqD_bb, neD_ii, neD_ss, isBD_bb, isND_non, isND_int, isND_str, notND_non, notND_int, notND_str, lenD_s, lenD_l, lenD_r, lenD_t, lenD_c, min2D_ii, max2D_ii, intD_i, intD_b, strD_i, sumD_l, sumD_c, sumD_t, maxD_c, tupleD_l, tupleD_t, tupleD_c, listD_l, listD_t,
 ixD_l, ixD_r, ixD_t, ixD_s, ixD_c, slD_s, slD_l, slD_r, putIx_c, appendD_c, extendD_cl, isTy_c, isTy_s, isTy_l, iaddD, atI_0, atI_1, atI_2, atI_3, atI_4, low_int, low_str, low_bl, low_non, anyI_l, anyI_r, anyI_t, anyI_s, rng1I_i, rng2I_ii, ixN5, set_concat, get_concat, take_concat, len_concat, notInD_cs, inD_cs, sindexD_s, intD_s, tyN_s, tyN_i, tyN_b, tyN_n, tyN_t, tyN_l, tyIs_t, zipI_tt,
 startD, List.map_cons, List.map_nil, List.length_cons, List.length_nil, List.cons_append, List.nil_append, List.getElem?_cons_zero, List.getElem?_cons_succ, List.set_cons_zero, List.set_cons_succ, List.replicate_succ, List.replicate_zero, Option.bind_some, if_true, if_false, Bool.true_and, Bool.false_and, Bool.and_true, Bool.not_true, Bool.not_false, decide_true, decide_false, eq_self, Nat.zero_add, Nat.reduceAdd, Nat.reduceSub, reduceIte, reduceCtorEq, Int.reduceEq, Bool.false_eq_true, true_and, and_true, true_or, or_true, decide_eq_true_eq, hz, h1, h4, h6, leave_rt, fz_bl, List.take_length, e]
    · have e : numB z = false := by unfold numB; rw [decide_eq_false (show ¬ z.length ≤ 4 by omega)]; simp
      simp only [Bd, seqS, setS, retS, retN, dropS, ifS, forS, putS, augS, nxS, bkS, ctS, SR.seq_nx, SR.seq_rt, SR.seq_exc, SR.seq_bk, SR.seq_ct, SR.turn_nx, SR.turn_ct, SR.turn_bk, SR.turn_rt, SR.turn_exc, R.bind_ok, R.bind_bad, R.bind_exc, R.bindN_ok, R.st_ok, R.st_exc,
 varE, cE, binF, tstF, chnF, andB, orB, notB, andV, orV, notV, ifE, nilF, consF, tupF, lstF, ownF, negF, noO, someO, slF, callF, appF, isiF, mthF, itF, itA, nmG, nilG, consG, tupG, yesB, wipeD,
 addD_ii, addD_ss, addD_ll, subD_ii, mulD_ii, mulD_li, mulD_si, fdivD_ii, modD_ii, powD_10_18, ltD_ii, leD_ii, gtD_ii, geD_ii, gtD_ss, ltD_ss, eqD_ii, eqD_ss, eqD_bb, neD_ii, neD_ss, isBD_bb, isND_non, isND_int, isND_str, notND_non, notND_int, notND_str, lenD_s, lenD_l, lenD_r, lenD_t, lenD_c, min2D_ii, max2D_ii, intD_i, intD_b, strD_i, sumD_l, sumD_c, sumD_t, maxD_c, tupleD_l, tupleD_t, tupleD_c, listD_l, listD_t,
 ixD_l, ixD_r, ixD_t, ixD_s, ixD_c, slD_s, slD_l, slD_r, putIx_c, appendD_c, extendD_cl, isTy_c, isTy_s, isTy_l, iaddD, atI_0, atI_1, atI_2, atI_3, atI_4, low_int, low_str, low_bl, low_non, anyI_l, anyI_r, anyI_t, anyI_s, rng1I_i, rng2I_ii, ixN5, set_concat, get_concat, take_concat, len_concat, notInD_cs, inD_cs, sindexD_s, intD_s, tyN_s, tyN_i, tyN_b, tyN_n, tyN_t, tyN_l, tyIs_t, zipI_tt,
 startD, List.map_cons, List.map_nil, List.length_cons, List.length_nil, List.cons_append, List.nil_append, List.getElem?_cons_zero, List.getElem?_cons_succ, List.set_cons_zero, List.set_cons_succ, List.replicate_succ, List.replicate_zero, Option.bind_some, if_true, if_false, Bool.true_and, Bool.false_and, Bool.and_true, Bool.not_true, Bool.not_false, decide_true, decide_false, eq_self, Nat.zero_add, Nat.reduceAdd, Nat.reduceSub, reduceIte, reduceCtorEq, Int.reduceEq, Bool.false_eq_true, true_and, and_true, true_or, or_true, decide_eq_true_eq, hz, h1, h4, leave_rt, fz_bl, List.take_length, e]
  · have e : numB z = false := by unfold numB; rw [decide_eq_false (show ¬ 1 ≤ z.length by omega)]; simp
    simp only [Bd, seqS, setS, retS, retN, dropS, ifS, forS, putS, augS, nxS, bkS, ctS, SR.seq_nx, SR.seq_rt, SR.seq_exc, SR.seq_bk, SR.seq_ct, SR.turn_nx, SR.turn_ct, SR.turn_bk, SR.turn_rt, SR.turn_exc, R.bind_ok, R.bind_bad, R.bind_exc, R.bindN_ok, R.st_ok, R.st_exc,
 varE, cE, binF, tstF, chnF, andB, orB, notB, andV, orV, notV, ifE, nilF, consF, tupF, lstF, ownF, negF, noO, someO, slF, callF, appF, isiF, mthF, itF, itA, nmG, nilG, consG, tupG, yesB, wipeD,
 addD_ii, addD_ss, addD_ll, subD_ii, mulD_ii, mulD_li, mulD_si, fdivD_ii, modD_ii, powD_10_18, ltD_ii, leD_ii, gtD_ii, geD_ii, gtD_ss, ltD_ss, eqD_ii, eqD_ss, eqD_bb, neD_ii, neD_ss, isBD_bb, isND_non, isND_int, isND_str, notND_non, notND_int, notND_str, lenD_s, lenD_l, lenD_r, lenD_t, lenD_c, min2D_ii, max2D_ii, intD_i, intD_b, strD_i, sumD_l, sumD_c, sumD_t, maxD_c, tupleD_l, tupleD_t, tupleD_c, listD_l, listD_t,
 ixD_l, ixD_r, ixD_t, ixD_s, ixD_c, slD_s, slD_l, slD_r, putIx_c, appendD_c, extendD_cl, isTy_c, isTy_s, isTy_l, iaddD, atI_0, atI_1, atI_2, atI_3, atI_4, low_int, low_str, low_bl, low_non, anyI_l, anyI_r, anyI_t, anyI_s, rng1I_i, rng2I_ii, ixN5, set_concat, get_concat, take_concat, len_concat, notInD_cs, inD_cs, sindexD_s, intD_s, tyN_s, tyN_i, tyN_b, tyN_n, tyN_t, tyN_l, tyIs_t, zipI_tt,
 startD, List.map_cons, List.map_nil, List.length_cons, List.length_nil, List.cons_append, List.nil_append, List.getElem?_cons_zero, List.getElem?_cons_succ, List.set_cons_zero, List.set_cons_succ, List.replicate_succ, List.replicate_zero, Option.bind_some, if_true, if_false, Bool.true_and, Bool.false_and, Bool.and_true, Bool.not_true, Bool.not_false, decide_true, decide_false, eq_self, Nat.zero_add, Nat.reduceAdd, Nat.reduceSub, reduceIte, reduceCtorEq, Int.reduceEq, Bool.false_eq_true, true_and, and_true, true_or, or_true, decide_eq_true_eq, hz, h1, leave_rt, fz_bl, List.take_length, e]
theorem numS_okSign {ds : List Nat} (h : ∀ d ∈ ds, 1 ≤ d ∧ d ≤ 9) : (ds.map fun d => 48 + d).all okSign = true := by
  rw [List.all_map, List.all_eq_true]
  intro d hd
  have := h d hd
  simp [okSign]; omega
theorem numS_vals (ds : List Nat) : ((ds.map fun d => 48 + d).map fun (c : Nat) => (c : Int) - 48) = ds.map fun (d : Nat) => (d : Int) := by
  rw [List.map_map]; apply List.map_congr_left; intro d _; simp; omega
theorem sum_cast (ds : List Nat) : (ds.map fun (d : Nat) => (d : Int)).sum = ((ds.sum : Nat) : Int) := by
  induction ds with
  | nil => rfl
  | cons a l ih => rw [List.map_cons, List.sum_cons, ih, List.sum_cons]; omega
theorem numB_num {ds : List Nat} (h : IsNum ds) : numB (numS ds) = true := by
  unfold numB
  rw [numS_len, numS_list, numS_okSign h.dig, numS_vals, sum_cast]
  have := h.pos; have := h.few; have := h.sum
  simp; omega
theorem numS_short {ds : List Nat} (h : IsNum ds) : NLe (numS ds).length sizeLine := sizeLine_big (by rw [numS_len]; have := h.few; omega)
theorem is_number_num {ds : List Nat} (h : IsNum ds) (S : Sto) : F_is_number [.str (numS ds)] S = .ok (.bl true) S := by rw [is_number_str _ S (numS_short h), numB_num h]
theorem check_num {ds : List Nat} (h : IsNum ds) (S : Sto) : F_check_number [.str (numS ds)] S = .ok .non S := by
  unfold F_check_number fnF g_check_number
  simp only [Bd, seqS, setS, retS, retN, dropS, ifS, forS, putS, augS, nxS, bkS, ctS, SR.seq_nx, SR.seq_rt, SR.seq_exc, SR.seq_bk, SR.seq_ct, SR.turn_nx, SR.turn_ct, SR.turn_bk, SR.turn_rt, SR.turn_exc, R.bind_ok, R.bind_bad, R.bind_exc, R.bindN_ok, R.st_ok, R.st_exc,
 varE, cE, binF, tstF, chnF, andB, orB, notB, andV, orV, notV, ifE, nilF, consF, tupF, lstF, ownF, negF, noO, someO, slF, callF, appF, isiF, mthF, itF, itA, nmG, nilG, consG, tupG, yesB, wipeD,
 addD_ii, addD_ss, addD_ll, subD_ii, mulD_ii, mulD_li, mulD_si, fdivD_ii, modD_ii, powD_10_18, ltD_ii, leD_ii, gtD_ii, geD_ii, gtD_ss, ltD_ss, eqD_ii, eqD_ss, eqD_bb, neD_ii, neD_ss, isBD_bb, isND_non, isND_int, isND_str, notND_non, notND_int, notND_str, lenD_s, lenD_l, lenD_r, lenD_t, lenD_c, min2D_ii, max2D_ii, intD_i, intD_b, strD_i, sumD_l, sumD_c, sumD_t, maxD_c, tupleD_l, tupleD_t, tupleD_c, listD_l, listD_t,
 ixD_l, ixD_r, ixD_t, ixD_s, ixD_c, slD_s, slD_l, slD_r, putIx_c, appendD_c, extendD_cl, isTy_c, isTy_s, isTy_l, iaddD, atI_0, atI_1, atI_2, atI_3, atI_4, low_int, low_str, low_bl, low_non, anyI_l, anyI_r, anyI_t, anyI_s, rng1I_i, rng2I_ii, ixN5, set_concat, get_concat, take_concat, len_concat, notInD_cs, inD_cs, sindexD_s, intD_s, tyN_s, tyN_i, tyN_b, tyN_n, tyN_t, tyN_l, tyIs_t, zipI_tt,
 startD, List.map_cons, List.map_nil, List.length_cons, List.length_nil, List.cons_append, List.nil_append, List.getElem?_cons_zero, List.getElem?_cons_succ, List.set_cons_zero, List.set_cons_succ, List.replicate_succ, List.replicate_zero, Option.bind_some, if_true, if_false, Bool.true_and, Bool.false_and, Bool.and_true, Bool.not_true, Bool.not_false, decide_true, decide_false, eq_self, Nat.zero_add, Nat.reduceAdd, Nat.reduceSub, reduceIte, reduceCtorEq, Int.reduceEq, Bool.false_eq_true, true_and, and_true, true_or, or_true, decide_eq_true_eq, is_number_num h, leave_nx, List.take_length]

/-! ### blocks, rows -/
/-- a text's signs as data -/
def signsD (ds : List Nat) : List D := ds.map fun d => D.str ⟨#[48 + d]⟩
theorem signs_num (ds : List Nat) : ((numS ds).cps.toList.map fun c => D.str ⟨#[c]⟩) = signsD ds := by rw [numS_list, List.map_map]; rfl
theorem int_sign {d : Nat} (h : 1 ≤ d ∧ d ≤ 9) : PySem.intText? (⟨#[48 + d]⟩ : Str) = some (d : Int) := by
  rw [int_digit (by simp [okSign]; omega)]; congr 1; omega
/-- [int(sign) for sign in number] -/
theorem ints_num {vs : List Nat} {i j : Nat} {ρ : Nv} {S : Sto} {ds : List Nat} (h : ∀ d ∈ ds, 1 ≤ d ∧ d ≤ 9) (hl : ds.length ≤ 1000000) (hv : ρ[i]? = some (some (.str (numS ds)))) (hj : j < (wipeD ρ vs).length) :
    compG finF vs (itF anyI (varE i)) (nmG j) yesB (appF intD (consF (varE j) nilF)) ρ S = .ok (.lst (ds.map fun d => D.int (d : Nat))) S := by
  have hi : (itF anyI (varE i)) ρ S = .ok (signsD ds) S := by simp only [Bd, seqS, setS, retS, retN, dropS, ifS, forS, putS, augS, nxS, bkS, ctS, SR.seq_nx, SR.seq_rt, SR.seq_exc, SR.seq_bk, SR.seq_ct, SR.turn_nx, SR.turn_ct, SR.turn_bk, SR.turn_rt, SR.turn_exc, R.bind_ok, R.bind_bad, R.bind_exc, R.bindN_ok, R.st_ok, R.st_exc,
 varE, cE, binF, tstF, chnF, andB, orB, notB, andV, orV, notV, ifE, nilF, consF, tupF, lstF, ownF, negF, noO, someO, slF, callF, appF, isiF, mthF, itF, itA, nmG, nilG, consG, tupG, yesB, wipeD,
 addD_ii, addD_ss, addD_ll, subD_ii, mulD_ii, mulD_li, mulD_si, fdivD_ii, modD_ii, powD_10_18, ltD_ii, leD_ii, gtD_ii, geD_ii, gtD_ss, ltD_ss, eqD_ii, eqD_ss, eqD_bb, neD_ii, neD_ss, isBD_bb, isND_non, isND_int, isND_str, notND_non, notND_int, notND_str, lenD_s, lenD_l, lenD_r, lenD_t, lenD_c, min2D_ii, max2D_ii, intD_i, intD_b, strD_i, sumD_l, sumD_c, sumD_t, maxD_c, tupleD_l, tupleD_t, tupleD_c, listD_l, listD_t,
 ixD_l, ixD_r, ixD_t, ixD_s, ixD_c, slD_s, slD_l, slD_r, putIx_c, appendD_c, extendD_cl, isTy_c, isTy_s, isTy_l, iaddD, atI_0, atI_1, atI_2, atI_3, atI_4, low_int, low_str, low_bl, low_non, anyI_l, anyI_r, anyI_t, anyI_s, rng1I_i, rng2I_ii, ixN5, set_concat, get_concat, take_concat, len_concat, notInD_cs, inD_cs, sindexD_s, intD_s, tyN_s, tyN_i, tyN_b, tyN_n, tyN_t, tyN_l, tyIs_t, zipI_tt,
 startD, List.map_cons, List.map_nil, List.length_cons, List.length_nil, List.cons_append, List.nil_append, List.getElem?_cons_zero, List.getElem?_cons_succ, List.set_cons_zero, List.set_cons_succ, List.replicate_succ, List.replicate_zero, Option.bind_some, if_true, if_false, Bool.true_and, Bool.false_and, Bool.and_true, Bool.not_true, Bool.not_false, decide_true, decide_false, eq_self, Nat.zero_add, Nat.reduceAdd, Nat.reduceSub, reduceIte, reduceCtorEq, Int.reduceEq, Bool.false_eq_true, true_and, and_true, true_or, or_true, decide_eq_true_eq, hv, signs_num]
  have := compF_all (vs := vs) (g := nmG j) (fe := appF intD (consF (varE j) nilF)) (fun d => match d with | .str ⟨⟨[c]⟩⟩ => .int ((c : Int) - 48) | d => d) hi (by rw [signsD, List.length_map]; exact sizeLine_big hl) (fun d hd acc => by
    obtain ⟨c, hc, rfl⟩ := List.mem_map.mp hd
    have hz : NLe (⟨#[48 + c]⟩ : Str).length 640 := by show (⟨#[48 + c]⟩ : Str).length ≤ 640; simp [Str.length]
    refine ⟨_, rfl, ?_, rfl⟩
    have hg : ((wipeD ρ vs).set j (some (.str ⟨#[48 + c]⟩)))[j]? = some (some (.str ⟨#[48 + c]⟩)) := List.getElem?_set_self hj
    simp only [appF, consF, nilF, varE, hg, R.bind_ok, intD_s, int_sign (h c hc), hz, if_true]
    congr 2
    show (c : Int) = ((48 + c : Nat) : Int) - 48
    omega)
  rw [this]
  congr 2
  rw [signsD, List.map_map]
  apply List.map_congr_left
  intro d _
  show D.int (((48 + d : Nat) : Int) - 48) = D.int d
  congr 1
  omega
theorem blocks_num {ds : List Nat} (h : IsNum ds) (S : Sto) : F_blocks [.str (numS ds)] S = .ok (.tup (ds.map fun d => D.int (d : Nat))) S := by
  unfold F_blocks fnF g_blocks
  have hc := ints_num (vs := [1]) (i := 0) (j := 1) (ρ := [some (.str (numS ds)), none]) (S := S) h.dig (by have := h.few; omega) rfl (by simp [wipeD])
  simp only [Bd, seqS, setS, retS, retN, dropS, ifS, forS, putS, augS, nxS, bkS, ctS, SR.seq_nx, SR.seq_rt, SR.seq_exc, SR.seq_bk, SR.seq_ct, SR.turn_nx, SR.turn_ct, SR.turn_bk, SR.turn_rt, SR.turn_exc, R.bind_ok, R.bind_bad, R.bind_exc, R.bindN_ok, R.st_ok, R.st_exc,
 varE, cE, binF, tstF, chnF, andB, orB, notB, andV, orV, notV, ifE, nilF, consF, tupF, lstF, ownF, negF, noO, someO, slF, callF, appF, isiF, mthF, itF, itA, nmG, nilG, consG, tupG, yesB, wipeD,
 addD_ii, addD_ss, addD_ll, subD_ii, mulD_ii, mulD_li, mulD_si, fdivD_ii, modD_ii, powD_10_18, ltD_ii, leD_ii, gtD_ii, geD_ii, gtD_ss, ltD_ss, eqD_ii, eqD_ss, eqD_bb, neD_ii, neD_ss, isBD_bb, isND_non, isND_int, isND_str, notND_non, notND_int, notND_str, lenD_s, lenD_l, lenD_r, lenD_t, lenD_c, min2D_ii, max2D_ii, intD_i, intD_b, strD_i, sumD_l, sumD_c, sumD_t, maxD_c, tupleD_l, tupleD_t, tupleD_c, listD_l, listD_t,
 ixD_l, ixD_r, ixD_t, ixD_s, ixD_c, slD_s, slD_l, slD_r, putIx_c, appendD_c, extendD_cl, isTy_c, isTy_s, isTy_l, iaddD, atI_0, atI_1, atI_2, atI_3, atI_4, low_int, low_str, low_bl, low_non, anyI_l, anyI_r, anyI_t, anyI_s, rng1I_i, rng2I_ii, ixN5, set_concat, get_concat, take_concat, len_concat, notInD_cs, inD_cs, sindexD_s, intD_s, tyN_s, tyN_i, tyN_b, tyN_n, tyN_t, tyN_l, tyIs_t, zipI_tt,
 startD, List.map_cons, List.map_nil, List.length_cons, List.length_nil, List.cons_append, List.nil_append, List.getElem?_cons_zero, List.getElem?_cons_succ, List.set_cons_zero, List.set_cons_succ, List.replicate_succ, List.replicate_zero, Option.bind_some, if_true, if_false, Bool.true_and, Bool.false_and, Bool.and_true, Bool.not_true, Bool.not_false, decide_true, decide_false, eq_self, Nat.zero_add, Nat.reduceAdd, Nat.reduceSub, reduceIte, reduceCtorEq, Int.reduceEq, Bool.false_eq_true, true_and, and_true, true_or, or_true, decide_eq_true_eq, check_num h, hc, leave_rt, fz_tup, fz_ints, List.take_length]
/-- the row of digits -/
def rowB (d : Nat) : List Int := (List.replicate d [1, 0]).flatten ++ [0, 0]
def rowN (ds : List Nat) : List Int := ds.flatMap rowB ++ [0, 0]
theorem rowB_len (d : Nat) : (rowB d).length = 2 * d + 2 := by
  simp [rowB]; omega
theorem rowN_len (ds : List Nat) : (rowN ds).length = 2 * (ds.sum + ds.length + 1) := by
  unfold rowN
  rw [List.length_append, List.length_flatMap]
  induction ds with
  | nil => rfl
  | cons d ds ih => simp [rowB_len] at ih ⊢; omega
theorem rep_ints (n : Nat) : (List.replicate n [D.int 1, D.int 0]).flatten = ((List.replicate n [(1 : Int), 0]).flatten).map D.int := by
  induction n with
  | zero => rfl
  | succ n ih => rw [List.replicate_succ, List.flatten_cons, ih, List.replicate_succ, List.flatten_cons, List.map_append]; rfl
noncomputable def rowBody : SF := (seqS (dropS (mthF "list" extendD (varE 1) (consF (binF mulD (lstF (consF (cE (.int 1)) (consF (cE (.int 0)) nilF))) (varE 2)) nilF)))
  (dropS (mthF "list" extendD (varE 1) (consF (lstF (consF (cE (.int 0)) (consF (cE (.int 0)) nilF))) nilF))))
theorem row_loop (z : D) (S : Sto) (ds : List Nat) : ∀ (acc : List Int) (u : Option D), acc.length + (ds.flatMap rowB).length ≤ 1000000 → (∀ d ∈ ds, d ≤ 9) →
    ∃ v, forL (nmG 2) rowBody (ds.map fun d => D.int (d : Nat)) [some z, some (.cell S.length), u] (S ++ [.lst (acc.map D.int)]) = .nx [some z, some (.cell S.length), v] (S ++ [.lst ((acc ++ ds.flatMap rowB).map D.int)]) := by
  induction ds with
  | nil => exact fun acc u _ _ => ⟨u, by simp [forL]⟩
  | cons d ds ih =>
    intro acc u hl h9
    have hd := h9 d List.mem_cons_self
    rw [List.flatMap_cons, List.length_append, rowB_len] at hl
    obtain ⟨v, e⟩ := ih (acc ++ rowB d) (some (.int (d : Nat))) (by rw [List.length_append, rowB_len]; omega) (fun x hx => h9 x (List.mem_cons_of_mem _ hx))
    refine ⟨v, ?_⟩
    rw [List.flatMap_cons, ← List.append_assoc, ← e, List.map_cons]
    have l1 : ((List.replicate d [(1 : Int), 0]).flatten).length = 2 * d := by simp; omega
    have e1 : binF mulD (lstF (consF (cE (.int 1)) (consF (cE (.int 0)) nilF))) (varE 2) [some z, some (.cell S.length), some (.int (d : Nat))] (S ++ [.lst (acc.map D.int)]) = .ok (.lst (((List.replicate d [(1 : Int), 0]).flatten).map D.int)) (S ++ [.lst (acc.map D.int)]) := by
      have c1 : -(2 ^ 63) ≤ (d : Int) ∧ (d : Int) < 2 ^ 63 ∧ [D.int 1, D.int 0].length * (d : Int).toNat ≤ sizeLine := ⟨by omega, by omega, sizeLine_big (by simp; omega)⟩
      have e2 : mulD (.lst [D.int 1, D.int 0]) (.int (d : Nat)) (S ++ [.lst (acc.map D.int)]) = .ok (.lst (((List.replicate d [(1 : Int), 0]).flatten).map D.int)) (S ++ [.lst (acc.map D.int)]) := by
        rw [mulD_li, if_pos (show Bd _ from c1), Int.toNat_natCast, rep_ints]
      have s2 : NLe 2 sizeLine := sizeLine_big (by decide)
      simp only [binF, lstF, consF, cE, nilF, varE, R.bind_ok, List.length_cons, List.length_nil, Nat.zero_add, Nat.reduceAdd, s2, if_true, List.getElem?_cons_succ, List.getElem?_cons_zero, e2]
    have e3 := own_extend (ρ := [some z, some (.cell S.length), some (.int (d : Nat))]) (i := 1) (S := S) rfl e1 (lowL_ints _ _) (sizeLine_big (by rw [List.length_map, List.length_map, l1]; omega))
    have e4 : lstF (consF (cE (.int 0)) (consF (cE (.int 0)) nilF)) [some z, some (.cell S.length), some (.int (d : Nat))] (S ++ [.lst (acc.map D.int ++ ((List.replicate d [(1 : Int), 0]).flatten).map D.int)]) = .ok (.lst [.int 0, .int 0]) (S ++ [.lst (acc.map D.int ++ ((List.replicate d [(1 : Int), 0]).flatten).map D.int)]) := by
      have s2 : NLe 2 sizeLine := sizeLine_big (by decide)
      simp only [lstF, consF, cE, nilF, R.bind_ok, List.length_cons, List.length_nil, Nat.zero_add, Nat.reduceAdd, s2, if_true]
    have e5 := own_extend (ρ := [some z, some (.cell S.length), some (.int (d : Nat))]) (i := 1) (S := S) rfl e4 rfl (sizeLine_big (by rw [List.length_append, List.length_map, List.length_map, l1]; simp; omega))
    have e6 : rowBody [some z, some (.cell S.length), some (.int (d : Nat))] (S ++ [.lst (acc.map D.int)]) = .nx [some z, some (.cell S.length), some (.int (d : Nat))] (S ++ [.lst ((acc ++ rowB d).map D.int)]) := by
      unfold rowBody seqS
      rw [e3, SR.seq_nx, e5]
      have e : acc.map D.int ++ ((List.replicate d [(1 : Int), 0]).flatten).map D.int ++ [D.int 0, D.int 0] = (acc ++ rowB d).map D.int := by simp [rowB]
      rw [e]
    rw [forL_cons (ρ1 := [some z, some (.cell S.length), some (.int (d : Nat))]) rfl, e6, SR.turn_nx]
theorem map_ints (ds : List Nat) : (ds.map fun d => D.int (d : Nat)) = (ds.map fun (d : Nat) => (d : Int)).map D.int := by rw [List.map_map]; rfl
theorem row_of_num {ds : List Nat} (h : IsNum ds) (S : Sto) : F_row_of [.str (numS ds)] S = .ok (.tup ((rowN ds).map D.int)) S := by
  unfold F_row_of fnF g_row_of
  have hlen : (ds.flatMap rowB).length ≤ 100 := by
    have := rowN_len ds
    unfold rowN at this
    rw [List.length_append] at this
    have := h.sum; have := h.few
    simp at *; omega
  obtain ⟨v, e⟩ := row_loop (.str (numS ds)) S ds [] none (by simp at hlen ⊢; omega) (fun d hd => (h.dig d hd).2)
  unfold rowBody at e
  have s0 : NLe 0 sizeLine := Nat.zero_le _
  have s2 : NLe 2 sizeLine := sizeLine_big (by decide)
  have c3 : NLe (((ds.flatMap rowB).map D.int).length + 2) sizeLine := sizeLine_big (by rw [List.length_map]; omega)
  have k2 : lowL S.length [D.int 0, D.int 0] = true := rfl
  rw [List.map_nil, List.nil_append] at e
  simp only [Bd, seqS, setS, retS, retN, dropS, ifS, forS, putS, augS, nxS, bkS, ctS, SR.seq_nx, SR.seq_rt, SR.seq_exc, SR.seq_bk, SR.seq_ct, SR.turn_nx, SR.turn_ct, SR.turn_bk, SR.turn_rt, SR.turn_exc, R.bind_ok, R.bind_bad, R.bind_exc, R.bindN_ok, R.st_ok, R.st_exc,
 varE, cE, binF, tstF, chnF, andB, orB, notB, andV, orV, notV, ifE, nilF, consF, tupF, lstF, ownF, negF, noO, someO, slF, callF, appF, isiF, mthF, itF, itA, nmG, nilG, consG, tupG, yesB, wipeD,
 addD_ii, addD_ss, addD_ll, subD_ii, mulD_ii, mulD_li, mulD_si, fdivD_ii, modD_ii, powD_10_18, ltD_ii, leD_ii, gtD_ii, geD_ii, gtD_ss, ltD_ss, eqD_ii, eqD_ss, eqD_bb, neD_ii, neD_ss, isBD_bb, isND_non, isND_int, isND_str, notND_non, notND_int, notND_str, lenD_s, lenD_l, lenD_r, lenD_t, lenD_c, min2D_ii, max2D_ii, intD_i, intD_b, strD_i, sumD_l, sumD_c, sumD_t, maxD_c, tupleD_l, tupleD_t, tupleD_c, listD_l, listD_t,
 ixD_l, ixD_r, ixD_t, ixD_s, ixD_c, slD_s, slD_l, slD_r, putIx_c, appendD_c, extendD_cl, isTy_c, isTy_s, isTy_l, iaddD, atI_0, atI_1, atI_2, atI_3, atI_4, low_int, low_str, low_bl, low_non, anyI_l, anyI_r, anyI_t, anyI_s, rng1I_i, rng2I_ii, ixN5, set_concat, get_concat, take_concat, len_concat, notInD_cs, inD_cs, sindexD_s, intD_s, tyN_s, tyN_i, tyN_b, tyN_n, tyN_t, tyN_l, tyIs_t, zipI_tt,
 startD, List.map_cons, List.map_nil, List.length_cons, List.length_nil, List.cons_append, List.nil_append, List.getElem?_cons_zero, List.getElem?_cons_succ, List.set_cons_zero, List.set_cons_succ, List.replicate_succ, List.replicate_zero, Option.bind_some, if_true, if_false, Bool.true_and, Bool.false_and, Bool.and_true, Bool.not_true, Bool.not_false, decide_true, decide_false, eq_self, Nat.zero_add, Nat.reduceAdd, Nat.reduceSub, reduceIte, reduceCtorEq, Int.reduceEq, Bool.false_eq_true, true_and, and_true, true_or, or_true, decide_eq_true_eq, s0, s2, blocks_num h, e, beq_self_eq_true, k2, c3, leave_rt, fz_tup, rowN, List.map_append]
  rw [fz_mapint]
  simp only [fz_int]
end Zd

set_option Elab.async false
set_option linter.all false
set_option maxRecDepth 100000
set_option maxHeartbeats 4000000
set_option autoImplicit false
/-! Rows compared: who goes ahead; texts cut. -/
namespace Zd
open PySem PySem.Spec L2
open PyProof.Rows hiding St

/-! ### two rows: where they differ first -/
inductive Apart : List Int → List Int → Prop where
  | le {p u v : List Int} : Apart (p ++ 0 :: u) (p ++ 1 :: v)
theorem Apart.pre {a b : List Int} (q : List Int) (h : Apart a b) : Apart (q ++ a) (q ++ b) := by
  cases h with | le => rw [← List.append_assoc, ← List.append_assoc]; exact .le
theorem rowN_nil : rowN [] = [0, 0] := rfl
theorem rowN_cons (d : Nat) (ds : List Nat) : rowN (d :: ds) = (List.replicate d [(1 : Int), 0]).flatten ++ ([0, 0] ++ rowN ds) := by
  unfold rowN; rw [List.flatMap_cons]; unfold rowB; simp
theorem rep_lt : ∀ {x y : Nat} (_ : x < y) (u v : List Int), Apart ((List.replicate x [(1 : Int), 0]).flatten ++ ([0, 0] ++ u)) ((List.replicate y [(1 : Int), 0]).flatten ++ v)
  | 0, y + 1, _, u, v => by
    rw [List.replicate_zero, List.flatten_nil, List.nil_append, List.replicate_succ, List.flatten_cons]
    exact Apart.le (p := [])
  | x + 1, y + 1, h, u, v => by
    rw [List.replicate_succ, List.flatten_cons, List.replicate_succ, List.flatten_cons, List.append_assoc, List.append_assoc]
    exact (rep_lt (Nat.lt_of_succ_lt_succ h) u v).pre [1, 0]
/-- the order of the texts -/
def txt (ds : List Nat) : List Nat := ds.map fun d => 48 + d
theorem rows_apart : ∀ (a b : List Nat), (∀ d ∈ a, 1 ≤ d) → (∀ d ∈ b, 1 ≤ d) → a = b ∨ (Apart (rowN a) (rowN b) ∧ txt a < txt b) ∨ (Apart (rowN b) (rowN a) ∧ txt b < txt a)
  | [], [], _, _ => .inl rfl
  | [], y :: b, _, hb => by
    refine .inr (.inl ⟨?_, List.nil_lt_cons _ _⟩)
    have := hb y List.mem_cons_self
    rw [rowN_cons, rowN_nil]
    have h := rep_lt (x := 0) (y := y) (by omega) [] ([0, 0] ++ rowN b)
    simpa using h
  | x :: a, [], ha, _ => by
    refine .inr (.inr ⟨?_, List.nil_lt_cons _ _⟩)
    have := ha x List.mem_cons_self
    rw [rowN_cons, rowN_nil]
    have h := rep_lt (x := 0) (y := x) (by omega) [] ([0, 0] ++ rowN a)
    simpa using h
  | x :: a, y :: b, ha, hb => by
    rcases Nat.lt_trichotomy x y with h | h | h
    · refine .inr (.inl ⟨?_, ?_⟩)
      · rw [rowN_cons, rowN_cons]; exact rep_lt h _ _
      · exact List.cons_lt_cons_iff.mpr (.inl (Nat.add_lt_add_left h 48))
    · subst h
      rcases rows_apart a b (fun d hd => ha d (List.mem_cons_of_mem _ hd)) (fun d hd => hb d (List.mem_cons_of_mem _ hd)) with h | ⟨h, g⟩ | ⟨h, g⟩
      · exact .inl (by rw [h])
      · refine .inr (.inl ⟨?_, List.cons_lt_cons_iff.mpr (.inr ⟨rfl, g⟩)⟩)
        rw [rowN_cons, rowN_cons]; exact (h.pre _).pre _
      · refine .inr (.inr ⟨?_, List.cons_lt_cons_iff.mpr (.inr ⟨rfl, g⟩)⟩)
        rw [rowN_cons, rowN_cons]; exact (h.pre _).pre _
    · refine .inr (.inr ⟨?_, ?_⟩)
      · rw [rowN_cons, rowN_cons]; exact rep_lt h _ _
      · exact List.cons_lt_cons_iff.mpr (.inl (Nat.add_lt_add_left h 48))

/-! ### goes_ahead -/
noncomputable def gaBody : SF := (ifS (tstF (binF neD (varE 4) (varE 5))) (retS (binF eqD (varE 4) (cE (.int 1)))) nxS)
theorem ga_step {a b c d : D} {S : Sto} (x y : Int) (ds : List D) (u v : Option D) : forL (tupG 2 (consG (nmG 4) (consG (nmG 5) nilG))) gaBody (D.tup [.int x, .int y] :: ds) [some a, some b, some c, some d, u, v] S =
    if x = y then forL (tupG 2 (consG (nmG 4) (consG (nmG 5) nilG))) gaBody ds [some a, some b, some c, some d, some (.int x), some (.int y)] S else .rt (.bl (decide (x = 1))) S := by
  rw [forL_cons (ρ1 := [some a, some b, some c, some d, some (.int x), some (.int y)]) rfl]
  by_cases h : x = y
  · rw [if_pos h]
    simp only [Bd, seqS, setS, retS, retN, dropS, ifS, forS, putS, augS, nxS, bkS, ctS, SR.seq_nx, SR.seq_rt, SR.seq_exc, SR.seq_bk, SR.seq_ct, SR.turn_nx, SR.turn_ct, SR.turn_bk, SR.turn_rt, SR.turn_exc, R.bind_ok, R.bind_bad, R.bind_exc, R.bindN_ok, R.st_ok, R.st_exc,
 varE, cE, binF, tstF, chnF, andB, orB, notB, andV, orV, notV, ifE, nilF, consF, tupF, lstF, ownF, negF, noO, someO, slF, callF, appF, isiF, mthF, itF, itA, nmG, nilG, consG, tupG, yesB, wipeD,
 addD_ii, addD_ss, addD_ll, subD_ii, mulD_ii, mulD_li, mulD_si, fdivD_ii, modD_ii, powD_10_18, ltD_ii, leD_ii, gtD_ii, geD_ii, gtD_ss, ltD_ss, eqD_ii, eqD_ss, eqD_bb, neD_ii, neD_ss, isBD_bb, isND_non, isND_int, isND_str, notND_non, notND_int, notND_str, lenD_s, lenD_l, lenD_r, lenD_t, lenD_c, min2D_ii, max2D_ii, intD_i, intD_b, strD_i, sumD_l, sumD_c, sumD_t, maxD_c, tupleD_l, tupleD_t, tupleD_c, listD_l, listD_t,
 ixD_l, ixD_r, ixD_t, ixD_s, ixD_c, slD_s, slD_l, slD_r, putIx_c, appendD_c, extendD_cl, isTy_c, isTy_s, isTy_l, iaddD, atI_0, atI_1, atI_2, atI_3, atI_4, low_int, low_str, low_bl, low_non, anyI_l, anyI_r, anyI_t, anyI_s, rng1I_i, rng2I_ii, ixN5, set_concat, get_concat, take_concat, len_concat, notInD_cs, inD_cs, sindexD_s, intD_s, tyN_s, tyN_i, tyN_b, tyN_n, tyN_t, tyN_l, tyIs_t, zipI_tt,
 startD, List.map_cons, List.map_nil, List.length_cons, List.length_nil, List.cons_append, List.nil_append, List.getElem?_cons_zero, List.getElem?_cons_succ, List.set_cons_zero, List.set_cons_succ, List.replicate_succ, List.replicate_zero, Option.bind_some, if_true, if_false, Bool.true_and, Bool.false_and, Bool.and_true, Bool.not_true, Bool.not_false, decide_true, decide_false, eq_self, Nat.zero_add, Nat.reduceAdd, Nat.reduceSub, reduceIte, reduceCtorEq, Int.reduceEq, Bool.false_eq_true, true_and, and_true, true_or, or_true, decide_eq_true_eq, gaBody, eq_true h]
  · rw [if_neg h]
    simp only [Bd, seqS, setS, retS, retN, dropS, ifS, forS, putS, augS, nxS, bkS, ctS, SR.seq_nx, SR.seq_rt, SR.seq_exc, SR.seq_bk, SR.seq_ct, SR.turn_nx, SR.turn_ct, SR.turn_bk, SR.turn_rt, SR.turn_exc, R.bind_ok, R.bind_bad, R.bind_exc, R.bindN_ok, R.st_ok, R.st_exc,
 varE, cE, binF, tstF, chnF, andB, orB, notB, andV, orV, notV, ifE, nilF, consF, tupF, lstF, ownF, negF, noO, someO, slF, callF, appF, isiF, mthF, itF, itA, nmG, nilG, consG, tupG, yesB, wipeD,
 addD_ii, addD_ss, addD_ll, subD_ii, mulD_ii, mulD_li, mulD_si, fdivD_ii, modD_ii, powD_10_18, ltD_ii, leD_ii, gtD_ii, geD_ii, gtD_ss, ltD_ss, eqD_ii, eqD_ss, eqD_bb, neD_ii, neD_ss, isBD_bb, isND_non, isND_int, isND_str, notND_non, notND_int, notND_str, lenD_s, lenD_l, lenD_r, lenD_t, lenD_c, min2D_ii, max2D_ii, intD_i, intD_b, strD_i, sumD_l, sumD_c, sumD_t, maxD_c, tupleD_l, tupleD_t, tupleD_c, listD_l, listD_t,
 ixD_l, ixD_r, ixD_t, ixD_s, ixD_c, slD_s, slD_l, slD_r, putIx_c, appendD_c, extendD_cl, isTy_c, isTy_s, isTy_l, iaddD, atI_0, atI_1, atI_2, atI_3, atI_4, low_int, low_str, low_bl, low_non, anyI_l, anyI_r, anyI_t, anyI_s, rng1I_i, rng2I_ii, ixN5, set_concat, get_concat, take_concat, len_concat, notInD_cs, inD_cs, sindexD_s, intD_s, tyN_s, tyN_i, tyN_b, tyN_n, tyN_t, tyN_l, tyIs_t, zipI_tt,
 startD, List.map_cons, List.map_nil, List.length_cons, List.length_nil, List.cons_append, List.nil_append, List.getElem?_cons_zero, List.getElem?_cons_succ, List.set_cons_zero, List.set_cons_succ, List.replicate_succ, List.replicate_zero, Option.bind_some, if_true, if_false, Bool.true_and, Bool.false_and, Bool.and_true, Bool.not_true, Bool.not_false, decide_true, decide_false, eq_self, Nat.zero_add, Nat.reduceAdd, Nat.reduceSub, reduceIte, reduceCtorEq, Int.reduceEq, Bool.false_eq_true, true_and, and_true, true_or, or_true, decide_eq_true_eq, gaBody, h]
def zipD (a b : List Int) : List D := List.zipWith (fun x y => D.tup [x, y]) (a.map D.int) (b.map D.int)
theorem ga_same {a b c d : D} {S : Sto} : ∀ (l : List Int) (u v : Option D), ∃ u' v', forL (tupG 2 (consG (nmG 4) (consG (nmG 5) nilG))) gaBody (zipD l l) [some a, some b, some c, some d, u, v] S = .nx [some a, some b, some c, some d, u', v'] S
  | [], u, v => ⟨u, v, rfl⟩
  | x :: l, u, v => by
    obtain ⟨u', v', e⟩ := ga_same l (some (.int x)) (some (.int x))
    refine ⟨u', v', ?_⟩
    show forL _ _ (D.tup [.int x, .int x] :: zipD l l) _ _ = _
    rw [ga_step, if_pos rfl]
    exact e
theorem ga_apart {a b c d : D} {S : Sto} {x y : Int} (hxy : x ≠ y) (s t : List Int) : ∀ (p : List Int) (u v : Option D), forL (tupG 2 (consG (nmG 4) (consG (nmG 5) nilG))) gaBody (zipD (p ++ x :: s) (p ++ y :: t)) [some a, some b, some c, some d, u, v] S = .rt (.bl (decide (x = 1))) S
  | [], u, v => by
    show forL _ _ (D.tup [.int x, .int y] :: zipD s t) _ _ = _
    rw [ga_step, if_neg hxy]
  | z :: p, u, v => by
    show forL _ _ (D.tup [.int z, .int z] :: zipD (p ++ x :: s) (p ++ y :: t)) _ _ = _
    rw [ga_step, if_pos rfl]
    exact ga_apart hxy s t p _ _
theorem ahead_same {a : List Nat} (ha : IsNum a) (S : Sto) : F_goes_ahead [.str (numS a), .str (numS a)] S = .ok (.bl false) S := by
  unfold F_goes_ahead fnF g_goes_ahead
  obtain ⟨u', v', e⟩ := ga_same (a := .str (numS a)) (b := .str (numS a)) (c := .tup ((rowN a).map D.int)) (d := .tup ((rowN a).map D.int)) (S := S) (rowN a) none none
  unfold gaBody zipD at e
  simp only [Bd, seqS, setS, retS, retN, dropS, ifS, forS, putS, augS, nxS, bkS, ctS, SR.seq_nx, SR.seq_rt, SR.seq_exc, SR.seq_bk, SR.seq_ct, SR.turn_nx, SR.turn_ct, SR.turn_bk, SR.turn_rt, SR.turn_exc, R.bind_ok, R.bind_bad, R.bind_exc, R.bindN_ok, R.st_ok, R.st_exc,
 varE, cE, binF, tstF, chnF, andB, orB, notB, andV, orV, notV, ifE, nilF, consF, tupF, lstF, ownF, negF, noO, someO, slF, callF, appF, isiF, mthF, itF, itA, nmG, nilG, consG, tupG, yesB, wipeD,
 addD_ii, addD_ss, addD_ll, subD_ii, mulD_ii, mulD_li, mulD_si, fdivD_ii, modD_ii, powD_10_18, ltD_ii, leD_ii, gtD_ii, geD_ii, gtD_ss, ltD_ss, eqD_ii, eqD_ss, eqD_bb, neD_ii, neD_ss, isBD_bb, isND_non, isND_int, isND_str, notND_non, notND_int, notND_str, lenD_s, lenD_l, lenD_r, lenD_t, lenD_c, min2D_ii, max2D_ii, intD_i, intD_b, strD_i, sumD_l, sumD_c, sumD_t, maxD_c, tupleD_l, tupleD_t, tupleD_c, listD_l, listD_t,
 ixD_l, ixD_r, ixD_t, ixD_s, ixD_c, slD_s, slD_l, slD_r, putIx_c, appendD_c, extendD_cl, isTy_c, isTy_s, isTy_l, iaddD, atI_0, atI_1, atI_2, atI_3, atI_4, low_int, low_str, low_bl, low_non, anyI_l, anyI_r, anyI_t, anyI_s, rng1I_i, rng2I_ii, ixN5, set_concat, get_concat, take_concat, len_concat, notInD_cs, inD_cs, sindexD_s, intD_s, tyN_s, tyN_i, tyN_b, tyN_n, tyN_t, tyN_l, tyIs_t, zipI_tt,
 startD, List.map_cons, List.map_nil, List.length_cons, List.length_nil, List.cons_append, List.nil_append, List.getElem?_cons_zero, List.getElem?_cons_succ, List.set_cons_zero, List.set_cons_succ, List.replicate_succ, List.replicate_zero, Option.bind_some, if_true, if_false, Bool.true_and, Bool.false_and, Bool.and_true, Bool.not_true, Bool.not_false, decide_true, decide_false, eq_self, Nat.zero_add, Nat.reduceAdd, Nat.reduceSub, reduceIte, reduceCtorEq, Int.reduceEq, Bool.false_eq_true, true_and, and_true, true_or, or_true, decide_eq_true_eq, row_of_num ha, e, leave_rt, fz_bl, List.take_length]
theorem ahead_apart {a b : List Nat} (ha : IsNum a) (hb : IsNum b) (S : Sto) {x y : Int} {p s t : List Int} (hxy : x ≠ y) (e1 : rowN a = p ++ x :: s) (e2 : rowN b = p ++ y :: t) :
    F_goes_ahead [.str (numS a), .str (numS b)] S = .ok (.bl (decide (x = 1))) S := by
  unfold F_goes_ahead fnF g_goes_ahead
  have e := ga_apart (a := .str (numS a)) (b := .str (numS b)) (c := .tup ((rowN a).map D.int)) (d := .tup ((rowN b).map D.int)) (S := S) hxy s t p none none
  rw [← e1, ← e2] at e
  unfold gaBody zipD at e
  simp only [Bd, seqS, setS, retS, retN, dropS, ifS, forS, putS, augS, nxS, bkS, ctS, SR.seq_nx, SR.seq_rt, SR.seq_exc, SR.seq_bk, SR.seq_ct, SR.turn_nx, SR.turn_ct, SR.turn_bk, SR.turn_rt, SR.turn_exc, R.bind_ok, R.bind_bad, R.bind_exc, R.bindN_ok, R.st_ok, R.st_exc,
 varE, cE, binF, tstF, chnF, andB, orB, notB, andV, orV, notV, ifE, nilF, consF, tupF, lstF, ownF, negF, noO, someO, slF, callF, appF, isiF, mthF, itF, itA, nmG, nilG, consG, tupG, yesB, wipeD,
 addD_ii, addD_ss, addD_ll, subD_ii, mulD_ii, mulD_li, mulD_si, fdivD_ii, modD_ii, powD_10_18, ltD_ii, leD_ii, gtD_ii, geD_ii, gtD_ss, ltD_ss, eqD_ii, eqD_ss, eqD_bb, neD_ii, neD_ss, isBD_bb, isND_non, isND_int, isND_str, notND_non, notND_int, notND_str, lenD_s, lenD_l, lenD_r, lenD_t, lenD_c, min2D_ii, max2D_ii, intD_i, intD_b, strD_i, sumD_l, sumD_c, sumD_t, maxD_c, tupleD_l, tupleD_t, tupleD_c, listD_l, listD_t,
 ixD_l, ixD_r, ixD_t, ixD_s, ixD_c, slD_s, slD_l, slD_r, putIx_c, appendD_c, extendD_cl, isTy_c, isTy_s, isTy_l, iaddD, atI_0, atI_1, atI_2, atI_3, atI_4, low_int, low_str, low_bl, low_non, anyI_l, anyI_r, anyI_t, anyI_s, rng1I_i, rng2I_ii, ixN5, set_concat, get_concat, take_concat, len_concat, notInD_cs, inD_cs, sindexD_s, intD_s, tyN_s, tyN_i, tyN_b, tyN_n, tyN_t, tyN_l, tyIs_t, zipI_tt,
 startD, List.map_cons, List.map_nil, List.length_cons, List.length_nil, List.cons_append, List.nil_append, List.getElem?_cons_zero, List.getElem?_cons_succ, List.set_cons_zero, List.set_cons_succ, List.replicate_succ, List.replicate_zero, Option.bind_some, if_true, if_false, Bool.true_and, Bool.false_and, Bool.and_true, Bool.not_true, Bool.not_false, decide_true, decide_false, eq_self, Nat.zero_add, Nat.reduceAdd, Nat.reduceSub, reduceIte, reduceCtorEq, Int.reduceEq, Bool.false_eq_true, true_and, and_true, true_or, or_true, decide_eq_true_eq, row_of_num ha, row_of_num hb, e, leave_rt, fz_bl, List.take_length]

/-! ### texts cut -/
theorem cutS_head (ds : List Nat) (k : Nat) : cutS (numS ds) none (some (k : Int)) = numS (ds.take k) := by
  apply str_ext
  rw [numS_list]
  show (((numS ds).cps.toList.drop (HT.sIx (numS ds).length 0 none)).take _).toArray.toList = _
  rw [HT.sIx_none, HT.sIx_nat, numS_len, numS_list, Nat.sub_zero]
  show List.take _ (List.map _ ds) = _
  rw [← List.map_take]
  congr 1
  apply List.ext_getElem?
  intro i
  rw [List.getElem?_take, List.getElem?_take]
  by_cases h : i < min k ds.length
  · rw [if_pos h, if_pos (by omega)]
  · rw [if_neg h]
    by_cases h2 : i < k
    · rw [if_pos h2, List.getElem?_eq_none (by omega)]
    · rw [if_neg h2]
theorem cutS_last (ds : List Nat) : cutS (numS ds) none (some (-1)) = numS (ds.take (ds.length - 1)) := by
  apply str_ext
  rw [numS_list]
  show (((numS ds).cps.toList.drop (HT.sIx (numS ds).length 0 none)).take (HT.sIx (numS ds).length (numS ds).length (some (-1)) - HT.sIx (numS ds).length 0 none)).toArray.toList = _
  rw [HT.sIx_none, numS_len, numS_list, Nat.sub_zero]
  have e : HT.sIx ds.length ds.length (some (-1)) = ds.length - 1 := by
    show (if (-1 : Int) < 0 then ((-1 : Int) + (ds.length : Int)).toNat else min (-1 : Int).toNat ds.length) = _
    rw [if_pos (by decide)]; omega
  rw [e]
  show List.take _ (List.map _ ds) = _
  rw [← List.map_take]
theorem numS_app (a b : List Nat) : numS a ++ numS b = numS (a ++ b) := by
  apply TL.ext_tl
  rw [TL.tl_append]
  simp [TL.tl, numS]
theorem numS_eq (a b : List Nat) : decide (numS a = numS b) = decide (a = b) := decide_eq_decide.mpr ⟨numS_inj, fun e => by rw [e]⟩
theorem numS_empty (a : List Nat) : decide (numS a = "") = decide (a = []) := numS_eq a []
end Zd

set_option Elab.async false
set_option linter.all false
set_option maxRecDepth 100000
set_option maxHeartbeats 4000000
set_option autoImplicit false
/-! Rows of ticks, odd ones too: what number_of answers. -/
namespace Zd
open PySem PySem.Spec L2
open PyProof.Rows hiding St

/-- the ticks that a row may hold: 0, 1, 2, True, False, None, '1', [0] -/
inductive Tk where
  | z | o | t | T | F | N | S | L
  deriving DecidableEq
def tkD : Tk → D
  | .z => .int 0 | .o => .int 1 | .t => .int 2 | .T => .bl true | .F => .bl false | .N => .non | .S => .str "1" | .L => .lst [.int 0]
def tkP : Tk → PyData
  | .z => .int 0 | .o => .int 1 | .t => .int 2 | .T => .bool true | .F => .bool false | .N => .none | .S => .str "1" | .L => .list [.int 0]
def tkI : Tk → Int
  | .z => 0 | .o => 1 | .t => 2 | _ => 3
def tks (l : List Tk) : List D := l.map tkD
def plainT : Tk → Bool
  | .z => true | .o => true | .t => true | _ => false
def bitT : Tk → Bool
  | .z => true | .o => true | _ => false
def Rw (b : Bool) (l : List Tk) : D := if b then .lst (tks l) else .tup (tks l)
theorem tks_len (l : List Tk) : (tks l).length = l.length := List.length_map _
theorem tks_app (a b : List Tk) : tks (a ++ b) = tks a ++ tks b := List.map_append
theorem toPD_tk (S : Sto) (k : Tk) : toPD S (tkD k) = some (tkP k) := by cases k <;> rfl
theorem toPDs_tks (S : Sto) (l : List Tk) : toPDs S (tks l) = some (l.map tkP) := by
  induction l with
  | nil => rfl
  | cons a l ih => show (toPD S (tkD a)).bind (fun p => (toPDs S (tks l)).map fun ps => p :: ps) = _; rw [toPD_tk, ih]; rfl
theorem lay_tk (k : Tk) : (tkP k).canLay0 = true := by cases k <;> first | rfl | decide +kernel
theorem depth_tk (k : Tk) : (tkP k).depth ≤ 2 := by cases k <;> decide +kernel
theorem lay_tks (l : List Tk) : PyData.canLayAll0 (l.map tkP) = true := by
  induction l with
  | nil => rfl
  | cons a l ih => rw [List.map_cons, PyData.canLayAll0, lay_tk, ih]; rfl
theorem depth_tks (l : List Tk) : PyData.depthAll (l.map tkP) ≤ 2 := by
  induction l with
  | nil => exact Nat.zero_le _
  | cons a l ih => rw [List.map_cons, PyData.depthAll]; exact Nat.max_le.mpr ⟨depth_tk a, ih⟩
theorem shaped_tks (l : List Tk) : SeqAt.shaped (.list (l.map tkP)) = true := by
  have h1 := depth_tks l
  have h2 : PyData.depth (.list (l.map tkP)) ≤ 64 := by rw [PyData.depth]; omega
  show (PyData.canLay0 (.list (l.map tkP)) && decide (PyData.depth (.list (l.map tkP)) ≤ 64)) = true
  rw [decide_eq_true h2, PyData.canLay0, lay_tks]; rfl
/-- xs != [] -/
theorem neD_nil (S : Sto) (l : List Tk) : neD (.lst (tks l)) (.lst []) S = .ok (.bl (!decide (l = []))) S := by
  unfold neD eqvD eqvG
  have e1 : toP S (.lst (tks l)) = some (.list (l.map tkP)) := by show (toPDs S (tks l)).map _ = _; rw [toPDs_tks]; rfl
  have e2 : toP S (.lst []) = some (.list []) := rfl
  have e3 : SeqAt.shaped (.list []) = true := shaped_tks []
  have e4 : eqvF (.lst (tks l)) (.lst []) = none := rfl
  rw [e4, e1, e2]
  dsimp only
  rw [shaped_tks, e3]
  cases l with
  | nil => rfl
  | cons a l => rfl
theorem low_tk (n : Nat) (k : Tk) : low n (tkD k) = true := by cases k <;> rfl
theorem fz_tk (n0 : Nat) (S : Sto) (j : Nat) (k : Tk) : fz n0 S j (tkD k) = tkD k := by
  cases k <;> first
    | exact fz_int
    | exact fz_bl
    | exact fz_non
    | exact fz_str
    | (show fz n0 S j (.lst [.int 0]) = _; rw [fz_lst]; simp only [List.map_cons, List.map_nil, fz_int]; rfl)
theorem fz_tks (n0 : Nat) (S : Sto) (j : Nat) (l : List Tk) : (tks l).map (fz n0 S j) = tks l := by
  unfold tks; rw [List.map_map]; exact List.map_congr_left fun k _ => fz_tk n0 S j k
theorem cut_tks (l : List Tk) (lo hi : Option Int) : ∃ l', cutD (tks l) lo hi = tks l' ∧ l'.length ≤ l.length := by
  unfold cutD
  refine ⟨(l.drop (HT.sIx (tks l).length 0 lo)).take (HT.sIx (tks l).length (tks l).length hi - HT.sIx (tks l).length 0 lo), ?_, ?_⟩
  · unfold tks; rw [List.map_take, List.map_drop]
  · rw [List.length_take, List.length_drop]; omega
/-- repr -/
theorem repr_tks (S : Sto) (l : List Tk) (h : l.length ≤ 100000) : ∃ z, reprD [.lst (tks l)] S = .ok (.str z) S := by
  refine ⟨(PyData.list (l.map tkP)).shown, ?_⟩
  have e1 : toP S (.lst (tks l)) = some (.list (l.map tkP)) := by show (toPDs S (tks l)).map _ = _; rw [toPDs_tks]; rfl
  unfold reprD
  dsimp only
  rw [e1]
  dsimp only
  have sh : PyData.showableAll (l.map tkP) = true := by
    induction l with
    | nil => rfl
    | cons a l ih =>
      rw [List.map_cons, PyData.showableAll, ih (by simp at h; omega) (by show (toPDs S (tks l)).map _ = _; rw [toPDs_tks]; rfl)]
      cases a <;> decide +kernel
  have one : ∀ k : Tk, (tkP k).shown.length ≤ 10 := by intro k; cases k <;> decide +kernel
  have sz : ((PyData.shownAll (l.map tkP)).map (·.length)).sum ≤ 10 * l.length := by
    clear h e1 sh
    induction l with
    | nil => exact Nat.le_refl _
    | cons a l ih =>
      rw [List.map_cons, PyData.shownAll, List.map_cons, List.sum_cons, List.length_cons]
      have := one a
      omega
  have ln : ∀ m : List Tk, (PyData.shownAll (m.map tkP)).length = m.length := by
    intro m
    induction m with
    | nil => rfl
    | cons a m ih => rw [List.map_cons, PyData.shownAll, List.length_cons, ih, List.length_cons]
  rw [if_pos]
  refine ⟨by rw [PyData.showable]; exact sh, ?_, ?_⟩
  · have := depth_tks l
    rw [PyData.depth]; omega
  · show (PyData.shown (.list (l.map tkP))).length ≤ sizeLine
    rw [PyData.shown]
    have := listText_len_le (PyData.shownAll (l.map tkP))
    rw [ln] at this
    have : (listText (PyData.shownAll (l.map tkP))).length ≤ 1200003 := by omega
    rw [sizeLine_eq]
    omega

/-! ### rows of numbers, of ticks -/
def repT (d : Nat) : List Tk := (List.replicate d [Tk.o, Tk.z]).flatten
def blkT (d : Nat) : List Tk := repT d ++ [.z, .z]
def flatT (w : List Nat) : List Tk := w.flatMap blkT
def rowT (w : List Nat) : List Tk := flatT w ++ [.z, .z]
theorem repT_zero : repT 0 = [] := rfl
theorem repT_succ (d : Nat) : repT (d + 1) = .o :: .z :: repT d := by unfold repT; rw [List.replicate_succ, List.flatten_cons]; rfl
theorem repT_snoc (d : Nat) (u : List Tk) : repT d ++ .o :: .z :: u = repT (d + 1) ++ u := by
  induction d with
  | zero => rfl
  | succ d ih => rw [repT_succ, repT_succ (d + 1), List.cons_append, List.cons_append, ih]; rfl
theorem flatT_cons (d : Nat) (w : List Nat) : flatT (d :: w) = repT d ++ .z :: .z :: flatT w := by
  unfold flatT; rw [List.flatMap_cons]; unfold blkT; simp
theorem rowT_tks (w : List Nat) : (rowN w).map D.int = tks (rowT w) := by
  unfold rowN rowT tks flatT
  rw [List.map_append, List.map_append]
  congr 1
  induction w with
  | nil => rfl
  | cons d w ih =>
    rw [List.flatMap_cons, List.flatMap_cons, List.map_append, List.map_append, ih]
    congr 1
    unfold rowB blkT
    rw [List.map_append, List.map_append]
    congr 1
    induction d with
    | zero => rfl
    | succ d ihd => rw [repT_succ, List.replicate_succ, List.flatten_cons, List.map_append, ihd]; rfl
theorem repT_bits (d : Nat) : (repT d).all bitT = true := by
  induction d with
  | zero => rfl
  | succ d ih => rw [repT_succ, List.all_cons, List.all_cons, ih]; rfl
theorem flatT_bits (w : List Nat) : (flatT w).all bitT = true := by
  induction w with
  | nil => rfl
  | cons d w ih => rw [flatT_cons, List.all_append, repT_bits, List.all_cons, List.all_cons, ih]; rfl
theorem rowT_bits (w : List Nat) : (rowT w).all bitT = true := by unfold rowT; rw [List.all_append, flatT_bits]; rfl
theorem repT_len (d : Nat) : (repT d).length = 2 * d := by
  induction d with
  | zero => rfl
  | succ d ih => rw [repT_succ, List.length_cons, List.length_cons, ih]; omega
theorem rowT_len (w : List Nat) : (rowT w).length = 2 * (w.sum + w.length + 1) := by
  have : (flatT w).length = 2 * (w.sum + w.length) := by
    induction w with
    | nil => rfl
    | cons d w ih => rw [flatT_cons, List.length_append, repT_len, List.length_cons, List.length_cons, ih, List.sum_cons, List.length_cons]; omega
  unfold rowT
  rw [List.length_append, this]
  simp; omega
structure IsRow (row : List Tk) (w : List Nat) : Prop where
  num : IsNum w
  row : row = rowT w
def optD : Option (List Nat) → D
  | none => .non
  | some w => .str (numS w)

/-! ### block_text, in plain words -/
def runT : List Tk → List Nat → Nat → Option (List Nat × Nat × Nat)
  | .o :: .z :: r, w, s => runT r w (s + 1)
  | .z :: .z :: r, w, s => if 0 < s ∧ s ≤ 9 then runT r (w ++ [s]) 0 else none
  | [], w, s => some (w, s, 0)
  | [_], w, s => some (w, s, 1)
  | _ :: _ :: _, _, _ => none
theorem run_sound : ∀ (r : List Tk) (w : List Nat) (s : Nat) (v : List Nat), runT r w s = some (v, 0, 0) → ∃ ds, v = w ++ ds ∧ (∀ d ∈ ds, 1 ≤ d ∧ d ≤ 9) ∧ repT s ++ r = flatT ds := by
  intro r w s
  fun_induction runT r w s with
  | case1 r w s ih =>
    intro v h
    obtain ⟨ds, e1, e2, e3⟩ := ih v h
    exact ⟨ds, e1, e2, by rw [repT_snoc]; exact e3⟩
  | case2 r w s hs ih =>
    intro v h
    obtain ⟨ds, e1, e2, e3⟩ := ih v h
    refine ⟨s :: ds, by rw [e1, List.append_assoc]; rfl, fun d hd => ?_, ?_⟩
    · rcases List.mem_cons.mp hd with rfl | hd
      · omega
      · exact e2 d hd
    · rw [flatT_cons, ← e3]; rfl
  | case3 r w s hs => intro v h; cases h
  | case4 w s => intro v h; cases h; exact ⟨[], by simp, fun d hd => (by cases hd), rfl⟩
  | case5 w s x => intro v h; cases h
  | case6 => intro v h; cases h
theorem rep_cmp : ∀ (s d : Nat) (u v : List Tk), repT s ++ u = repT d ++ .z :: .z :: v → (s = d ∧ u = .z :: .z :: v) ∨ ∃ u', u = .o :: .z :: u' ∧ repT (s + 1) ++ u' = repT d ++ .z :: .z :: v
  | 0, 0, u, v, h => .inl ⟨rfl, h⟩
  | 0, d + 1, u, v, h => by
    rw [repT_zero, List.nil_append] at h
    subst h
    rw [repT_succ]
    exact .inr ⟨repT d ++ .z :: .z :: v, rfl, rfl⟩
  | s + 1, 0, u, v, h => by rw [repT_succ, repT_zero] at h; cases h
  | s + 1, d + 1, u, v, h => by
    rw [repT_succ, repT_succ] at h
    have h := List.cons.inj (List.cons.inj h).2
    rcases rep_cmp s d u v h.2 with ⟨e1, e2⟩ | ⟨u', e1, e2⟩
    · exact .inl ⟨by rw [e1], e2⟩
    · refine .inr ⟨u', e1, ?_⟩
      rw [repT_succ, repT_succ d, List.cons_append, List.cons_append, e2]; rfl
theorem run_full : ∀ (n : Nat) (r : List Tk) (w ds : List Nat) (s : Nat), r.length ≤ n → (∀ d ∈ ds, 1 ≤ d ∧ d ≤ 9) → repT s ++ r = flatT ds → runT r w s = some (w ++ ds, 0, 0)
  | n, r, w, [], s, hl, hd, h => by
    have h2 : repT s ++ r = [] := h
    obtain ⟨e1, e2⟩ := List.append_eq_nil_iff.mp h2
    subst e2
    cases s with
    | zero => rw [runT]; simp
    | succ s => rw [repT_succ] at e1; cases e1
  | n, r, w, d :: ds, s, hl, hd, h => by
    rw [flatT_cons] at h
    have d19 := hd d List.mem_cons_self
    rcases rep_cmp s d r _ h with ⟨rfl, rfl⟩ | ⟨u, rfl, e⟩
    · rw [runT, if_pos (by omega)]
      cases n with
      | zero => simp at hl
      | succ n =>
        rw [run_full n (flatT ds) (w ++ [s]) ds 0 (by simp at hl; omega) (fun x hx => hd x (List.mem_cons_of_mem _ hx)) rfl, List.append_assoc]; rfl
    · rw [runT]
      cases n with
      | zero => simp at hl
      | succ n => exact run_full n u w (d :: ds) (s + 1) (by simp at hl; omega) hd (by rw [flatT_cons]; exact e)

/-! block_text: 0 part, 1 word, 2 size, 3 at -/
noncomputable def g_block_text : SF := (seqS (setS 1 (cE (.str "")))
  (seqS (setS 2 (cE (.int 0)))
  (seqS (setS 3 (cE (.int 0)))
  (seqS (whileL (tstF (binF ltD (binF addD (varE 3) (cE (.int 1))) (appF lenD (consF (varE 0) nilF)))) (seqS (ifS (andB (tstF (binF eqD (binF ixD (varE 0) (varE 3)) (cE (.int 1)))) (tstF (binF eqD (binF ixD (varE 0) (binF addD (varE 3) (cE (.int 1)))) (cE (.int 0))))) (augS 2 iaddD (cE (.int 1))) (ifS (andB (tstF (binF eqD (binF ixD (varE 0) (varE 3)) (cE (.int 0)))) (andB (tstF (binF eqD (binF ixD (varE 0) (binF addD (varE 3) (cE (.int 1)))) (cE (.int 0)))) (tstF (chnF ltD leD (cE (.int 0)) (varE 2) (cE (.int 9)))))) (seqS (setS 1 (binF addD (varE 1) (appF strD (consF (varE 2) nilF))))
  (setS 2 (cE (.int 0)))) (retS (cE .non))))
  (augS 3 iaddD (cE (.int 2)))) 100000)
  (seqS (ifS (orB (tstF (binF ltD (varE 3) (appF lenD (consF (varE 0) nilF)))) (tstF (binF gtD (varE 2) (cE (.int 0))))) (retS (cE .non)) nxS)
  (retS (varE 1)))))))
noncomputable def F_block_text : DFun := fnF 4 g_block_text
/-! is_whole: 0 thing -/
noncomputable def g_is_whole : SF := (retS (andV (isiF "int" (varE 0)) (notV (isiF "bool" (varE 0)))))
noncomputable def F_is_whole : DFun := fnF 1 g_is_whole
/-! number_of: 0 row, 1 sign, 2 word -/
noncomputable def g_number_of : SF := (seqS (forS (itF anyI (varE 0)) (nmG 1) (ifS (orB (notB (tstF (callF 1 F_is_whole (consF (varE 1) nilF)))) (tstF (binF notInD (varE 1) (tupF (consF (cE (.int 0)) (consF (cE (.int 1)) nilF)))))) (retS (cE .non)) nxS))
  (seqS (ifS (orB (tstF (binF ltD (appF lenD (consF (varE 0) nilF)) (cE (.int 2)))) (orB (tstF (binF neD (binF ixD (varE 0) (negF (cE (.int 1)))) (cE (.int 0)))) (tstF (binF neD (binF ixD (varE 0) (negF (cE (.int 2)))) (cE (.int 0)))))) (retS (cE .non)) nxS)
  (seqS (setS 2 (callF 1 F_block_text (consF (slF (varE 0) noO (someO (negF (cE (.int 2))))) nilF)))
  (seqS (ifS (orB (tstF (binF isND (varE 2) (cE .non))) (notB (tstF (callF 1 F_is_number (consF (varE 2) nilF))))) (retS (cE .non)) nxS)
  (retS (varE 2))))))
noncomputable def F_number_of : DFun := fnF 3 g_number_of

/-! ### the row handed over as list or as tuple -/
theorem rw_len (b : Bool) (l : List Tk) (S : Sto) : lenD [Rw b l] S = .ok (.int (l.length : Nat)) S := by
  unfold Rw; cases b
  · show lenD [.tup (tks l)] S = _; rw [lenD_t, tks_len]
  · show lenD [.lst (tks l)] S = _; rw [lenD_l, tks_len]
theorem rw_ix (b : Bool) (l : List Tk) (S : Sto) (i : Int) (k : Tk) (h : atI (tks l) i = some (tkD k)) : ixD (Rw b l) (.int i) S = .ok (tkD k) S := by
  unfold Rw; cases b
  · show ixD (.tup (tks l)) (.int i) S = _; rw [ixD_t, h]
  · show ixD (.lst (tks l)) (.int i) S = _; rw [ixD_l, h]
theorem rw_any (b : Bool) (l : List Tk) (S : Sto) : anyI (Rw b l) S = .ok (tks l) S := by cases b <;> rfl
theorem atI_tks {l : List Tk} {i : Nat} {k : Tk} (h : l[i]? = some k) : atI (tks l) (i : Int) = some (tkD k) := atI_nat (by unfold tks; rw [List.getElem?_map, h]; rfl)
theorem rw_cut (b : Bool) (l : List Tk) (x y : Tk) (S : Sto) : slD (Rw b (l ++ [x, y])) none (some (-2)) S = .ok (Rw b l) S := by
  have e : HT.sIx (tks (l ++ [x, y])).length (tks (l ++ [x, y])).length (some (-2)) = l.length := by
    rw [tks_len]
    show (if (-2 : Int) < 0 then ((-2 : Int) + ((l ++ [x, y]).length : Int)).toNat else min (-2 : Int).toNat (l ++ [x, y]).length) = _
    rw [if_pos (by decide)]; simp; omega
  have c : cutD (tks (l ++ [x, y])) none (some (-2)) = tks l := by
    unfold cutD
    rw [e, HT.sIx_none, List.drop_zero, Nat.sub_zero, tks_app, List.take_left' (tks_len l)]
  unfold Rw; cases b
  · show slD (.tup _) _ _ S = _
    rw [slD_t, c]; rfl
  · show slD (.lst _) _ _ S = _
    rw [slD_l, c]; rfl
theorem atI_back1 (l : List Tk) (x y : Tk) : atI (tks (l ++ [x, y])) (-1) = some (tkD y) := by
  unfold atI ixN
  rw [tks_len, if_neg (by decide), if_pos (by simp; omega)]
  show (tks (l ++ [x, y]))[((-1 : Int) + ((l ++ [x, y]).length : Nat)).toNat]? = _
  unfold tks
  rw [show ((-1 : Int) + ((l ++ [x, y]).length : Nat)).toNat = l.length + 1 by simp; omega, List.map_append, List.getElem?_append_right (by simp)]
  simp
theorem atI_back2 (l : List Tk) (x y : Tk) : atI (tks (l ++ [x, y])) (-2) = some (tkD x) := by
  unfold atI ixN
  rw [tks_len, if_neg (by decide), if_pos (by simp; omega)]
  show (tks (l ++ [x, y]))[((-2 : Int) + ((l ++ [x, y]).length : Nat)).toNat]? = _
  unfold tks
  rw [show ((-2 : Int) + ((l ++ [x, y]).length : Nat)).toNat = l.length by simp; omega, List.map_append, List.getElem?_append_right (by simp)]
  simp
theorem whole_tk (k : Tk) (S : Sto) : F_is_whole [tkD k] S = .ok (.bl (plainT k)) S := by
  unfold F_is_whole fnF g_is_whole
  cases k <;> simp only [Bd, seqS, setS, retS, retN, dropS, ifS, forS, putS, augS, nxS, bkS, ctS, SR.seq_nx, SR.seq_rt, SR.seq_exc, SR.seq_bk, SR.seq_ct, SR.turn_nx, SR.turn_ct, SR.turn_bk, SR.turn_rt, SR.turn_exc, R.bind_ok, R.bind_bad, R.bind_exc, R.bindN_ok, R.st_ok, R.st_exc,
 varE, cE, binF, tstF, chnF, andB, orB, notB, andV, orV, notV, ifE, nilF, consF, tupF, lstF, ownF, negF, noO, someO, slF, callF, appF, isiF, mthF, itF, itA, nmG, nilG, consG, tupG, yesB, wipeD,
 addD_ii, addD_ss, addD_ll, subD_ii, mulD_ii, mulD_li, mulD_si, fdivD_ii, modD_ii, powD_10_18, ltD_ii, leD_ii, gtD_ii, geD_ii, gtD_ss, ltD_ss, eqD_ii, eqD_ss, eqD_bb, neD_ii, neD_ss, isBD_bb, isND_non, isND_int, isND_str, notND_non, notND_int, notND_str, lenD_s, lenD_l, lenD_r, lenD_t, lenD_c, min2D_ii, max2D_ii, intD_i, intD_b, strD_i, sumD_l, sumD_c, sumD_t, maxD_c, tupleD_l, tupleD_t, tupleD_c, listD_l, listD_t,
 ixD_l, ixD_r, ixD_t, ixD_s, ixD_c, slD_s, slD_l, slD_r, putIx_c, appendD_c, extendD_cl, isTy_c, isTy_s, isTy_l, iaddD, atI_0, atI_1, atI_2, atI_3, atI_4, low_int, low_str, low_bl, low_non, anyI_l, anyI_r, anyI_t, anyI_s, rng1I_i, rng2I_ii, ixN5, set_concat, get_concat, take_concat, len_concat, notInD_cs, inD_cs, sindexD_s, intD_s, tyN_s, tyN_i, tyN_b, tyN_n, tyN_t, tyN_l, tyIs_t, zipI_tt,
 startD, List.map_cons, List.map_nil, List.length_cons, List.length_nil, List.cons_append, List.nil_append, List.getElem?_cons_zero, List.getElem?_cons_succ, List.set_cons_zero, List.set_cons_succ, List.replicate_succ, List.replicate_zero, Option.bind_some, if_true, if_false, Bool.true_and, Bool.false_and, Bool.and_true, Bool.not_true, Bool.not_false, decide_true, decide_false, eq_self, Nat.zero_add, Nat.reduceAdd, Nat.reduceSub, reduceIte, reduceCtorEq, Int.reduceEq, Bool.false_eq_true, true_and, and_true, true_or, or_true, decide_eq_true_eq, tkD, plainT, leave_rt, fz_bl, List.take_length]

theorem run_left : ∀ (r : List Tk) (w : List Nat) (s : Nat) {v : List Nat} {z k : Nat}, runT r w s = some (v, z, k) → k ≤ r.length := by
  intro r w s
  fun_induction runT r w s with
  | case1 r w s ih => intro v z k h; have := ih h; simp; omega
  | case2 r w s hs ih => intro v z k h; have := ih h; simp; omega
  | case3 r w s hs => intro v z k h; cases h
  | case4 w s => intro v z k h; cases h; exact Nat.zero_le _
  | case5 w s x => intro v z k h; cases h; simp
  | case6 => intro v z k h; cases h
/-! ### the loop of block_text -/
noncomputable def btT : F Bool := (tstF (binF ltD (binF addD (varE 3) (cE (.int 1))) (appF lenD (consF (varE 0) nilF))))
noncomputable def btB : SF := (seqS (ifS (andB (tstF (binF eqD (binF ixD (varE 0) (varE 3)) (cE (.int 1)))) (tstF (binF eqD (binF ixD (varE 0) (binF addD (varE 3) (cE (.int 1)))) (cE (.int 0))))) (augS 2 iaddD (cE (.int 1))) (ifS (andB (tstF (binF eqD (binF ixD (varE 0) (varE 3)) (cE (.int 0)))) (andB (tstF (binF eqD (binF ixD (varE 0) (binF addD (varE 3) (cE (.int 1)))) (cE (.int 0)))) (tstF (chnF ltD leD (cE (.int 0)) (varE 2) (cE (.int 9)))))) (seqS (setS 1 (binF addD (varE 1) (appF strD (consF (varE 2) nilF))))
  (setS 2 (cE (.int 0)))) (retS (cE .non))))
  (augS 3 iaddD (cE (.int 2))))
def btR (b : Bool) (l : List Tk) (S : Sto) : Option (List Nat × Nat × Nat) → SR
  | none => .rt .non S
  | some (w, s, k) => .nx [some (Rw b l), some (.str (numS w)), some (.int (s : Nat)), some (.int ((l.length - k : Nat) : Nat))] S
theorem bt_test (b : Bool) (l : List Tk) (S : Sto) (z s : D) (i : Nat) : btT [some (Rw b l), some z, some s, some (.int (i : Nat))] S = .ok (decide (i + 1 < l.length)) S := by
  unfold btT
  simp only [Bd, seqS, setS, retS, retN, dropS, ifS, forS, putS, augS, nxS, bkS, ctS, SR.seq_nx, SR.seq_rt, SR.seq_exc, SR.seq_bk, SR.seq_ct, SR.turn_nx, SR.turn_ct, SR.turn_bk, SR.turn_rt, SR.turn_exc, R.bind_ok, R.bind_bad, R.bind_exc, R.bindN_ok, R.st_ok, R.st_exc,
 varE, cE, binF, tstF, chnF, andB, orB, notB, andV, orV, notV, ifE, nilF, consF, tupF, lstF, ownF, negF, noO, someO, slF, callF, appF, isiF, mthF, itF, itA, nmG, nilG, consG, tupG, yesB, wipeD,
 addD_ii, addD_ss, addD_ll, subD_ii, mulD_ii, mulD_li, mulD_si, fdivD_ii, modD_ii, powD_10_18, ltD_ii, leD_ii, gtD_ii, geD_ii, gtD_ss, ltD_ss, eqD_ii, eqD_ss, eqD_bb, neD_ii, neD_ss, isBD_bb, isND_non, isND_int, isND_str, notND_non, notND_int, notND_str, lenD_s, lenD_l, lenD_r, lenD_t, lenD_c, min2D_ii, max2D_ii, intD_i, intD_b, strD_i, sumD_l, sumD_c, sumD_t, maxD_c, tupleD_l, tupleD_t, tupleD_c, listD_l, listD_t,
 ixD_l, ixD_r, ixD_t, ixD_s, ixD_c, slD_s, slD_l, slD_r, putIx_c, appendD_c, extendD_cl, isTy_c, isTy_s, isTy_l, iaddD, atI_0, atI_1, atI_2, atI_3, atI_4, low_int, low_str, low_bl, low_non, anyI_l, anyI_r, anyI_t, anyI_s, rng1I_i, rng2I_ii, ixN5, set_concat, get_concat, take_concat, len_concat, notInD_cs, inD_cs, sindexD_s, intD_s, tyN_s, tyN_i, tyN_b, tyN_n, tyN_t, tyN_l, tyIs_t, zipI_tt,
 startD, List.map_cons, List.map_nil, List.length_cons, List.length_nil, List.cons_append, List.nil_append, List.getElem?_cons_zero, List.getElem?_cons_succ, List.set_cons_zero, List.set_cons_succ, List.replicate_succ, List.replicate_zero, Option.bind_some, if_true, if_false, Bool.true_and, Bool.false_and, Bool.and_true, Bool.not_true, Bool.not_false, decide_true, decide_false, eq_self, Nat.zero_add, Nat.reduceAdd, Nat.reduceSub, reduceIte, reduceCtorEq, Int.reduceEq, Bool.false_eq_true, true_and, and_true, true_or, or_true, decide_eq_true_eq, rw_len]
  rw [decide_eq_decide.mpr (show ((i : Int) + 1 < (l.length : Nat)) ↔ i + 1 < l.length by omega)]
theorem bt_loop (b : Bool) (S : Sto) : ∀ (fuel : Nat) (pre rest : List Tk) (w : List Nat) (s : Nat), rest.length < fuel → (pre ++ rest).all bitT = true → w.length ≤ pre.length → pre.length + rest.length ≤ 100000 →
    whileL btT btB fuel [some (Rw b (pre ++ rest)), some (.str (numS w)), some (.int (s : Nat)), some (.int (pre.length : Nat))] S = btR b (pre ++ rest) S (runT rest w s)
  | 0, pre, rest, w, s, h, _, _, _ => by omega
  | fuel + 1, pre, [], w, s, h, hb, hw, hz => by
    rw [whileL_succ, bt_test, R.st_ok, decide_eq_false (by simp), if_neg (by simp), runT]
    simp [btR]
  | fuel + 1, pre, [x], w, s, h, hb, hw, hz => by
    rw [whileL_succ, bt_test, R.st_ok, decide_eq_false (by simp), if_neg (by simp), runT]
    simp [btR]
  | fuel + 1, pre, x :: y :: r, w, s, h, hb, hw, hz => by
    rw [whileL_succ, bt_test, R.st_ok, decide_eq_true (by simp), if_pos rfl]
    have i1 := rw_ix b (pre ++ x :: y :: r) S pre.length x (atI_tks (by simp))
    have i2 := rw_ix b (pre ++ x :: y :: r) S (pre.length + 1 : Nat) y (atI_tks (by simp))
    have i2' : ixD (Rw b (pre ++ x :: y :: r)) (.int ((pre.length : Int) + 1)) S = .ok (tkD y) S := i2
    have hbits : bitT x = true ∧ bitT y = true := by
      rw [List.all_append, List.all_cons, List.all_cons] at hb
      simp only [Bool.and_eq_true] at hb
      exact ⟨hb.2.1, hb.2.2.1⟩
    have next : ∀ (w' : List Nat) (s' : Nat), w'.length ≤ pre.length + 2 → whileL btT btB fuel [some (Rw b (pre ++ x :: y :: r)), some (.str (numS w')), some (.int (s' : Nat)), some (.int ((pre.length : Nat) + 2))] S = btR b (pre ++ x :: y :: r) S (runT r w' s') := by
      intro w' s' hw'
      have := bt_loop b S fuel (pre ++ [x, y]) r w' s' (by simp at h; omega) (by simpa using hb) (by simp; omega) (by simp at hz ⊢; omega)
      simpa using this
    cases x with
    | o =>
      cases y with
      | z =>
        rw [runT, ← next w (s + 1) (by omega)]
        simp only [Bd, seqS, setS, retS, retN, dropS, ifS, forS, putS, augS, nxS, bkS, ctS, SR.seq_nx, SR.seq_rt, SR.seq_exc, SR.seq_bk, SR.seq_ct, SR.turn_nx, SR.turn_ct, SR.turn_bk, SR.turn_rt, SR.turn_exc, R.bind_ok, R.bind_bad, R.bind_exc, R.bindN_ok, R.st_ok, R.st_exc,
 varE, cE, binF, tstF, chnF, andB, orB, notB, andV, orV, notV, ifE, nilF, consF, tupF, lstF, ownF, negF, noO, someO, slF, callF, appF, isiF, mthF, itF, itA, nmG, nilG, consG, tupG, yesB, wipeD,
 addD_ii, addD_ss, addD_ll, subD_ii, mulD_ii, mulD_li, mulD_si, fdivD_ii, modD_ii, powD_10_18, ltD_ii, leD_ii, gtD_ii, geD_ii, gtD_ss, ltD_ss, eqD_ii, eqD_ss, eqD_bb, neD_ii, neD_ss, isBD_bb, isND_non, isND_int, isND_str, notND_non, notND_int, notND_str, lenD_s, lenD_l, lenD_r, lenD_t, lenD_c, min2D_ii, max2D_ii, intD_i, intD_b, strD_i, sumD_l, sumD_c, sumD_t, maxD_c, tupleD_l, tupleD_t, tupleD_c, listD_l, listD_t,
 ixD_l, ixD_r, ixD_t, ixD_s, ixD_c, slD_s, slD_l, slD_r, putIx_c, appendD_c, extendD_cl, isTy_c, isTy_s, isTy_l, iaddD, atI_0, atI_1, atI_2, atI_3, atI_4, low_int, low_str, low_bl, low_non, anyI_l, anyI_r, anyI_t, anyI_s, rng1I_i, rng2I_ii, ixN5, set_concat, get_concat, take_concat, len_concat, notInD_cs, inD_cs, sindexD_s, intD_s, tyN_s, tyN_i, tyN_b, tyN_n, tyN_t, tyN_l, tyIs_t, zipI_tt,
 startD, List.map_cons, List.map_nil, List.length_cons, List.length_nil, List.cons_append, List.nil_append, List.getElem?_cons_zero, List.getElem?_cons_succ, List.set_cons_zero, List.set_cons_succ, List.replicate_succ, List.replicate_zero, Option.bind_some, if_true, if_false, Bool.true_and, Bool.false_and, Bool.and_true, Bool.not_true, Bool.not_false, decide_true, decide_false, eq_self, Nat.zero_add, Nat.reduceAdd, Nat.reduceSub, reduceIte, reduceCtorEq, Int.reduceEq, Bool.false_eq_true, true_and, and_true, true_or, or_true, decide_eq_true_eq, btB, i1, i2', tkD]
        rfl
      | o =>
        rw [runT]
        · simp only [Bd, seqS, setS, retS, retN, dropS, ifS, forS, putS, augS, nxS, bkS, ctS, SR.seq_nx, SR.seq_rt, SR.seq_exc, SR.seq_bk, SR.seq_ct, SR.turn_nx, SR.turn_ct, SR.turn_bk, SR.turn_rt, SR.turn_exc, R.bind_ok, R.bind_bad, R.bind_exc, R.bindN_ok, R.st_ok, R.st_exc,
 varE, cE, binF, tstF, chnF, andB, orB, notB, andV, orV, notV, ifE, nilF, consF, tupF, lstF, ownF, negF, noO, someO, slF, callF, appF, isiF, mthF, itF, itA, nmG, nilG, consG, tupG, yesB, wipeD,
 addD_ii, addD_ss, addD_ll, subD_ii, mulD_ii, mulD_li, mulD_si, fdivD_ii, modD_ii, powD_10_18, ltD_ii, leD_ii, gtD_ii, geD_ii, gtD_ss, ltD_ss, eqD_ii, eqD_ss, eqD_bb, neD_ii, neD_ss, isBD_bb, isND_non, isND_int, isND_str, notND_non, notND_int, notND_str, lenD_s, lenD_l, lenD_r, lenD_t, lenD_c, min2D_ii, max2D_ii, intD_i, intD_b, strD_i, sumD_l, sumD_c, sumD_t, maxD_c, tupleD_l, tupleD_t, tupleD_c, listD_l, listD_t,
 ixD_l, ixD_r, ixD_t, ixD_s, ixD_c, slD_s, slD_l, slD_r, putIx_c, appendD_c, extendD_cl, isTy_c, isTy_s, isTy_l, iaddD, atI_0, atI_1, atI_2, atI_3, atI_4, low_int, low_str, low_bl, low_non, anyI_l, anyI_r, anyI_t, anyI_s, rng1I_i, rng2I_ii, ixN5, set_concat, get_concat, take_concat, len_concat, notInD_cs, inD_cs, sindexD_s, intD_s, tyN_s, tyN_i, tyN_b, tyN_n, tyN_t, tyN_l, tyIs_t, zipI_tt,
 startD, List.map_cons, List.map_nil, List.length_cons, List.length_nil, List.cons_append, List.nil_append, List.getElem?_cons_zero, List.getElem?_cons_succ, List.set_cons_zero, List.set_cons_succ, List.replicate_succ, List.replicate_zero, Option.bind_some, if_true, if_false, Bool.true_and, Bool.false_and, Bool.and_true, Bool.not_true, Bool.not_false, decide_true, decide_false, eq_self, Nat.zero_add, Nat.reduceAdd, Nat.reduceSub, reduceIte, reduceCtorEq, Int.reduceEq, Bool.false_eq_true, true_and, and_true, true_or, or_true, decide_eq_true_eq, btB, i1, i2', tkD, btR]
          all_goals rfl
        all_goals simp
      | _ => cases hbits.2
    | z =>
      cases y with
      | z =>
        rw [runT]
        by_cases hs : 0 < s ∧ s ≤ 9
        · have h0 : (0 : Int) < (s : Nat) := by omega
          have h9 : ((s : Nat) : Int) ≤ 9 := by omega
          rw [if_pos hs, ← next (w ++ [s]) 0 (by simp; omega)]
          have hst : ((toString ((s : Nat) : Int) : String) : Str) = (⟨#[48 + s]⟩ : Str) := by
            have := str_digit (d := (s : Nat)) (by omega) (by omega)
            simpa using this
          have hl2 : NLe (((s : Nat) : Int).natAbs.log2 + 1) 1920 := log2_small (by omega) (by omega)
          have hsz : NLe ((numS w).length + (⟨#[48 + s]⟩ : Str).length) sizeLine := sizeLine_big (by rw [numS_len]; simp [Str.length]; omega)
          simp only [Bd, seqS, setS, retS, retN, dropS, ifS, forS, putS, augS, nxS, bkS, ctS, SR.seq_nx, SR.seq_rt, SR.seq_exc, SR.seq_bk, SR.seq_ct, SR.turn_nx, SR.turn_ct, SR.turn_bk, SR.turn_rt, SR.turn_exc, R.bind_ok, R.bind_bad, R.bind_exc, R.bindN_ok, R.st_ok, R.st_exc,
 varE, cE, binF, tstF, chnF, andB, orB, notB, andV, orV, notV, ifE, nilF, consF, tupF, lstF, ownF, negF, noO, someO, slF, callF, appF, isiF, mthF, itF, itA, nmG, nilG, consG, tupG, yesB, wipeD,
 addD_ii, addD_ss, addD_ll, subD_ii, mulD_ii, mulD_li, mulD_si, fdivD_ii, modD_ii, powD_10_18, ltD_ii, leD_ii, gtD_ii, geD_ii, gtD_ss, ltD_ss, eqD_ii, eqD_ss, eqD_bb, neD_ii, neD_ss, isBD_bb, isND_non, isND_int, isND_str, notND_non, notND_int, notND_str, lenD_s, lenD_l, lenD_r, lenD_t, lenD_c, min2D_ii, max2D_ii, intD_i, intD_b, strD_i, sumD_l, sumD_c, sumD_t, maxD_c, tupleD_l, tupleD_t, tupleD_c, listD_l, listD_t,
 ixD_l, ixD_r, ixD_t, ixD_s, ixD_c, slD_s, slD_l, slD_r, putIx_c, appendD_c, extendD_cl, isTy_c, isTy_s, isTy_l, iaddD, atI_0, atI_1, atI_2, atI_3, atI_4, low_int, low_str, low_bl, low_non, anyI_l, anyI_r, anyI_t, anyI_s, rng1I_i, rng2I_ii, ixN5, set_concat, get_concat, take_concat, len_concat, notInD_cs, inD_cs, sindexD_s, intD_s, tyN_s, tyN_i, tyN_b, tyN_n, tyN_t, tyN_l, tyIs_t, zipI_tt,
 startD, List.map_cons, List.map_nil, List.length_cons, List.length_nil, List.cons_append, List.nil_append, List.getElem?_cons_zero, List.getElem?_cons_succ, List.set_cons_zero, List.set_cons_succ, List.replicate_succ, List.replicate_zero, Option.bind_some, if_true, if_false, Bool.true_and, Bool.false_and, Bool.and_true, Bool.not_true, Bool.not_false, decide_true, decide_false, eq_self, Nat.zero_add, Nat.reduceAdd, Nat.reduceSub, reduceIte, reduceCtorEq, Int.reduceEq, Bool.false_eq_true, true_and, and_true, true_or, or_true, decide_eq_true_eq, btB, i1, i2', tkD, h0, h9, hl2, hst, hsz, numS_snoc]
          all_goals rfl
        · rw [if_neg hs]
          by_cases h0 : (0 : Int) < (s : Nat)
          · have h9 : ¬ ((s : Nat) : Int) ≤ 9 := by omega
            simp only [Bd, seqS, setS, retS, retN, dropS, ifS, forS, putS, augS, nxS, bkS, ctS, SR.seq_nx, SR.seq_rt, SR.seq_exc, SR.seq_bk, SR.seq_ct, SR.turn_nx, SR.turn_ct, SR.turn_bk, SR.turn_rt, SR.turn_exc, R.bind_ok, R.bind_bad, R.bind_exc, R.bindN_ok, R.st_ok, R.st_exc,
 varE, cE, binF, tstF, chnF, andB, orB, notB, andV, orV, notV, ifE, nilF, consF, tupF, lstF, ownF, negF, noO, someO, slF, callF, appF, isiF, mthF, itF, itA, nmG, nilG, consG, tupG, yesB, wipeD,
 addD_ii, addD_ss, addD_ll, subD_ii, mulD_ii, mulD_li, mulD_si, fdivD_ii, modD_ii, powD_10_18, ltD_ii, leD_ii, gtD_ii, geD_ii, gtD_ss, ltD_ss, eqD_ii, eqD_ss, eqD_bb, neD_ii, neD_ss, isBD_bb, isND_non, isND_int, isND_str, notND_non, notND_int, notND_str, lenD_s, lenD_l, lenD_r, lenD_t, lenD_c, min2D_ii, max2D_ii, intD_i, intD_b, strD_i, sumD_l, sumD_c, sumD_t, maxD_c, tupleD_l, tupleD_t, tupleD_c, listD_l, listD_t,
 ixD_l, ixD_r, ixD_t, ixD_s, ixD_c, slD_s, slD_l, slD_r, putIx_c, appendD_c, extendD_cl, isTy_c, isTy_s, isTy_l, iaddD, atI_0, atI_1, atI_2, atI_3, atI_4, low_int, low_str, low_bl, low_non, anyI_l, anyI_r, anyI_t, anyI_s, rng1I_i, rng2I_ii, ixN5, set_concat, get_concat, take_concat, len_concat, notInD_cs, inD_cs, sindexD_s, intD_s, tyN_s, tyN_i, tyN_b, tyN_n, tyN_t, tyN_l, tyIs_t, zipI_tt,
 startD, List.map_cons, List.map_nil, List.length_cons, List.length_nil, List.cons_append, List.nil_append, List.getElem?_cons_zero, List.getElem?_cons_succ, List.set_cons_zero, List.set_cons_succ, List.replicate_succ, List.replicate_zero, Option.bind_some, if_true, if_false, Bool.true_and, Bool.false_and, Bool.and_true, Bool.not_true, Bool.not_false, decide_true, decide_false, eq_self, Nat.zero_add, Nat.reduceAdd, Nat.reduceSub, reduceIte, reduceCtorEq, Int.reduceEq, Bool.false_eq_true, true_and, and_true, true_or, or_true, decide_eq_true_eq, btB, i1, i2', tkD, h0, h9, btR]
            all_goals rfl
          · simp only [Bd, seqS, setS, retS, retN, dropS, ifS, forS, putS, augS, nxS, bkS, ctS, SR.seq_nx, SR.seq_rt, SR.seq_exc, SR.seq_bk, SR.seq_ct, SR.turn_nx, SR.turn_ct, SR.turn_bk, SR.turn_rt, SR.turn_exc, R.bind_ok, R.bind_bad, R.bind_exc, R.bindN_ok, R.st_ok, R.st_exc,
 varE, cE, binF, tstF, chnF, andB, orB, notB, andV, orV, notV, ifE, nilF, consF, tupF, lstF, ownF, negF, noO, someO, slF, callF, appF, isiF, mthF, itF, itA, nmG, nilG, consG, tupG, yesB, wipeD,
 addD_ii, addD_ss, addD_ll, subD_ii, mulD_ii, mulD_li, mulD_si, fdivD_ii, modD_ii, powD_10_18, ltD_ii, leD_ii, gtD_ii, geD_ii, gtD_ss, ltD_ss, eqD_ii, eqD_ss, eqD_bb, neD_ii, neD_ss, isBD_bb, isND_non, isND_int, isND_str, notND_non, notND_int, notND_str, lenD_s, lenD_l, lenD_r, lenD_t, lenD_c, min2D_ii, max2D_ii, intD_i, intD_b, strD_i, sumD_l, sumD_c, sumD_t, maxD_c, tupleD_l, tupleD_t, tupleD_c, listD_l, listD_t,
 ixD_l, ixD_r, ixD_t, ixD_s, ixD_c, slD_s, slD_l, slD_r, putIx_c, appendD_c, extendD_cl, isTy_c, isTy_s, isTy_l, iaddD, atI_0, atI_1, atI_2, atI_3, atI_4, low_int, low_str, low_bl, low_non, anyI_l, anyI_r, anyI_t, anyI_s, rng1I_i, rng2I_ii, ixN5, set_concat, get_concat, take_concat, len_concat, notInD_cs, inD_cs, sindexD_s, intD_s, tyN_s, tyN_i, tyN_b, tyN_n, tyN_t, tyN_l, tyIs_t, zipI_tt,
 startD, List.map_cons, List.map_nil, List.length_cons, List.length_nil, List.cons_append, List.nil_append, List.getElem?_cons_zero, List.getElem?_cons_succ, List.set_cons_zero, List.set_cons_succ, List.replicate_succ, List.replicate_zero, Option.bind_some, if_true, if_false, Bool.true_and, Bool.false_and, Bool.and_true, Bool.not_true, Bool.not_false, decide_true, decide_false, eq_self, Nat.zero_add, Nat.reduceAdd, Nat.reduceSub, reduceIte, reduceCtorEq, Int.reduceEq, Bool.false_eq_true, true_and, and_true, true_or, or_true, decide_eq_true_eq, btB, i1, i2', tkD, h0, btR]
            all_goals rfl
      | o =>
        rw [runT]
        · simp only [Bd, seqS, setS, retS, retN, dropS, ifS, forS, putS, augS, nxS, bkS, ctS, SR.seq_nx, SR.seq_rt, SR.seq_exc, SR.seq_bk, SR.seq_ct, SR.turn_nx, SR.turn_ct, SR.turn_bk, SR.turn_rt, SR.turn_exc, R.bind_ok, R.bind_bad, R.bind_exc, R.bindN_ok, R.st_ok, R.st_exc,
 varE, cE, binF, tstF, chnF, andB, orB, notB, andV, orV, notV, ifE, nilF, consF, tupF, lstF, ownF, negF, noO, someO, slF, callF, appF, isiF, mthF, itF, itA, nmG, nilG, consG, tupG, yesB, wipeD,
 addD_ii, addD_ss, addD_ll, subD_ii, mulD_ii, mulD_li, mulD_si, fdivD_ii, modD_ii, powD_10_18, ltD_ii, leD_ii, gtD_ii, geD_ii, gtD_ss, ltD_ss, eqD_ii, eqD_ss, eqD_bb, neD_ii, neD_ss, isBD_bb, isND_non, isND_int, isND_str, notND_non, notND_int, notND_str, lenD_s, lenD_l, lenD_r, lenD_t, lenD_c, min2D_ii, max2D_ii, intD_i, intD_b, strD_i, sumD_l, sumD_c, sumD_t, maxD_c, tupleD_l, tupleD_t, tupleD_c, listD_l, listD_t,
 ixD_l, ixD_r, ixD_t, ixD_s, ixD_c, slD_s, slD_l, slD_r, putIx_c, appendD_c, extendD_cl, isTy_c, isTy_s, isTy_l, iaddD, atI_0, atI_1, atI_2, atI_3, atI_4, low_int, low_str, low_bl, low_non, anyI_l, anyI_r, anyI_t, anyI_s, rng1I_i, rng2I_ii, ixN5, set_concat, get_concat, take_concat, len_concat, notInD_cs, inD_cs, sindexD_s, intD_s, tyN_s, tyN_i, tyN_b, tyN_n, tyN_t, tyN_l, tyIs_t, zipI_tt,
 startD, List.map_cons, List.map_nil, List.length_cons, List.length_nil, List.cons_append, List.nil_append, List.getElem?_cons_zero, List.getElem?_cons_succ, List.set_cons_zero, List.set_cons_succ, List.replicate_succ, List.replicate_zero, Option.bind_some, if_true, if_false, Bool.true_and, Bool.false_and, Bool.and_true, Bool.not_true, Bool.not_false, decide_true, decide_false, eq_self, Nat.zero_add, Nat.reduceAdd, Nat.reduceSub, reduceIte, reduceCtorEq, Int.reduceEq, Bool.false_eq_true, true_and, and_true, true_or, or_true, decide_eq_true_eq, btB, i1, i2', tkD, btR]
          all_goals rfl
        all_goals simp
      | _ => cases hbits.2
    | _ => cases hbits.1
theorem block_text_bits (b : Bool) (l : List Tk) (S : Sto) (hb : l.all bitT = true) (hz : l.length ≤ 90000) : F_block_text [Rw b l] S = .ok (optD (match runT l [] 0 with | some (w, 0, 0) => some w | _ => none)) S := by
  unfold F_block_text fnF g_block_text
  have e : whileL btT btB 100000 [some (Rw b l), some (.str ""), some (.int 0), some (.int 0)] S = btR b l S (runT l [] 0) := bt_loop b S 100000 [] l [] 0 (by omega) (by simpa using hb) (Nat.le_refl _) (by simp; omega)
  unfold btT btB at e
  cases hr : runT l [] 0 with
  | none =>
    rw [hr] at e
    simp only [btR] at e
    simp only [Bd, seqS, setS, retS, retN, dropS, ifS, forS, putS, augS, nxS, bkS, ctS, SR.seq_nx, SR.seq_rt, SR.seq_exc, SR.seq_bk, SR.seq_ct, SR.turn_nx, SR.turn_ct, SR.turn_bk, SR.turn_rt, SR.turn_exc, R.bind_ok, R.bind_bad, R.bind_exc, R.bindN_ok, R.st_ok, R.st_exc,
 varE, cE, binF, tstF, chnF, andB, orB, notB, andV, orV, notV, ifE, nilF, consF, tupF, lstF, ownF, negF, noO, someO, slF, callF, appF, isiF, mthF, itF, itA, nmG, nilG, consG, tupG, yesB, wipeD,
 addD_ii, addD_ss, addD_ll, subD_ii, mulD_ii, mulD_li, mulD_si, fdivD_ii, modD_ii, powD_10_18, ltD_ii, leD_ii, gtD_ii, geD_ii, gtD_ss, ltD_ss, eqD_ii, eqD_ss, eqD_bb, neD_ii, neD_ss, isBD_bb, isND_non, isND_int, isND_str, notND_non, notND_int, notND_str, lenD_s, lenD_l, lenD_r, lenD_t, lenD_c, min2D_ii, max2D_ii, intD_i, intD_b, strD_i, sumD_l, sumD_c, sumD_t, maxD_c, tupleD_l, tupleD_t, tupleD_c, listD_l, listD_t,
 ixD_l, ixD_r, ixD_t, ixD_s, ixD_c, slD_s, slD_l, slD_r, putIx_c, appendD_c, extendD_cl, isTy_c, isTy_s, isTy_l, iaddD, atI_0, atI_1, atI_2, atI_3, atI_4, low_int, low_str, low_bl, low_non, anyI_l, anyI_r, anyI_t, anyI_s, rng1I_i, rng2I_ii, ixN5, set_concat, get_concat, take_concat, len_concat, notInD_cs, inD_cs, sindexD_s, intD_s, tyN_s, tyN_i, tyN_b, tyN_n, tyN_t, tyN_l, tyIs_t, zipI_tt,
 startD, List.map_cons, List.map_nil, List.length_cons, List.length_nil, List.cons_append, List.nil_append, List.getElem?_cons_zero, List.getElem?_cons_succ, List.set_cons_zero, List.set_cons_succ, List.replicate_succ, List.replicate_zero, Option.bind_some, if_true, if_false, Bool.true_and, Bool.false_and, Bool.and_true, Bool.not_true, Bool.not_false, decide_true, decide_false, eq_self, Nat.zero_add, Nat.reduceAdd, Nat.reduceSub, reduceIte, reduceCtorEq, Int.reduceEq, Bool.false_eq_true, true_and, and_true, true_or, or_true, decide_eq_true_eq, e, leave_rt, fz_non, List.take_length, optD]
  | some q =>
    obtain ⟨w, sz, k⟩ := q
    have hk := run_left l [] 0 hr
    rw [hr] at e
    simp only [btR] at e
    by_cases h1 : k = 0
    · subst h1
      have e1 : ¬ (((l.length - 0 : Nat) : Nat) : Int) < (l.length : Nat) := by omega
      by_cases h2 : sz = 0
      · subst h2
        have e2 : ¬ (0 : Int) < ((0 : Nat) : Int) := by decide
        simp only [Bd, seqS, setS, retS, retN, dropS, ifS, forS, putS, augS, nxS, bkS, ctS, SR.seq_nx, SR.seq_rt, SR.seq_exc, SR.seq_bk, SR.seq_ct, SR.turn_nx, SR.turn_ct, SR.turn_bk, SR.turn_rt, SR.turn_exc, R.bind_ok, R.bind_bad, R.bind_exc, R.bindN_ok, R.st_ok, R.st_exc,
 varE, cE, binF, tstF, chnF, andB, orB, notB, andV, orV, notV, ifE, nilF, consF, tupF, lstF, ownF, negF, noO, someO, slF, callF, appF, isiF, mthF, itF, itA, nmG, nilG, consG, tupG, yesB, wipeD,
 addD_ii, addD_ss, addD_ll, subD_ii, mulD_ii, mulD_li, mulD_si, fdivD_ii, modD_ii, powD_10_18, ltD_ii, leD_ii, gtD_ii, geD_ii, gtD_ss, ltD_ss, eqD_ii, eqD_ss, eqD_bb, neD_ii, neD_ss, isBD_bb, isND_non, isND_int, isND_str, notND_non, notND_int, notND_str, lenD_s, lenD_l, lenD_r, lenD_t, lenD_c, min2D_ii, max2D_ii, intD_i, intD_b, strD_i, sumD_l, sumD_c, sumD_t, maxD_c, tupleD_l, tupleD_t, tupleD_c, listD_l, listD_t,
 ixD_l, ixD_r, ixD_t, ixD_s, ixD_c, slD_s, slD_l, slD_r, putIx_c, appendD_c, extendD_cl, isTy_c, isTy_s, isTy_l, iaddD, atI_0, atI_1, atI_2, atI_3, atI_4, low_int, low_str, low_bl, low_non, anyI_l, anyI_r, anyI_t, anyI_s, rng1I_i, rng2I_ii, ixN5, set_concat, get_concat, take_concat, len_concat, notInD_cs, inD_cs, sindexD_s, intD_s, tyN_s, tyN_i, tyN_b, tyN_n, tyN_t, tyN_l, tyIs_t, zipI_tt,
 startD, List.map_cons, List.map_nil, List.length_cons, List.length_nil, List.cons_append, List.nil_append, List.getElem?_cons_zero, List.getElem?_cons_succ, List.set_cons_zero, List.set_cons_succ, List.replicate_succ, List.replicate_zero, Option.bind_some, if_true, if_false, Bool.true_and, Bool.false_and, Bool.and_true, Bool.not_true, Bool.not_false, decide_true, decide_false, eq_self, Nat.zero_add, Nat.reduceAdd, Nat.reduceSub, reduceIte, reduceCtorEq, Int.reduceEq, Bool.false_eq_true, true_and, and_true, true_or, or_true, decide_eq_true_eq, e, rw_len, e1, e2, leave_rt, fz_str, List.take_length, optD]
      · have e2 : (0 : Int) < (sz : Nat) := by omega
        have e3 : (match some (w, sz, 0) with | some (w, 0, 0) => some w | _ => none) = none := by
          cases sz with
          | zero => exact absurd rfl h2
          | succ n => rfl
        simp only [Bd, seqS, setS, retS, retN, dropS, ifS, forS, putS, augS, nxS, bkS, ctS, SR.seq_nx, SR.seq_rt, SR.seq_exc, SR.seq_bk, SR.seq_ct, SR.turn_nx, SR.turn_ct, SR.turn_bk, SR.turn_rt, SR.turn_exc, R.bind_ok, R.bind_bad, R.bind_exc, R.bindN_ok, R.st_ok, R.st_exc,
 varE, cE, binF, tstF, chnF, andB, orB, notB, andV, orV, notV, ifE, nilF, consF, tupF, lstF, ownF, negF, noO, someO, slF, callF, appF, isiF, mthF, itF, itA, nmG, nilG, consG, tupG, yesB, wipeD,
 addD_ii, addD_ss, addD_ll, subD_ii, mulD_ii, mulD_li, mulD_si, fdivD_ii, modD_ii, powD_10_18, ltD_ii, leD_ii, gtD_ii, geD_ii, gtD_ss, ltD_ss, eqD_ii, eqD_ss, eqD_bb, neD_ii, neD_ss, isBD_bb, isND_non, isND_int, isND_str, notND_non, notND_int, notND_str, lenD_s, lenD_l, lenD_r, lenD_t, lenD_c, min2D_ii, max2D_ii, intD_i, intD_b, strD_i, sumD_l, sumD_c, sumD_t, maxD_c, tupleD_l, tupleD_t, tupleD_c, listD_l, listD_t,
 ixD_l, ixD_r, ixD_t, ixD_s, ixD_c, slD_s, slD_l, slD_r, putIx_c, appendD_c, extendD_cl, isTy_c, isTy_s, isTy_l, iaddD, atI_0, atI_1, atI_2, atI_3, atI_4, low_int, low_str, low_bl, low_non, anyI_l, anyI_r, anyI_t, anyI_s, rng1I_i, rng2I_ii, ixN5, set_concat, get_concat, take_concat, len_concat, notInD_cs, inD_cs, sindexD_s, intD_s, tyN_s, tyN_i, tyN_b, tyN_n, tyN_t, tyN_l, tyIs_t, zipI_tt,
 startD, List.map_cons, List.map_nil, List.length_cons, List.length_nil, List.cons_append, List.nil_append, List.getElem?_cons_zero, List.getElem?_cons_succ, List.set_cons_zero, List.set_cons_succ, List.replicate_succ, List.replicate_zero, Option.bind_some, if_true, if_false, Bool.true_and, Bool.false_and, Bool.and_true, Bool.not_true, Bool.not_false, decide_true, decide_false, eq_self, Nat.zero_add, Nat.reduceAdd, Nat.reduceSub, reduceIte, reduceCtorEq, Int.reduceEq, Bool.false_eq_true, true_and, and_true, true_or, or_true, decide_eq_true_eq, e, rw_len, e1, e2, leave_rt, fz_non, List.take_length, optD]
        cases sz with
        | zero => exact absurd rfl h2
        | succ n => rfl
    · have e1 : (((l.length - k : Nat) : Nat) : Int) < (l.length : Nat) := by omega
      simp only [Bd, seqS, setS, retS, retN, dropS, ifS, forS, putS, augS, nxS, bkS, ctS, SR.seq_nx, SR.seq_rt, SR.seq_exc, SR.seq_bk, SR.seq_ct, SR.turn_nx, SR.turn_ct, SR.turn_bk, SR.turn_rt, SR.turn_exc, R.bind_ok, R.bind_bad, R.bind_exc, R.bindN_ok, R.st_ok, R.st_exc,
 varE, cE, binF, tstF, chnF, andB, orB, notB, andV, orV, notV, ifE, nilF, consF, tupF, lstF, ownF, negF, noO, someO, slF, callF, appF, isiF, mthF, itF, itA, nmG, nilG, consG, tupG, yesB, wipeD,
 addD_ii, addD_ss, addD_ll, subD_ii, mulD_ii, mulD_li, mulD_si, fdivD_ii, modD_ii, powD_10_18, ltD_ii, leD_ii, gtD_ii, geD_ii, gtD_ss, ltD_ss, eqD_ii, eqD_ss, eqD_bb, neD_ii, neD_ss, isBD_bb, isND_non, isND_int, isND_str, notND_non, notND_int, notND_str, lenD_s, lenD_l, lenD_r, lenD_t, lenD_c, min2D_ii, max2D_ii, intD_i, intD_b, strD_i, sumD_l, sumD_c, sumD_t, maxD_c, tupleD_l, tupleD_t, tupleD_c, listD_l, listD_t,
 ixD_l, ixD_r, ixD_t, ixD_s, ixD_c, slD_s, slD_l, slD_r, putIx_c, appendD_c, extendD_cl, isTy_c, isTy_s, isTy_l, iaddD, atI_0, atI_1, atI_2, atI_3, atI_4, low_int, low_str, low_bl, low_non, anyI_l, anyI_r, anyI_t, anyI_s, rng1I_i, rng2I_ii, ixN5, set_concat, get_concat, take_concat, len_concat, notInD_cs, inD_cs, sindexD_s, intD_s, tyN_s, tyN_i, tyN_b, tyN_n, tyN_t, tyN_l, tyIs_t, zipI_tt,
 startD, List.map_cons, List.map_nil, List.length_cons, List.length_nil, List.cons_append, List.nil_append, List.getElem?_cons_zero, List.getElem?_cons_succ, List.set_cons_zero, List.set_cons_succ, List.replicate_succ, List.replicate_zero, Option.bind_some, if_true, if_false, Bool.true_and, Bool.false_and, Bool.and_true, Bool.not_true, Bool.not_false, decide_true, decide_false, eq_self, Nat.zero_add, Nat.reduceAdd, Nat.reduceSub, reduceIte, reduceCtorEq, Int.reduceEq, Bool.false_eq_true, true_and, and_true, true_or, or_true, decide_eq_true_eq, e, rw_len, e1, leave_rt, fz_non, List.take_length, optD]
      cases k with
      | zero => exact absurd rfl h1
      | succ n => cases sz <;> rfl

/-! ### number_of -/
theorem numB_dig {w : List Nat} (h : ∀ d ∈ w, 1 ≤ d ∧ d ≤ 9) : numB (numS w) = true ↔ IsNum w := by
  constructor
  · intro e
    unfold numB at e
    rw [numS_len, numS_list, numS_okSign h, numS_vals, sum_cast] at e
    simp only [Bool.and_eq_true, decide_eq_true_eq] at e
    exact ⟨h, e.1.1.1, e.1.1.2, by omega⟩
  · exact numB_num
theorem nin_tk (k : Tk) (S : Sto) (h : plainT k = true) : notInD (tkD k) (.tup [.int 0, .int 1]) S = .ok (.bl (!bitT k)) S := by
  cases k <;> first | rfl | cases h
noncomputable def noB : SF := (ifS (orB (notB (tstF (callF 1 F_is_whole (consF (varE 1) nilF)))) (tstF (binF notInD (varE 1) (tupF (consF (cE (.int 0)) (consF (cE (.int 1)) nilF)))))) (retS (cE .non)) nxS)
theorem no_loop (x : D) (S : Sto) : ∀ (l : List Tk) (u : Option D), (l.all bitT = true ∧ ∃ v, forL (nmG 1) noB (tks l) [some x, u, none] S = .nx [some x, v, none] S) ∨ (l.all bitT = false ∧ forL (nmG 1) noB (tks l) [some x, u, none] S = .rt .non S)
  | [], u => .inl ⟨rfl, u, rfl⟩
  | k :: l, u => by
    have s2 : NLe 2 sizeLine := sizeLine_big (by decide)
    have e1 : forL (nmG 1) noB (tks (k :: l)) [some x, u, none] S = if bitT k then forL (nmG 1) noB (tks l) [some x, some (tkD k), none] S else .rt .non S := by
      show forL (nmG 1) noB (tkD k :: tks l) _ _ = _
      rw [forL_cons (ρ1 := [some x, some (tkD k), none]) rfl]
      cases hk : plainT k with
      | false =>
        have hb : bitT k = false := by cases k <;> first | rfl | cases hk
        rw [hb]
        simp only [Bd, seqS, setS, retS, retN, dropS, ifS, forS, putS, augS, nxS, bkS, ctS, SR.seq_nx, SR.seq_rt, SR.seq_exc, SR.seq_bk, SR.seq_ct, SR.turn_nx, SR.turn_ct, SR.turn_bk, SR.turn_rt, SR.turn_exc, R.bind_ok, R.bind_bad, R.bind_exc, R.bindN_ok, R.st_ok, R.st_exc,
 varE, cE, binF, tstF, chnF, andB, orB, notB, andV, orV, notV, ifE, nilF, consF, tupF, lstF, ownF, negF, noO, someO, slF, callF, appF, isiF, mthF, itF, itA, nmG, nilG, consG, tupG, yesB, wipeD,
 addD_ii, addD_ss, addD_ll, subD_ii, mulD_ii, mulD_li, mulD_si, fdivD_ii, modD_ii, powD_10_18, ltD_ii, leD_ii, gtD_ii, geD_ii, gtD_ss, ltD_ss, eqD_ii, eqD_ss, eqD_bb, neD_ii, neD_ss, isBD_bb, isND_non, isND_int, isND_str, notND_non, notND_int, notND_str, lenD_s, lenD_l, lenD_r, lenD_t, lenD_c, min2D_ii, max2D_ii, intD_i, intD_b, strD_i, sumD_l, sumD_c, sumD_t, maxD_c, tupleD_l, tupleD_t, tupleD_c, listD_l, listD_t,
 ixD_l, ixD_r, ixD_t, ixD_s, ixD_c, slD_s, slD_l, slD_r, putIx_c, appendD_c, extendD_cl, isTy_c, isTy_s, isTy_l, iaddD, atI_0, atI_1, atI_2, atI_3, atI_4, low_int, low_str, low_bl, low_non, anyI_l, anyI_r, anyI_t, anyI_s, rng1I_i, rng2I_ii, ixN5, set_concat, get_concat, take_concat, len_concat, notInD_cs, inD_cs, sindexD_s, intD_s, tyN_s, tyN_i, tyN_b, tyN_n, tyN_t, tyN_l, tyIs_t, zipI_tt,
 startD, List.map_cons, List.map_nil, List.length_cons, List.length_nil, List.cons_append, List.nil_append, List.getElem?_cons_zero, List.getElem?_cons_succ, List.set_cons_zero, List.set_cons_succ, List.replicate_succ, List.replicate_zero, Option.bind_some, if_true, if_false, Bool.true_and, Bool.false_and, Bool.and_true, Bool.not_true, Bool.not_false, decide_true, decide_false, eq_self, Nat.zero_add, Nat.reduceAdd, Nat.reduceSub, reduceIte, reduceCtorEq, Int.reduceEq, Bool.false_eq_true, true_and, and_true, true_or, or_true, decide_eq_true_eq, noB, whole_tk, hk]
      | true =>
        cases hb : bitT k with
        | true => simp only [Bd, seqS, setS, retS, retN, dropS, ifS, forS, putS, augS, nxS, bkS, ctS, SR.seq_nx, SR.seq_rt, SR.seq_exc, SR.seq_bk, SR.seq_ct, SR.turn_nx, SR.turn_ct, SR.turn_bk, SR.turn_rt, SR.turn_exc, R.bind_ok, R.bind_bad, R.bind_exc, R.bindN_ok, R.st_ok, R.st_exc,
 varE, cE, binF, tstF, chnF, andB, orB, notB, andV, orV, notV, ifE, nilF, consF, tupF, lstF, ownF, negF, noO, someO, slF, callF, appF, isiF, mthF, itF, itA, nmG, nilG, consG, tupG, yesB, wipeD,
 addD_ii, addD_ss, addD_ll, subD_ii, mulD_ii, mulD_li, mulD_si, fdivD_ii, modD_ii, powD_10_18, ltD_ii, leD_ii, gtD_ii, geD_ii, gtD_ss, ltD_ss, eqD_ii, eqD_ss, eqD_bb, neD_ii, neD_ss, isBD_bb, isND_non, isND_int, isND_str, notND_non, notND_int, notND_str, lenD_s, lenD_l, lenD_r, lenD_t, lenD_c, min2D_ii, max2D_ii, intD_i, intD_b, strD_i, sumD_l, sumD_c, sumD_t, maxD_c, tupleD_l, tupleD_t, tupleD_c, listD_l, listD_t,
 ixD_l, ixD_r, ixD_t, ixD_s, ixD_c, slD_s, slD_l, slD_r, putIx_c, appendD_c, extendD_cl, isTy_c, isTy_s, isTy_l, iaddD, atI_0, atI_1, atI_2, atI_3, atI_4, low_int, low_str, low_bl, low_non, anyI_l, anyI_r, anyI_t, anyI_s, rng1I_i, rng2I_ii, ixN5, set_concat, get_concat, take_concat, len_concat, notInD_cs, inD_cs, sindexD_s, intD_s, tyN_s, tyN_i, tyN_b, tyN_n, tyN_t, tyN_l, tyIs_t, zipI_tt,
 startD, List.map_cons, List.map_nil, List.length_cons, List.length_nil, List.cons_append, List.nil_append, List.getElem?_cons_zero, List.getElem?_cons_succ, List.set_cons_zero, List.set_cons_succ, List.replicate_succ, List.replicate_zero, Option.bind_some, if_true, if_false, Bool.true_and, Bool.false_and, Bool.and_true, Bool.not_true, Bool.not_false, decide_true, decide_false, eq_self, Nat.zero_add, Nat.reduceAdd, Nat.reduceSub, reduceIte, reduceCtorEq, Int.reduceEq, Bool.false_eq_true, true_and, and_true, true_or, or_true, decide_eq_true_eq, noB, whole_tk, hk, s2, nin_tk k S hk, hb]
        | false => simp only [Bd, seqS, setS, retS, retN, dropS, ifS, forS, putS, augS, nxS, bkS, ctS, SR.seq_nx, SR.seq_rt, SR.seq_exc, SR.seq_bk, SR.seq_ct, SR.turn_nx, SR.turn_ct, SR.turn_bk, SR.turn_rt, SR.turn_exc, R.bind_ok, R.bind_bad, R.bind_exc, R.bindN_ok, R.st_ok, R.st_exc,
 varE, cE, binF, tstF, chnF, andB, orB, notB, andV, orV, notV, ifE, nilF, consF, tupF, lstF, ownF, negF, noO, someO, slF, callF, appF, isiF, mthF, itF, itA, nmG, nilG, consG, tupG, yesB, wipeD,
 addD_ii, addD_ss, addD_ll, subD_ii, mulD_ii, mulD_li, mulD_si, fdivD_ii, modD_ii, powD_10_18, ltD_ii, leD_ii, gtD_ii, geD_ii, gtD_ss, ltD_ss, eqD_ii, eqD_ss, eqD_bb, neD_ii, neD_ss, isBD_bb, isND_non, isND_int, isND_str, notND_non, notND_int, notND_str, lenD_s, lenD_l, lenD_r, lenD_t, lenD_c, min2D_ii, max2D_ii, intD_i, intD_b, strD_i, sumD_l, sumD_c, sumD_t, maxD_c, tupleD_l, tupleD_t, tupleD_c, listD_l, listD_t,
 ixD_l, ixD_r, ixD_t, ixD_s, ixD_c, slD_s, slD_l, slD_r, putIx_c, appendD_c, extendD_cl, isTy_c, isTy_s, isTy_l, iaddD, atI_0, atI_1, atI_2, atI_3, atI_4, low_int, low_str, low_bl, low_non, anyI_l, anyI_r, anyI_t, anyI_s, rng1I_i, rng2I_ii, ixN5, set_concat, get_concat, take_concat, len_concat, notInD_cs, inD_cs, sindexD_s, intD_s, tyN_s, tyN_i, tyN_b, tyN_n, tyN_t, tyN_l, tyIs_t, zipI_tt,
 startD, List.map_cons, List.map_nil, List.length_cons, List.length_nil, List.cons_append, List.nil_append, List.getElem?_cons_zero, List.getElem?_cons_succ, List.set_cons_zero, List.set_cons_succ, List.replicate_succ, List.replicate_zero, Option.bind_some, if_true, if_false, Bool.true_and, Bool.false_and, Bool.and_true, Bool.not_true, Bool.not_false, decide_true, decide_false, eq_self, Nat.zero_add, Nat.reduceAdd, Nat.reduceSub, reduceIte, reduceCtorEq, Int.reduceEq, Bool.false_eq_true, true_and, and_true, true_or, or_true, decide_eq_true_eq, noB, whole_tk, hk, s2, nin_tk k S hk, hb]
    rw [e1, List.all_cons]
    cases hb : bitT k with
    | false => exact .inr ⟨rfl, rfl⟩
    | true =>
      rcases no_loop x S l (some (tkD k)) with ⟨h1, v, h2⟩ | ⟨h1, h2⟩
      · exact .inl ⟨by rw [h1]; rfl, v, by rw [if_pos rfl, h2]⟩
      · exact .inr ⟨by rw [h1]; rfl, by rw [if_pos rfl, h2]⟩
theorem two_last {l : List Tk} (h : 2 ≤ l.length) : ∃ p x y, l = p ++ [x, y] := by
  refine ⟨l.take (l.length - 2), l[l.length - 2], l[l.length - 1], ?_⟩
  have e : l = l.take (l.length - 2) ++ l.drop (l.length - 2) := (List.take_append_drop _ _).symm
  have e2 : l.drop (l.length - 2) = [l[l.length - 2], l[l.length - 1]] := by
    rw [List.drop_eq_getElem_cons (by omega), List.drop_eq_getElem_cons (by omega), List.drop_of_length_le (by omega)]
    congr 2
    congr 1
    omega
  rw [← e2]; exact e
theorem number_of_row (b : Bool) (row : List Tk) (S : Sto) (hz : row.length ≤ 90000) : ∃ r, F_number_of [Rw b row] S = .ok (optD r) S ∧ ∀ w, r = some w ↔ IsRow row w := by
  unfold F_number_of fnF g_number_of
  rcases no_loop (Rw b row) S row none with ⟨h1, v, h2⟩ | ⟨h1, h2⟩
  · unfold noB at h2
    by_cases hl : row.length < 2
    · have hl' : ((row.length : Nat) : Int) < 2 := by omega
      refine ⟨none, ?_, fun w => ⟨fun h => (by cases h), fun h => ?_⟩⟩
      · simp only [Bd, seqS, setS, retS, retN, dropS, ifS, forS, putS, augS, nxS, bkS, ctS, SR.seq_nx, SR.seq_rt, SR.seq_exc, SR.seq_bk, SR.seq_ct, SR.turn_nx, SR.turn_ct, SR.turn_bk, SR.turn_rt, SR.turn_exc, R.bind_ok, R.bind_bad, R.bind_exc, R.bindN_ok, R.st_ok, R.st_exc,
 varE, cE, binF, tstF, chnF, andB, orB, notB, andV, orV, notV, ifE, nilF, consF, tupF, lstF, ownF, negF, noO, someO, slF, callF, appF, isiF, mthF, itF, itA, nmG, nilG, consG, tupG, yesB, wipeD,
 addD_ii, addD_ss, addD_ll, subD_ii, mulD_ii, mulD_li, mulD_si, fdivD_ii, modD_ii, powD_10_18, ltD_ii, leD_ii, gtD_ii, geD_ii, gtD_ss, ltD_ss, eqD_ii, eqD_ss, eqD_bb, neD_ii, neD_ss, isBD_bb, isND_non, isND_int, isND_str, notND_non, notND_int, notND_str, lenD_s, lenD_l, lenD_r, lenD_t, lenD_c, min2D_ii, max2D_ii, intD_i, intD_b, strD_i, sumD_l, sumD_c, sumD_t, maxD_c, tupleD_l, tupleD_t, tupleD_c, listD_l, listD_t,
 ixD_l, ixD_r, ixD_t, ixD_s, ixD_c, slD_s, slD_l, slD_r, putIx_c, appendD_c, extendD_cl, isTy_c, isTy_s, isTy_l, iaddD, atI_0, atI_1, atI_2, atI_3, atI_4, low_int, low_str, low_bl, low_non, anyI_l, anyI_r, anyI_t, anyI_s, rng1I_i, rng2I_ii, ixN5, set_concat, get_concat, take_concat, len_concat, notInD_cs, inD_cs, sindexD_s, intD_s, tyN_s, tyN_i, tyN_b, tyN_n, tyN_t, tyN_l, tyIs_t, zipI_tt,
 startD, List.map_cons, List.map_nil, List.length_cons, List.length_nil, List.cons_append, List.nil_append, List.getElem?_cons_zero, List.getElem?_cons_succ, List.set_cons_zero, List.set_cons_succ, List.replicate_succ, List.replicate_zero, Option.bind_some, if_true, if_false, Bool.true_and, Bool.false_and, Bool.and_true, Bool.not_true, Bool.not_false, decide_true, decide_false, eq_self, Nat.zero_add, Nat.reduceAdd, Nat.reduceSub, reduceIte, reduceCtorEq, Int.reduceEq, Bool.false_eq_true, true_and, and_true, true_or, or_true, decide_eq_true_eq, rw_any, h2, rw_len, hl', leave_rt, fz_non, List.take_length, optD]
      · have := h.row
        subst this
        rw [rowT_len] at hl
        omega
    · have hl' : ¬ ((row.length : Nat) : Int) < 2 := by omega
      obtain ⟨p, x, y, rfl⟩ := two_last (l := row) (by omega)
      have i1 : ixD (Rw b (p ++ [x, y])) (.int (-1)) S = .ok (tkD y) S := rw_ix b _ S _ _ (atI_back1 p x y)
      have i2 : ixD (Rw b (p ++ [x, y])) (.int (-2)) S = .ok (tkD x) S := rw_ix b _ S _ _ (atI_back2 p x y)
      have hb := h1
      rw [List.all_append, List.all_cons, List.all_cons] at hb
      simp only [Bool.and_eq_true] at hb
      obtain ⟨hp, hx, hy, _⟩ := hb
      have last : ∀ w, IsRow (p ++ [x, y]) w → x = .z ∧ y = .z ∧ p = flatT w := by
        intro w h
        have e := h.row
        unfold rowT at e
        obtain ⟨e1, e2⟩ := List.append_inj' e rfl
        simp at e2
        exact ⟨e2.1, e2.2, e1⟩
      cases y with
      | o =>
        refine ⟨none, ?_, fun w => ⟨fun h => (by cases h), fun h => (by cases (last w h).2.1)⟩⟩
        simp only [Bd, seqS, setS, retS, retN, dropS, ifS, forS, putS, augS, nxS, bkS, ctS, SR.seq_nx, SR.seq_rt, SR.seq_exc, SR.seq_bk, SR.seq_ct, SR.turn_nx, SR.turn_ct, SR.turn_bk, SR.turn_rt, SR.turn_exc, R.bind_ok, R.bind_bad, R.bind_exc, R.bindN_ok, R.st_ok, R.st_exc,
 varE, cE, binF, tstF, chnF, andB, orB, notB, andV, orV, notV, ifE, nilF, consF, tupF, lstF, ownF, negF, noO, someO, slF, callF, appF, isiF, mthF, itF, itA, nmG, nilG, consG, tupG, yesB, wipeD,
 addD_ii, addD_ss, addD_ll, subD_ii, mulD_ii, mulD_li, mulD_si, fdivD_ii, modD_ii, powD_10_18, ltD_ii, leD_ii, gtD_ii, geD_ii, gtD_ss, ltD_ss, eqD_ii, eqD_ss, eqD_bb, neD_ii, neD_ss, isBD_bb, isND_non, isND_int, isND_str, notND_non, notND_int, notND_str, lenD_s, lenD_l, lenD_r, lenD_t, lenD_c, min2D_ii, max2D_ii, intD_i, intD_b, strD_i, sumD_l, sumD_c, sumD_t, maxD_c, tupleD_l, tupleD_t, tupleD_c, listD_l, listD_t,
 ixD_l, ixD_r, ixD_t, ixD_s, ixD_c, slD_s, slD_l, slD_r, putIx_c, appendD_c, extendD_cl, isTy_c, isTy_s, isTy_l, iaddD, atI_0, atI_1, atI_2, atI_3, atI_4, low_int, low_str, low_bl, low_non, anyI_l, anyI_r, anyI_t, anyI_s, rng1I_i, rng2I_ii, ixN5, set_concat, get_concat, take_concat, len_concat, notInD_cs, inD_cs, sindexD_s, intD_s, tyN_s, tyN_i, tyN_b, tyN_n, tyN_t, tyN_l, tyIs_t, zipI_tt,
 startD, List.map_cons, List.map_nil, List.length_cons, List.length_nil, List.cons_append, List.nil_append, List.getElem?_cons_zero, List.getElem?_cons_succ, List.set_cons_zero, List.set_cons_succ, List.replicate_succ, List.replicate_zero, Option.bind_some, if_true, if_false, Bool.true_and, Bool.false_and, Bool.and_true, Bool.not_true, Bool.not_false, decide_true, decide_false, eq_self, Nat.zero_add, Nat.reduceAdd, Nat.reduceSub, reduceIte, reduceCtorEq, Int.reduceEq, Bool.false_eq_true, true_and, and_true, true_or, or_true, decide_eq_true_eq, rw_any, h2, rw_len, hl', i1, tkD, leave_rt, fz_non, List.take_length, optD]
      | z =>
        cases x with
        | o =>
          refine ⟨none, ?_, fun w => ⟨fun h => (by cases h), fun h => (by cases (last w h).1)⟩⟩
          simp only [Bd, seqS, setS, retS, retN, dropS, ifS, forS, putS, augS, nxS, bkS, ctS, SR.seq_nx, SR.seq_rt, SR.seq_exc, SR.seq_bk, SR.seq_ct, SR.turn_nx, SR.turn_ct, SR.turn_bk, SR.turn_rt, SR.turn_exc, R.bind_ok, R.bind_bad, R.bind_exc, R.bindN_ok, R.st_ok, R.st_exc,
 varE, cE, binF, tstF, chnF, andB, orB, notB, andV, orV, notV, ifE, nilF, consF, tupF, lstF, ownF, negF, noO, someO, slF, callF, appF, isiF, mthF, itF, itA, nmG, nilG, consG, tupG, yesB, wipeD,
 addD_ii, addD_ss, addD_ll, subD_ii, mulD_ii, mulD_li, mulD_si, fdivD_ii, modD_ii, powD_10_18, ltD_ii, leD_ii, gtD_ii, geD_ii, gtD_ss, ltD_ss, eqD_ii, eqD_ss, eqD_bb, neD_ii, neD_ss, isBD_bb, isND_non, isND_int, isND_str, notND_non, notND_int, notND_str, lenD_s, lenD_l, lenD_r, lenD_t, lenD_c, min2D_ii, max2D_ii, intD_i, intD_b, strD_i, sumD_l, sumD_c, sumD_t, maxD_c, tupleD_l, tupleD_t, tupleD_c, listD_l, listD_t,
 ixD_l, ixD_r, ixD_t, ixD_s, ixD_c, slD_s, slD_l, slD_r, putIx_c, appendD_c, extendD_cl, isTy_c, isTy_s, isTy_l, iaddD, atI_0, atI_1, atI_2, atI_3, atI_4, low_int, low_str, low_bl, low_non, anyI_l, anyI_r, anyI_t, anyI_s, rng1I_i, rng2I_ii, ixN5, set_concat, get_concat, take_concat, len_concat, notInD_cs, inD_cs, sindexD_s, intD_s, tyN_s, tyN_i, tyN_b, tyN_n, tyN_t, tyN_l, tyIs_t, zipI_tt,
 startD, List.map_cons, List.map_nil, List.length_cons, List.length_nil, List.cons_append, List.nil_append, List.getElem?_cons_zero, List.getElem?_cons_succ, List.set_cons_zero, List.set_cons_succ, List.replicate_succ, List.replicate_zero, Option.bind_some, if_true, if_false, Bool.true_and, Bool.false_and, Bool.and_true, Bool.not_true, Bool.not_false, decide_true, decide_false, eq_self, Nat.zero_add, Nat.reduceAdd, Nat.reduceSub, reduceIte, reduceCtorEq, Int.reduceEq, Bool.false_eq_true, true_and, and_true, true_or, or_true, decide_eq_true_eq, rw_any, h2, rw_len, hl', i1, i2, tkD, leave_rt, fz_non, List.take_length, optD]
        | z =>
          have ct := rw_cut b p .z .z S
          have bt := block_text_bits b p S hp (by simp at hz; omega)
          have sound : ∀ v, (match runT p [] 0 with | some (w, 0, 0) => some w | _ => none) = some v → (∀ d ∈ v, 1 ≤ d ∧ d ≤ 9) ∧ p = flatT v := by
            intro v h
            have h' : runT p [] 0 = some (v, 0, 0) := by
              revert h
              cases runT p [] 0 with
              | none => intro h; cases h
              | some q =>
                obtain ⟨w, a, c⟩ := q
                cases a with
                | zero => cases c with
                  | zero => intro h; cases h; rfl
                  | succ c => intro h; cases h
                | succ a => intro h; cases h
            obtain ⟨ds, e1, e2, e3⟩ := run_sound p [] 0 v h'
            rw [List.nil_append] at e1
            subst e1
            exact ⟨e2, e3⟩
          have full : ∀ w, IsRow (p ++ [.z, .z]) w → (match runT p [] 0 with | some (w, 0, 0) => some w | _ => none) = some w := by
            intro w h
            rw [run_full p.length p [] w 0 (Nat.le_refl _) h.num.dig (by rw [repT_zero]; exact (last w h).2.2)]
            rfl
          generalize (match runT p [] 0 with | some (w, 0, 0) => some w | _ => none) = r at bt sound full
          cases r with
          | none =>
            refine ⟨none, ?_, fun w => ⟨fun h => (by cases h), fun h => full w h⟩⟩
            simp only [optD] at bt
            simp only [Bd, seqS, setS, retS, retN, dropS, ifS, forS, putS, augS, nxS, bkS, ctS, SR.seq_nx, SR.seq_rt, SR.seq_exc, SR.seq_bk, SR.seq_ct, SR.turn_nx, SR.turn_ct, SR.turn_bk, SR.turn_rt, SR.turn_exc, R.bind_ok, R.bind_bad, R.bind_exc, R.bindN_ok, R.st_ok, R.st_exc,
 varE, cE, binF, tstF, chnF, andB, orB, notB, andV, orV, notV, ifE, nilF, consF, tupF, lstF, ownF, negF, noO, someO, slF, callF, appF, isiF, mthF, itF, itA, nmG, nilG, consG, tupG, yesB, wipeD,
 addD_ii, addD_ss, addD_ll, subD_ii, mulD_ii, mulD_li, mulD_si, fdivD_ii, modD_ii, powD_10_18, ltD_ii, leD_ii, gtD_ii, geD_ii, gtD_ss, ltD_ss, eqD_ii, eqD_ss, eqD_bb, neD_ii, neD_ss, isBD_bb, isND_non, isND_int, isND_str, notND_non, notND_int, notND_str, lenD_s, lenD_l, lenD_r, lenD_t, lenD_c, min2D_ii, max2D_ii, intD_i, intD_b, strD_i, sumD_l, sumD_c, sumD_t, maxD_c, tupleD_l, tupleD_t, tupleD_c, listD_l, listD_t,
 ixD_l, ixD_r, ixD_t, ixD_s, ixD_c, slD_s, slD_l, slD_r, putIx_c, appendD_c, extendD_cl, isTy_c, isTy_s, isTy_l, iaddD, atI_0, atI_1, atI_2, atI_3, atI_4, low_int, low_str, low_bl, low_non, anyI_l, anyI_r, anyI_t, anyI_s, rng1I_i, rng2I_ii, ixN5, set_concat, get_concat, take_concat, len_concat, notInD_cs, inD_cs, sindexD_s, intD_s, tyN_s, tyN_i, tyN_b, tyN_n, tyN_t, tyN_l, tyIs_t, zipI_tt,
 startD, List.map_cons, List.map_nil, List.length_cons, List.length_nil, List.cons_append, List.nil_append, List.getElem?_cons_zero, List.getElem?_cons_succ, List.set_cons_zero, List.set_cons_succ, List.replicate_succ, List.replicate_zero, Option.bind_some, if_true, if_false, Bool.true_and, Bool.false_and, Bool.and_true, Bool.not_true, Bool.not_false, decide_true, decide_false, eq_self, Nat.zero_add, Nat.reduceAdd, Nat.reduceSub, reduceIte, reduceCtorEq, Int.reduceEq, Bool.false_eq_true, true_and, and_true, true_or, or_true, decide_eq_true_eq, rw_any, h2, rw_len, hl', i1, i2, tkD, ct, bt, leave_rt, fz_non, List.take_length, optD]
          | some v =>
            obtain ⟨dig, e⟩ := sound v rfl
            have vl : v.length ≤ 90000 := by
              have : v.length ≤ p.length := by
                rw [e]
                clear e sound full bt last ct i1 i2 h2 hl hl' hz h1 hp
                induction v with
                | nil => exact Nat.zero_le _
                | cons d v ih =>
                  rw [flatT_cons, List.length_append, List.length_cons, List.length_cons, List.length_cons]
                  have := ih fun x hx => dig x (List.mem_cons_of_mem _ hx)
                  omega
              simp at hz; omega
            have isn := is_number_str (numS v) S (sizeLine_big (by rw [numS_len]; omega))
            have iff := numB_dig dig
            simp only [optD] at bt
            cases hB : numB (numS v) with
            | true =>
              rw [hB] at isn
              refine ⟨some v, ?_, fun w => ⟨fun h => ?_, fun h => full w h⟩⟩
              · simp only [Bd, seqS, setS, retS, retN, dropS, ifS, forS, putS, augS, nxS, bkS, ctS, SR.seq_nx, SR.seq_rt, SR.seq_exc, SR.seq_bk, SR.seq_ct, SR.turn_nx, SR.turn_ct, SR.turn_bk, SR.turn_rt, SR.turn_exc, R.bind_ok, R.bind_bad, R.bind_exc, R.bindN_ok, R.st_ok, R.st_exc,
 varE, cE, binF, tstF, chnF, andB, orB, notB, andV, orV, notV, ifE, nilF, consF, tupF, lstF, ownF, negF, noO, someO, slF, callF, appF, isiF, mthF, itF, itA, nmG, nilG, consG, tupG, yesB, wipeD,
 addD_ii, addD_ss, addD_ll, subD_ii, mulD_ii, mulD_li, mulD_si, fdivD_ii, modD_ii, powD_10_18, ltD_ii, leD_ii, gtD_ii, geD_ii, gtD_ss, ltD_ss, eqD_ii, eqD_ss, eqD_bb, neD_ii, neD_ss, isBD_bb, isND_non, isND_int, isND_str, notND_non, notND_int, notND_str, lenD_s, lenD_l, lenD_r, lenD_t, lenD_c, min2D_ii, max2D_ii, intD_i, intD_b, strD_i, sumD_l, sumD_c, sumD_t, maxD_c, tupleD_l, tupleD_t, tupleD_c, listD_l, listD_t,
 ixD_l, ixD_r, ixD_t, ixD_s, ixD_c, slD_s, slD_l, slD_r, putIx_c, appendD_c, extendD_cl, isTy_c, isTy_s, isTy_l, iaddD, atI_0, atI_1, atI_2, atI_3, atI_4, low_int, low_str, low_bl, low_non, anyI_l, anyI_r, anyI_t, anyI_s, rng1I_i, rng2I_ii, ixN5, set_concat, get_concat, take_concat, len_concat, notInD_cs, inD_cs, sindexD_s, intD_s, tyN_s, tyN_i, tyN_b, tyN_n, tyN_t, tyN_l, tyIs_t, zipI_tt,
 startD, List.map_cons, List.map_nil, List.length_cons, List.length_nil, List.cons_append, List.nil_append, List.getElem?_cons_zero, List.getElem?_cons_succ, List.set_cons_zero, List.set_cons_succ, List.replicate_succ, List.replicate_zero, Option.bind_some, if_true, if_false, Bool.true_and, Bool.false_and, Bool.and_true, Bool.not_true, Bool.not_false, decide_true, decide_false, eq_self, Nat.zero_add, Nat.reduceAdd, Nat.reduceSub, reduceIte, reduceCtorEq, Int.reduceEq, Bool.false_eq_true, true_and, and_true, true_or, or_true, decide_eq_true_eq, rw_any, h2, rw_len, hl', i1, i2, tkD, ct, bt, isn, leave_rt, fz_str, List.take_length, optD]
              · cases h
                exact ⟨iff.mp hB, by rw [e]; rfl⟩
            | false =>
              rw [hB] at isn
              refine ⟨none, ?_, fun w => ⟨fun h => (by cases h), fun h => ?_⟩⟩
              · simp only [Bd, seqS, setS, retS, retN, dropS, ifS, forS, putS, augS, nxS, bkS, ctS, SR.seq_nx, SR.seq_rt, SR.seq_exc, SR.seq_bk, SR.seq_ct, SR.turn_nx, SR.turn_ct, SR.turn_bk, SR.turn_rt, SR.turn_exc, R.bind_ok, R.bind_bad, R.bind_exc, R.bindN_ok, R.st_ok, R.st_exc,
 varE, cE, binF, tstF, chnF, andB, orB, notB, andV, orV, notV, ifE, nilF, consF, tupF, lstF, ownF, negF, noO, someO, slF, callF, appF, isiF, mthF, itF, itA, nmG, nilG, consG, tupG, yesB, wipeD,
 addD_ii, addD_ss, addD_ll, subD_ii, mulD_ii, mulD_li, mulD_si, fdivD_ii, modD_ii, powD_10_18, ltD_ii, leD_ii, gtD_ii, geD_ii, gtD_ss, ltD_ss, eqD_ii, eqD_ss, eqD_bb, neD_ii, neD_ss, isBD_bb, isND_non, isND_int, isND_str, notND_non, notND_int, notND_str, lenD_s, lenD_l, lenD_r, lenD_t, lenD_c, min2D_ii, max2D_ii, intD_i, intD_b, strD_i, sumD_l, sumD_c, sumD_t, maxD_c, tupleD_l, tupleD_t, tupleD_c, listD_l, listD_t,
 ixD_l, ixD_r, ixD_t, ixD_s, ixD_c, slD_s, slD_l, slD_r, putIx_c, appendD_c, extendD_cl, isTy_c, isTy_s, isTy_l, iaddD, atI_0, atI_1, atI_2, atI_3, atI_4, low_int, low_str, low_bl, low_non, anyI_l, anyI_r, anyI_t, anyI_s, rng1I_i, rng2I_ii, ixN5, set_concat, get_concat, take_concat, len_concat, notInD_cs, inD_cs, sindexD_s, intD_s, tyN_s, tyN_i, tyN_b, tyN_n, tyN_t, tyN_l, tyIs_t, zipI_tt,
 startD, List.map_cons, List.map_nil, List.length_cons, List.length_nil, List.cons_append, List.nil_append, List.getElem?_cons_zero, List.getElem?_cons_succ, List.set_cons_zero, List.set_cons_succ, List.replicate_succ, List.replicate_zero, Option.bind_some, if_true, if_false, Bool.true_and, Bool.false_and, Bool.and_true, Bool.not_true, Bool.not_false, decide_true, decide_false, eq_self, Nat.zero_add, Nat.reduceAdd, Nat.reduceSub, reduceIte, reduceCtorEq, Int.reduceEq, Bool.false_eq_true, true_and, and_true, true_or, or_true, decide_eq_true_eq, rw_any, h2, rw_len, hl', i1, i2, tkD, ct, bt, isn, leave_rt, fz_non, List.take_length, optD]
              · have := full w h
                cases this
                rw [iff.mpr h.num] at hB
                cases hB
        | _ => cases hx
      | _ => cases hy
  · unfold noB at h2
    refine ⟨none, ?_, fun w => ⟨fun h => (by cases h), fun h => ?_⟩⟩
    · simp only [Bd, seqS, setS, retS, retN, dropS, ifS, forS, putS, augS, nxS, bkS, ctS, SR.seq_nx, SR.seq_rt, SR.seq_exc, SR.seq_bk, SR.seq_ct, SR.turn_nx, SR.turn_ct, SR.turn_bk, SR.turn_rt, SR.turn_exc, R.bind_ok, R.bind_bad, R.bind_exc, R.bindN_ok, R.st_ok, R.st_exc,
 varE, cE, binF, tstF, chnF, andB, orB, notB, andV, orV, notV, ifE, nilF, consF, tupF, lstF, ownF, negF, noO, someO, slF, callF, appF, isiF, mthF, itF, itA, nmG, nilG, consG, tupG, yesB, wipeD,
 addD_ii, addD_ss, addD_ll, subD_ii, mulD_ii, mulD_li, mulD_si, fdivD_ii, modD_ii, powD_10_18, ltD_ii, leD_ii, gtD_ii, geD_ii, gtD_ss, ltD_ss, eqD_ii, eqD_ss, eqD_bb, neD_ii, neD_ss, isBD_bb, isND_non, isND_int, isND_str, notND_non, notND_int, notND_str, lenD_s, lenD_l, lenD_r, lenD_t, lenD_c, min2D_ii, max2D_ii, intD_i, intD_b, strD_i, sumD_l, sumD_c, sumD_t, maxD_c, tupleD_l, tupleD_t, tupleD_c, listD_l, listD_t,
 ixD_l, ixD_r, ixD_t, ixD_s, ixD_c, slD_s, slD_l, slD_r, putIx_c, appendD_c, extendD_cl, isTy_c, isTy_s, isTy_l, iaddD, atI_0, atI_1, atI_2, atI_3, atI_4, low_int, low_str, low_bl, low_non, anyI_l, anyI_r, anyI_t, anyI_s, rng1I_i, rng2I_ii, ixN5, set_concat, get_concat, take_concat, len_concat, notInD_cs, inD_cs, sindexD_s, intD_s, tyN_s, tyN_i, tyN_b, tyN_n, tyN_t, tyN_l, tyIs_t, zipI_tt,
 startD, List.map_cons, List.map_nil, List.length_cons, List.length_nil, List.cons_append, List.nil_append, List.getElem?_cons_zero, List.getElem?_cons_succ, List.set_cons_zero, List.set_cons_succ, List.replicate_succ, List.replicate_zero, Option.bind_some, if_true, if_false, Bool.true_and, Bool.false_and, Bool.and_true, Bool.not_true, Bool.not_false, decide_true, decide_false, eq_self, Nat.zero_add, Nat.reduceAdd, Nat.reduceSub, reduceIte, reduceCtorEq, Int.reduceEq, Bool.false_eq_true, true_and, and_true, true_or, or_true, decide_eq_true_eq, rw_any, h2, leave_rt, fz_non, List.take_length, optD]
    · have := h.row
      subst this
      rw [rowT_bits] at h1
      cases h1
end Zd

set_option Elab.async false
set_option linter.all false
set_option maxRecDepth 100000
set_option maxHeartbeats 4000000
set_option autoImplicit false
/-! Zd: repr of data whose texts are ASCII: it is ASCII, and not too long. -/
namespace Zd
open PySem PySem.Spec L2
open PyProof.Rows hiding St

def Asc (z : Str) : Prop := ∀ c ∈ z.cps.toList, c < 128
theorem Asc.ok {z : Str} (h : Asc z) : PyData.strOk z = true := by
  show z.cps.all (fun c => decide (c < 0x110000)) = true
  rw [← Array.all_toList, List.all_eq_true]
  intro c hc
  have := h c hc
  simp; omega
theorem Asc.app {a b : Str} (ha : Asc a) (hb : Asc b) : Asc (a ++ b) := by
  intro c hc
  have e : (a ++ b).cps.toList = a.cps.toList ++ b.cps.toList := TL.tl_append a b
  rw [e] at hc
  rcases List.mem_append.mp hc with h | h
  · exact ha c h
  · exact hb c h
theorem reprChar_asc : ∀ c, c < 128 → ∀ q, (q = 34 ∨ q = 39) → ∀ k ∈ Builtin.Str.reprChar q c, k < 128 := by
  intro c hc q hq
  have h1 : ∀ c : _root_.Fin 128, (Builtin.Str.reprChar 34 c.val).all (fun k => decide (k < 128)) = true := by decide +kernel
  have h2 : ∀ c : _root_.Fin 128, (Builtin.Str.reprChar 39 c.val).all (fun k => decide (k < 128)) = true := by decide +kernel
  intro k hk
  rcases hq with rfl | rfl
  · have := List.all_eq_true.mp (h1 ⟨c, hc⟩) k hk
    simpa using this
  · have := List.all_eq_true.mp (h2 ⟨c, hc⟩) k hk
    simpa using this
theorem fold_asc (q : Nat) (hq : q = 34 ∨ q = 39) : ∀ (l : List Nat) (acc : Array Nat), (∀ c ∈ l, c < 128) → (∀ c ∈ acc.toList, c < 128) → ∀ c ∈ (l.foldl (fun out c => out ++ (Builtin.Str.reprChar q c).toArray) acc).toList, c < 128
  | [], acc, _, ha, c, hc => ha c hc
  | x :: l, acc, hl, ha, c, hc => by
    rw [List.foldl_cons] at hc
    refine fold_asc q hq l _ (fun y hy => hl y (List.mem_cons_of_mem _ hy)) (fun y hy => ?_) c hc
    rw [Array.toList_append] at hy
    rcases List.mem_append.mp hy with h | h
    · exact ha y h
    · exact reprChar_asc x (hl x List.mem_cons_self) q hq y (by simpa using h)
theorem reprText_asc {z : Str} (h : Asc z) : Asc (reprText z) := by
  have hq : reprQuote z = 34 ∨ reprQuote z = 39 := by unfold reprQuote; split <;> simp
  intro c hc
  unfold reprText at hc
  rw [Array.toList_push] at hc
  rcases List.mem_append.mp hc with hc | hc
  · rw [← Array.foldl_toList] at hc
    refine fold_asc (reprQuote z) hq z.cps.toList _ h (fun y hy => ?_) c hc
    have : y = reprQuote z := by simpa using hy
    omega
  · have : c = reprQuote z := by simpa using hc
    omega
theorem int_asc (i : Int) : Asc ((toString i : String) : Str) := by
  intro c hc
  by_cases h : c ≠ 45 ∧ (c < 48 ∨ 57 < c)
  · exact absurd hc (int_text_free' c h i)
  · omega
theorem join_asc {ts : List Str} (h : ∀ t ∈ ts, Asc t) : Asc (Str.join ", " ts) := by
  intro c hc
  rcases (mem_join ", " c ts).mp hc with ⟨t, ht, hct⟩ | ⟨_, hs⟩
  · exact h t ht c hct
  · have : ∀ k ∈ (((", " : String) : Str)).cps.toList, k < 128 := by decide +kernel
    exact this c hs
theorem list_asc {ts : List Str} (h : ∀ t ∈ ts, Asc t) : Asc (listText ts) := by
  rw [listText_eq_join]
  exact Asc.app (Asc.app (show Asc _ from by unfold Asc; decide +kernel) (join_asc h)) (show Asc _ from by unfold Asc; decide +kernel)
theorem tuple_asc {ts : List Str} (h : ∀ t ∈ ts, Asc t) : Asc (tupleText ts) := by
  unfold tupleText
  refine Asc.app (Asc.app (show Asc _ from by unfold Asc; decide +kernel) (join_asc h)) ?_
  split
  · unfold Asc; decide +kernel
  · unfold Asc; decide +kernel

mutual
/-- data of ASCII texts, whole numbers below 10^30 .. -/
def ascP : PyData → Prop
  | .none => True
  | .bool _ => True
  | .int i => i.natAbs.log2 < 1920
  | .str z => Asc z
  | .list ps => ascPs ps
  | .tuple ps => ascPs ps
  | .dict _ => False
def ascPs : List PyData → Prop
  | [] => True
  | p :: ps => ascP p ∧ ascPs ps
end
mutual
theorem shown_asc : ∀ p : PyData, ascP p → Asc p.shown
  | .none, _ => by rw [PyData.shown]; unfold Asc; decide +kernel
  | .bool b, _ => by rw [PyData.shown]; cases b <;> (unfold Asc; decide +kernel)
  | .int i, _ => by rw [PyData.shown]; exact int_asc i
  | .str z, h => by rw [PyData.shown]; exact reprText_asc (by rw [ascP] at h; exact h)
  | .list ps, h => by rw [PyData.shown]; exact list_asc (shownAll_asc ps (by rw [ascP] at h; exact h))
  | .tuple ps, h => by rw [PyData.shown]; exact tuple_asc (shownAll_asc ps (by rw [ascP] at h; exact h))
  | .dict _, h => by rw [ascP] at h; exact h.elim
theorem shownAll_asc : ∀ ps : List PyData, ascPs ps → ∀ t ∈ PyData.shownAll ps, Asc t
  | [], _, t, ht => by rw [PyData.shownAll] at ht; cases ht
  | p :: ps, h, t, ht => by
    rw [ascPs] at h
    rw [PyData.shownAll] at ht
    rcases List.mem_cons.mp ht with rfl | ht
    · exact shown_asc p h.1
    · exact shownAll_asc ps h.2 t ht
end
mutual
theorem showable_asc : ∀ p : PyData, ascP p → p.showable = true
  | .none, _ => by rw [PyData.showable]
  | .bool b, _ => by rw [PyData.showable]
  | .int i, h => by rw [PyData.showable]; rw [ascP] at h; exact decide_eq_true h
  | .str z, h => by rw [PyData.showable]
  | .list ps, h => by rw [PyData.showable]; exact showableAll_asc ps (by rw [ascP] at h; exact h)
  | .tuple ps, h => by rw [PyData.showable]; exact showableAll_asc ps (by rw [ascP] at h; exact h)
  | .dict _, h => by rw [ascP] at h; exact h.elim
theorem showableAll_asc : ∀ ps : List PyData, ascPs ps → PyData.showableAll ps = true
  | [], _ => by rw [PyData.showableAll]
  | p :: ps, h => by
    rw [ascPs] at h
    rw [PyData.showableAll, showable_asc p h.1, showableAll_asc ps h.2]; rfl
end
mutual
/-- how long it is shown at most -/
def lenP : PyData → Nat
  | .none => 5
  | .bool _ => 5
  | .int i => ((toString i : String) : Str).length
  | .str z => 10 * z.length + 2
  | .list ps => lenPs ps + 3
  | .tuple ps => lenPs ps + 3
  | .dict _ => 0
def lenPs : List PyData → Nat
  | [] => 0
  | p :: ps => lenP p + 2 + lenPs ps
end
theorem sums2 (ts : List Str) : (ts.map (·.length)).sum + 2 * ts.length = (ts.map fun t => t.length + 2).sum := by
  induction ts with
  | nil => rfl
  | cons t ts ih => rw [List.map_cons, List.sum_cons, List.length_cons, List.map_cons, List.sum_cons, ← ih]; omega
mutual
theorem shown_len : ∀ p : PyData, ascP p → p.shown.length ≤ lenP p
  | .none, _ => by rw [PyData.shown, lenP]; decide +kernel
  | .bool b, _ => by rw [PyData.shown, lenP]; cases b <;> decide +kernel
  | .int i, _ => by rw [PyData.shown, lenP]; exact Nat.le_refl _
  | .str z, h => by
    rw [PyData.shown, lenP]
    rw [ascP] at h
    exact StrLaws.reprText_len z fun c hc => Nat.lt_of_lt_of_le (h c hc) (by decide)
  | .list ps, h => by
    rw [PyData.shown, lenP]
    rw [ascP] at h
    have h1 := listText_len_le (PyData.shownAll ps)
    have h2 := shownAll_len ps h
    rw [sums2] at h1
    omega
  | .tuple ps, h => by
    rw [PyData.shown, lenP]
    rw [ascP] at h
    have h1 := tupleText_len_le (PyData.shownAll ps)
    have h2 := shownAll_len ps h
    rw [sums2] at h1
    omega
  | .dict _, h => by rw [ascP] at h; exact h.elim
theorem shownAll_len : ∀ ps : List PyData, ascPs ps → ((PyData.shownAll ps).map fun t => t.length + 2).sum ≤ lenPs ps
  | [], _ => by rw [PyData.shownAll]; exact Nat.zero_le _
  | p :: ps, h => by
    rw [ascPs] at h
    rw [PyData.shownAll, lenPs, List.map_cons, List.sum_cons]
    have h1 := shown_len p h.1
    have h2 := shownAll_len ps h.2
    omega
end
/-- repr of data -/
theorem repr_asc {d : D} {p : PyData} {S : Sto} (h : toP S d = some p) (ha : ascP p) (hd : p.depth ≤ 64) (hl : lenP p ≤ 1000000) : reprD [d] S = .ok (.str p.shown) S := by
  unfold reprD
  dsimp only
  rw [h]
  dsimp only
  rw [if_pos]
  refine ⟨showable_asc p ha, hd, ?_⟩
  have := shown_len p ha
  rw [sizeLine_eq]; omega
end Zd

set_option Elab.async false
set_option linter.all false
set_option maxRecDepth 100000
set_option maxHeartbeats 4000000
set_option autoImplicit false
/-! Rows of drawn things; tries; objects and their reprs. -/
namespace Zd
open PySem PySem.Spec L2
open PyProof.Rows hiding St

theorem compD {α : Type} {n N : Nat} (c : Nat) (toD : α → D) (Q : α → Prop) {g : GF} {fe : EF} {ρ : Nv} {T0 : Sto} (hn : n = T0.length + 1)
    (lo : ∀ a, Q a → low n (toD a) = true)
    (step : ∀ (d : D) (m : Nat) (bag : List D) (acc : List D), BagOk m bag → m < N → ∃ ρ1 a bag', g d ρ (.lst bag :: (T0 ++ [.lst acc])) = some ρ1 ∧ fe ρ1 (.lst bag :: (T0 ++ [.lst acc])) = .ok (toD a) (.lst bag' :: (T0 ++ [.lst acc])) ∧ Q a ∧ BagOk (m + c) bag') :
    ∀ (ds : List D) (m : Nat) (bag : List D) (acc : List D), BagOk m bag → m + c * ds.length < N → acc.length + ds.length ≤ 1000000 →
    ∃ (l : List α) (bag' : List D), compL n g yesB fe ρ ds (.lst bag :: (T0 ++ [.lst acc])) = .ok () (.lst bag' :: (T0 ++ [.lst (acc ++ l.map toD)])) ∧ l.length = ds.length ∧ (∀ a ∈ l, Q a) ∧ BagOk (m + c * ds.length) bag'
  | [], m, bag, acc, hb, _, _ => ⟨[], bag, by simp [compL], rfl, fun a h => (by cases h), hb⟩
  | d :: ds, m, bag, acc, hb, hm, hl => by
    rw [List.length_cons] at hm hl
    rw [Nat.mul_succ] at hm
    obtain ⟨ρ1, a, b1, e1, e2, qa, hb1⟩ := step d m bag acc hb (by omega)
    have hs : ((Cl.lst b1 :: (T0 ++ [Cl.lst acc]) : Sto)[n]? : Option Cl) = some (.lst acc) := by subst hn; simp
    have hset : (Cl.lst b1 :: (T0 ++ [Cl.lst acc]) : Sto).set n (.lst (acc ++ [toD a])) = .lst b1 :: (T0 ++ [.lst (acc ++ [toD a])]) := by
      subst hn
      rw [List.set_cons_succ, List.set_append_right _ _ (Nat.le_refl _), Nat.sub_self]
      rfl
    obtain ⟨l, b2, e3, hl2, hq, hb2⟩ := compD c toD Q hn lo step ds (m + c) b1 (acc ++ [toD a]) hb1 (by omega) (by rw [List.length_append, List.length_singleton]; omega)
    refine ⟨a :: l, b2, ?_, by rw [List.length_cons, List.length_cons, hl2], fun x hx => ?_, by rw [List.length_cons, Nat.mul_succ]; exact hb2.mono (by omega)⟩
    · unfold compL
      rw [e1]
      dsimp only
      unfold yesB
      rw [R.bindN_ok, if_pos rfl, e2, R.bindN_ok]
      unfold pushC
      rw [hs]
      dsimp only
      rw [lo a qa, decide_eq_true (sizeLine_big (show acc.length + 1 ≤ 1000000 by omega)), if_pos (by rfl), R.bindN_ok, hset]
      have e3' : compL n g yesB fe ρ ds (.lst b1 :: (T0 ++ [.lst (acc ++ [toD a])])) = _ := e3
      unfold yesB at e3'
      rw [e3', List.map_cons, List.append_assoc]
      rfl
    · rcases List.mem_cons.mp hx with rfl | hx
      · exact qa
      · exact hq x hx
theorem comp_drawn {α : Type} (N : Nat) {vs : List Nat} {fi : F (List D)} {g : GF} {fe : EF} {ρ : Nv} {S : Sto} {T : Sto} {bag : List D} {ds : List D} {m : Nat} (c : Nat) (toD : α → D) (Q : α → Prop) (hi : fi ρ S = .ok ds (.lst bag :: T)) (lo : ∀ n a, Q a → low n (toD a) = true) (hb : BagOk m bag) (hm : m + c * ds.length < N) (hl : ds.length ≤ 1000000)
    (step : ∀ (d : D) (m : Nat) (bag : List D) (acc : List D), BagOk m bag → m < N → ∃ ρ1 a bag', g d (wipeD ρ vs) (.lst bag :: (T ++ [.lst acc])) = some ρ1 ∧ fe ρ1 (.lst bag :: (T ++ [.lst acc])) = .ok (toD a) (.lst bag' :: (T ++ [.lst acc])) ∧ Q a ∧ BagOk (m + c) bag') :
    ∃ (l : List α) (bag' : List D), compG finF vs fi g yesB fe ρ S = .ok (.lst (l.map toD)) (.lst bag' :: T) ∧ l.length = ds.length ∧ (∀ a ∈ l, Q a) ∧ BagOk (m + c * ds.length) bag' := by
  obtain ⟨l, b2, e, h1, h2, h3⟩ := compD (T0 := T) c toD Q rfl (fun a qa => lo _ a qa) step ds m bag [] hb hm (by simpa using hl)
  refine ⟨l, b2, ?_, h1, h2, h3⟩
  unfold compG
  rw [hi, R.bind_ok]
  have e' : compL (Cl.lst bag :: T : Sto).length g yesB fe (wipeD ρ vs) ds ((Cl.lst bag :: T) ++ [Cl.lst []]) = _ := e
  rw [e', R.bindN_ok, List.nil_append]
  unfold finF
  have at_ : ((Cl.lst b2 :: (T ++ [Cl.lst (l.map toD)]) : Sto)[(Cl.lst bag :: T : Sto).length]? : Option Cl) = some (.lst (l.map toD)) := by simp
  rw [at_]
  dsimp only
  congr 1
  simp

theorem sz : NLe 0 sizeLine ∧ NLe 1 sizeLine ∧ NLe 2 sizeLine ∧ NLe 3 sizeLine ∧ NLe 4 sizeLine ∧ NLe 5 sizeLine ∧ NLe 6 sizeLine ∧ NLe 7 sizeLine ∧ NLe 8 sizeLine ∧ NLe 9 sizeLine ∧ NLe 10 sizeLine ∧ NLe 11 sizeLine ∧ NLe 12 sizeLine ∧ NLe 13 sizeLine ∧ NLe 14 sizeLine ∧ NLe 15 sizeLine := by
  refine ⟨?_, ?_, ?_, ?_, ?_, ?_, ?_, ?_, ?_, ?_, ?_, ?_, ?_, ?_, ?_, ?_⟩ <;> exact sizeLine_big (by decide)
theorem seq_go {a b : SF} {ρ ρ1 : Nv} {S S1 : Sto} (h : a ρ S = .nx ρ1 S1) : seqS a b ρ S = b ρ1 S1 := by unfold seqS; rw [h, SR.seq_nx]
theorem seq_rt {a b : SF} {ρ : Nv} {S S1 : Sto} {d : D} (h : a ρ S = .rt d S1) : seqS a b ρ S = .rt d S1 := by unfold seqS; rw [h, SR.seq_rt]
/-! ### try -/
theorem try_no' {mt : List (Str × Bool)} {i : Nat} {g h : SF} {ρ ρ1 : Nv} {S S1 : Sto} (e : g ρ S = .nx ρ1 S1) : tryS mt i g h ρ S = .nx ρ1 S1 := by
  unfold tryS; rw [e]
theorem try_rt' {mt : List (Str × Bool)} {i : Nat} {g h : SF} {ρ : Nv} {S S1 : Sto} {d : D} (e : g ρ S = .rt d S1) : tryS mt i g h ρ S = .rt d S1 := by
  unfold tryS; rw [e]
theorem try_ret {mt : List (Str × Bool)} {i : Nat} {g h : SF} {ρ ρ1 : Nv} {S S1 : Sto} {c : Str} {ks : List Str} {ds : List D} {d : D} (e : g ρ S = .exc c ks ds ρ1 S1) (l : mt.lookup c = some true) (eh : h (ρ1.set i (some (.exn c ks ds))) S1 = .rt d S1) (nd : noX d = true) : tryS mt i g h ρ S = .rt d S1 := by
  unfold tryS; rw [e]; dsimp only; rw [l]; dsimp only; rw [eh]; dsimp only; rw [if_pos ⟨.inl rfl, nd⟩]
theorem try_nxt {mt : List (Str × Bool)} {i : Nat} {g h : SF} {ρ ρ1 ρ2 : Nv} {S S1 : Sto} {c : Str} {ks : List Str} {ds : List D} (e : g ρ S = .exc c ks ds ρ1 S1) (l : mt.lookup c = some true) (eh : h (ρ1.set i (some (.exn c ks ds))) S1 = .nx ρ2 S1) (nd : OkN i ρ1 ρ2) : tryS mt i g h ρ S = .nx (ρ2.set i none) S1 := by
  unfold tryS; rw [e]; dsimp only; rw [l]; dsimp only; rw [eh]; dsimp only; rw [if_pos ⟨.inl rfl, nd⟩]
theorem look1 {β : Type} {c : Str} {b : β} {l : List (Str × β)} : List.lookup c ((c, b) :: l) = some b := by rw [List.lookup_cons, beq_self_eq_true]
theorem look2 {β : Type} {c d : Str} {b : β} {l : List (Str × β)} (h : (c == d) = false) : List.lookup c ((d, b) :: l) = List.lookup c l := by rw [List.lookup_cons, h]

/-! ### data, once more -/
theorem cutD_tail (ds : List D) (k : Nat) : cutD ds (some (k : Int)) none = ds.drop k := by
  unfold cutD
  rw [HT.sIx_none, HT.sIx_nat]
  by_cases h : k ≤ ds.length
  · rw [Nat.min_eq_left h, List.take_of_length_le (by rw [List.length_drop]; omega)]
  · rw [Nat.min_eq_right (by omega), List.drop_of_length_le (Nat.le_refl _), List.drop_of_length_le (by omega), List.take_nil]
theorem asQ_l {ds : List D} {S : Sto} : asQ (.lst ds) S = some ds := rfl
theorem asQ_t {ds : List D} {S : Sto} : asQ (.tup ds) S = some ds := rfl
theorem lay_asc {z : Str} (h : Asc z) : Lay z := by show PyData.canLay0 (.str z) = true; rw [PyData.canLay0]; exact h.ok
theorem neD_it {S : Sto} (a b : List Int) : neD (.tup (a.map D.int)) (.tup (b.map D.int)) S = .ok (.bl (!decide (a = b))) S := by
  have := neD_dat (S := S) (d := .tup (a.map D.int)) (e := .tup (b.map D.int)) (⟨a⟩ : PySem.W.Tup Int) (⟨b⟩ : PySem.W.Tup Int) rfl rfl (lay_tup fun i _ => lay_int i) (lay_tup fun i _ => lay_int i) (by decide)
  rw [this]
  simp
theorem neD_sb {S : Sto} {z y : Str} {a b : Bool} (hz : Asc z) (hy : Asc y) : neD (.tup [.str z, .bl a]) (.tup [.str y, .bl b]) S = .ok (.bl (!decide ((z, a) = (y, b)))) S :=
  neD_dat (z, a) (y, b) rfl rfl (lay_pair (lay_asc hz) (lay_bool a)) (lay_pair (lay_asc hy) (lay_bool b)) (by decide)

/-! ### what repr tells -/
/-- text z is the repr of d -/
structure Rpr (d : D) (z : Str) : Prop where
  rep : ∀ S, reprD [d] S = .ok (.str z) S
  fr : ∀ n0 S k, fz n0 S k d = d
  lo : ∀ n, low n d = true
  nox : noX d = true
  asc : Asc z
theorem rpr_of {d : D} {p : PyData} (hp : ∀ S, toP S d = some p) (ha : ascP p) (hd : p.depth ≤ 64) (hl : lenP p ≤ 1000000) (fr : ∀ n0 S k, fz n0 S k d = d) (lo : ∀ n, low n d = true) (nox : noX d = true) : Rpr d p.shown :=
  ⟨fun S => repr_asc (hp S) ha hd hl, fr, lo, nox, shown_asc p ha⟩
theorem int_small {i : Int} (h : i.natAbs < 2 ^ 1900) : ascP (.int i) ∧ lenP (.int i) ≤ 1000 := by
  have h2 : (2 : Nat) ^ 1900 ≤ 10 ^ 600 := by decide +kernel
  refine ⟨?_, ?_⟩
  · rw [ascP]
    by_cases hz : i.natAbs = 0
    · rw [hz]; decide
    · rw [Nat.log2_lt hz]
      exact Nat.lt_of_lt_of_le h (Nat.pow_le_pow_right (by decide) (by decide))
  · rw [lenP]
    have h3 : i.natAbs < 10 ^ 600 := Nat.lt_of_lt_of_le h h2
    have up : ∀ j : Int, 0 ≤ j → j.natAbs < 10 ^ 600 → (Str.ofString (toString j)).length ≤ 600 := fun j j0 hj => toString_length_le j0 (by decide) (by
      have : ((j.natAbs : Nat) : Int) < ((10 ^ 600 : Nat) : Int) := Int.ofNat_lt.mpr hj
      rw [Int.natAbs_of_nonneg j0] at this
      rw [Int.natCast_pow] at this
      exact this)
    by_cases hn : i < 0
    · have e := len_text_negI hn
      have u := up (0 - i) (by omega) (by rw [show (0 - i).natAbs = i.natAbs by omega]; exact h3)
      show (Str.ofString (toString i)).length ≤ 1000
      omega
    · have u := up i (by omega) h3
      show (Str.ofString (toString i)).length ≤ 1000
      omega
theorem rpr_int {i : Int} (h : i.natAbs < 2 ^ 1900) : Rpr (.int i) (PyData.int i).shown :=
  rpr_of (fun _ => rfl) (int_small h).1 (by simp [PyData.depth]) (Nat.le_trans (int_small h).2 (by decide)) (fun _ _ _ => fz_int) (fun _ => rfl) rfl
theorem rpr_non : Rpr .non PyData.none.shown := rpr_of (fun _ => rfl) (by rw [ascP]; trivial) (by decide) (by decide) (fun _ _ _ => fz_non) (fun _ => rfl) rfl
theorem rpr_bl (b : Bool) : Rpr (.bl b) (PyData.bool b).shown := rpr_of (fun _ => rfl) (by rw [ascP]; trivial) (by cases b <;> decide) (by rw [lenP]; decide) (fun _ _ _ => fz_bl) (fun _ => rfl) rfl
theorem rpr_str {z : Str} (h : Asc z) (hl : z.length ≤ 1000) : Rpr (.str z) (PyData.str z).shown := rpr_of (fun _ => rfl) (by rw [ascP]; exact h) (by simp [PyData.depth]) (by rw [lenP]; omega) (fun _ _ _ => fz_str) (fun _ => rfl) rfl
theorem noXL_ints (l : List Int) : noXL (l.map D.int) = true := by
  induction l with
  | nil => rfl
  | cons a l ih => rw [List.map_cons, noXL, ih]; rfl
theorem ascPs_ints (l : List Int) (h : ∀ i ∈ l, i.natAbs < 2 ^ 1900) : ascPs (l.map PyData.int) ∧ lenPs (l.map PyData.int) ≤ 1002 * l.length := by
  induction l with
  | nil => refine ⟨by rw [List.map_nil, ascPs]; trivial, by rw [List.map_nil, lenPs]; exact Nat.zero_le _⟩
  | cons a l ih =>
    have hi := ih fun i hi => h i (List.mem_cons_of_mem _ hi)
    have ha := int_small (h a List.mem_cons_self)
    refine ⟨by rw [List.map_cons, ascPs]; exact ⟨ha.1, hi.1⟩, ?_⟩
    rw [List.map_cons, lenPs, List.length_cons]
    omega
theorem depth_ints (l : List Int) : PyData.depthAll (l.map PyData.int) ≤ 1 := by
  induction l with
  | nil => exact Nat.zero_le _
  | cons a l ih => rw [List.map_cons, PyData.depthAll]; exact Nat.max_le.mpr ⟨by simp [PyData.depth], ih⟩
theorem rpr_ints (l : List Int) (h : ∀ i ∈ l, i.natAbs < 2 ^ 1900) (hl : l.length ≤ 900) : Rpr (.lst (l.map .int)) (PyData.list (l.map .int)).shown := by
  have a := ascPs_ints l h
  have d := depth_ints l
  exact rpr_of (fun S => by show (toPDs S (l.map D.int)).map PyData.list = _; rw [toPDs_ints]; rfl) (by rw [ascP]; exact a.1) (by rw [PyData.depth]; omega) (by rw [lenP]; omega) (fun _ _ _ => by rw [fz_lst, fz_mapint]) (fun n => lowL_ints n l) (noXL_ints l)
theorem rpr_intt (l : List Int) (h : ∀ i ∈ l, i.natAbs < 2 ^ 1900) (hl : l.length ≤ 900) : Rpr (.tup (l.map .int)) (PyData.tuple (l.map .int)).shown := by
  have a := ascPs_ints l h
  have d := depth_ints l
  exact rpr_of (fun S => by show (toPDs S (l.map D.int)).map PyData.tuple = _; rw [toPDs_ints]; rfl) (by rw [ascP]; exact a.1) (by rw [PyData.depth]; omega) (by rw [lenP]; omega) (fun _ _ _ => by rw [fz_tup, fz_mapint]) (fun n => lowL_ints n l) (noXL_ints l)
end Zd

set_option Elab.async false
set_option linter.all false
set_option maxRecDepth 100000
set_option maxHeartbeats 4000000
set_option autoImplicit false
/-! Sets of strokes. -/
namespace Zd
open PySem PySem.Spec L2
open PyProof.Rows hiding St

noncomputable def g_check_offset : SF := (ifS (orB (notB (tstF (callF 1 F_is_whole (consF (varE 0) nilF)))) (tstF (binF ltD (varE 0) (cE (.int 0))))) (raiseS "BadOffset" ["offset"] (consF (varE 0) nilF)) nxS)
noncomputable def F_check_offset : DFun := fnF 1 g_check_offset
noncomputable def g_Strokes___init__ : SF := (seqS (forS (itF anyI (varE 1)) (nmG 2) (dropS (callF 1 F_check_offset (consF (varE 2) nilF))))
  (seqS (fstS ["Strokes"] "offsets" (appF tupleD (consF (ssetF (varE 1)) nilF)) (varE 0))
  (fstS ["Strokes"] "known" (dcmG finDc [2] (itF anyI (fldF ["Strokes"] "offsets" (varE 0))) (nmG 2) yesB (varE 2) (cE (.bl true))) (varE 0))))
noncomputable def F_Strokes___init__ : DFun := fnF 3 g_Strokes___init__
noncomputable def g_Strokes___len__ : SF := (retS (appF lenD (consF (fldF ["Strokes"] "offsets" (varE 0)) nilF)))
noncomputable def F_Strokes___len__ : DFun := fnF 1 g_Strokes___len__
noncomputable def g_Strokes___eq__ : SF := (retS (andV (isOF ([("Strokes", true)] : List (Str × Bool)) (varE 1)) (binF eqD (fldF ["Strokes"] "offsets" (varE 0)) (fldF ["Strokes"] "offsets" (varE 1)))))
noncomputable def F_Strokes___eq__ : DFun := fnF 2 g_Strokes___eq__
noncomputable def g_Strokes___or__ : SF := (retS (makeF false "Strokes" 1 0 2 (fun ds _ => ds ++ []) F_Strokes___init__ (consF (binF addD (fldF ["Strokes"] "offsets" (varE 0)) (fldF ["Strokes"] "offsets" (varE 1))) nilF) nilF))
noncomputable def F_Strokes___or__ : DFun := fnF 2 g_Strokes___or__
noncomputable def g_Strokes___sub__ : SF := (retS (makeF false "Strokes" 1 0 2 (fun ds _ => ds ++ []) F_Strokes___init__ (consF (compG finF [2] (itF anyI (fldF ["Strokes"] "offsets" (varE 0))) (nmG 2) (tstF (binF (inDc true notInD) (varE 2) (fldF ["Strokes"] "known" (varE 1)))) (varE 2)) nilF) nilF))
noncomputable def F_Strokes___sub__ : DFun := fnF 3 g_Strokes___sub__
noncomputable def g_Strokes___rshift__ : SF := (seqS (dropS (callF 1 F_check_offset (consF (varE 1) nilF)))
  (retS (makeF false "Strokes" 1 0 2 (fun ds _ => ds ++ []) F_Strokes___init__ (consF (compG finF [2] (itF anyI (fldF ["Strokes"] "offsets" (varE 0))) (nmG 2) yesB (binF addD (varE 2) (varE 1))) nilF) nilF)))
noncomputable def F_Strokes___rshift__ : DFun := fnF 3 g_Strokes___rshift__
noncomputable def g_Strokes_cut : SF := (retS (makeF false "Strokes" 1 0 2 (fun ds _ => ds ++ []) F_Strokes___init__ (consF (compG finF [2] (itF anyI (fldF ["Strokes"] "offsets" (varE 0))) (nmG 2) (tstF (binF ltD (varE 2) (varE 1))) (varE 2)) nilF) nilF))
noncomputable def F_Strokes_cut : DFun := fnF 3 g_Strokes_cut

/-! ### data with fields -/
section
variable {S : Sto} {c : Str} {ks : List Str} {ds : List D} {kk : List Key}
theorem asO_obj : asO (.obj c ks ds) S = some (c, ks, ds) := rfl
theorem asO_int {i : Int} : asO (.int i) S = none := rfl
theorem asO_bl {b : Bool} : asO (.bl b) S = none := rfl
theorem asO_non : asO .non S = none := rfl
theorem asO_str {z : Str} : asO (.str z) S = none := rfl
theorem asO_tup : asO (.tup ds) S = none := rfl
theorem asO_lst : asO (.lst ds) S = none := rfl
theorem asO_new : asO (.cell S.length) (S ++ [.obj c ks ds]) = some (c, ks, ds) := by show (match (S ++ [Cl.obj c ks ds])[S.length]? with | some (Cl.obj c ks ds) => some (c, ks, ds) | _ => none) = _; rw [get_concat]
theorem asDc_dic : asDc (.dic kk ds) S = some (kk, ds) := rfl
theorem fz_cell_obj {n0 n k : Nat} (h : n0 ≤ n) (e : S[n]? = some (.obj c ks ds)) : fz n0 S (k + 1) (.cell n) = .obj c ks (ds.map (fz n0 S k)) := by
  show (if n < n0 then D.cell n else _) = _
  rw [if_neg (by omega), e]
theorem fz_bls {α : Type} {n0 k : Nat} {f : α → Bool} (l : List α) : (l.map fun a => D.bl (f a)).map (fz n0 S k) = l.map fun a => D.bl (f a) := by
  rw [List.map_map]; exact List.map_congr_left fun a _ => fz_bl
end
theorem pow_ii {i j : Int} {S : Sto} (h : 0 ≤ j ∧ j ≤ 1000000 ∧ i.natAbs < 2 ^ 64) : powD (.int i) (.int j) S = .ok (.int (i ^ j.toNat)) S := by
  exact if_pos h

/-! ### whole numbers -/
/-- an object that is no offset -/
structure Odd (d : D) : Prop where
  fr : ∀ (n : Nat) (S : Sto) (k : Nat), fz n S k d = d
  wh : (∃ i : Int, d = .int i ∧ i < 0) ∨ ∀ S, F_is_whole [d] S = .ok (.bl false) S
theorem whole_i (i : Int) (S : Sto) : F_is_whole [.int i] S = .ok (.bl true) S := by
  unfold F_is_whole fnF g_is_whole; simp only [Bd, seqS, setS, retS, retN, dropS, ifS, forS, putS, augS, nxS, bkS, ctS, SR.seq_nx, SR.seq_rt, SR.seq_exc, SR.seq_bk, SR.seq_ct, SR.turn_nx, SR.turn_ct, SR.turn_bk, SR.turn_rt, SR.turn_exc, R.bind_ok, R.bind_bad, R.bind_exc, R.bindN_ok, R.st_ok, R.st_exc,
 varE, cE, binF, tstF, chnF, andB, orB, notB, andV, orV, notV, ifE, nilF, consF, tupF, lstF, ownF, negF, noO, someO, slF, callF, appF, isiF, mthF, itF, itA, nmG, nilG, consG, tupG, yesB, wipeD,
 addD_ii, addD_ss, addD_ll, subD_ii, mulD_ii, mulD_li, mulD_si, fdivD_ii, modD_ii, powD_10_18, ltD_ii, leD_ii, gtD_ii, geD_ii, gtD_ss, ltD_ss, eqD_ii, eqD_ss, eqD_bb, neD_ii, neD_ss, isBD_bb, isND_non, isND_int, isND_str, notND_non, notND_int, notND_str, lenD_s, lenD_l, lenD_r, lenD_t, lenD_c, min2D_ii, max2D_ii, intD_i, intD_b, strD_i, sumD_l, sumD_c, sumD_t, maxD_c, tupleD_l, tupleD_t, tupleD_c, listD_l, listD_t,
 ixD_l, ixD_r, ixD_t, ixD_s, ixD_c, slD_s, slD_l, slD_r, putIx_c, appendD_c, extendD_cl, isTy_c, isTy_s, isTy_l, iaddD, atI_0, atI_1, atI_2, atI_3, atI_4, low_int, low_str, low_bl, low_non, anyI_l, anyI_r, anyI_t, anyI_s, rng1I_i, rng2I_ii, ixN5, set_concat, get_concat, take_concat, len_concat, notInD_cs, inD_cs, sindexD_s, intD_s, tyN_s, tyN_i, tyN_b, tyN_n, tyN_t, tyN_l, tyIs_t, zipI_tt,
 startD, List.map_cons, List.map_nil, List.length_cons, List.length_nil, List.cons_append, List.nil_append, List.getElem?_cons_zero, List.getElem?_cons_succ, List.set_cons_zero, List.set_cons_succ, List.replicate_succ, List.replicate_zero, Option.bind_some, if_true, if_false, Bool.true_and, Bool.false_and, Bool.and_true, Bool.not_true, Bool.not_false, decide_true, decide_false, eq_self, Nat.zero_add, Nat.reduceAdd, Nat.reduceSub, reduceIte, reduceCtorEq, Int.reduceEq, Bool.false_eq_true, true_and, and_true, true_or, or_true, decide_eq_true_eq, leave_rt, fz_bl, List.take_length]
theorem odd_neg {i : Int} (h : i < 0) : Odd (.int i) := ⟨fun _ _ _ => fz_int, .inl ⟨i, rfl, h⟩⟩
theorem odd_bl (b : Bool) : Odd (.bl b) := ⟨fun _ _ _ => fz_bl, .inr fun S => by
  unfold F_is_whole fnF g_is_whole; simp only [Bd, seqS, setS, retS, retN, dropS, ifS, forS, putS, augS, nxS, bkS, ctS, SR.seq_nx, SR.seq_rt, SR.seq_exc, SR.seq_bk, SR.seq_ct, SR.turn_nx, SR.turn_ct, SR.turn_bk, SR.turn_rt, SR.turn_exc, R.bind_ok, R.bind_bad, R.bind_exc, R.bindN_ok, R.st_ok, R.st_exc,
 varE, cE, binF, tstF, chnF, andB, orB, notB, andV, orV, notV, ifE, nilF, consF, tupF, lstF, ownF, negF, noO, someO, slF, callF, appF, isiF, mthF, itF, itA, nmG, nilG, consG, tupG, yesB, wipeD,
 addD_ii, addD_ss, addD_ll, subD_ii, mulD_ii, mulD_li, mulD_si, fdivD_ii, modD_ii, powD_10_18, ltD_ii, leD_ii, gtD_ii, geD_ii, gtD_ss, ltD_ss, eqD_ii, eqD_ss, eqD_bb, neD_ii, neD_ss, isBD_bb, isND_non, isND_int, isND_str, notND_non, notND_int, notND_str, lenD_s, lenD_l, lenD_r, lenD_t, lenD_c, min2D_ii, max2D_ii, intD_i, intD_b, strD_i, sumD_l, sumD_c, sumD_t, maxD_c, tupleD_l, tupleD_t, tupleD_c, listD_l, listD_t,
 ixD_l, ixD_r, ixD_t, ixD_s, ixD_c, slD_s, slD_l, slD_r, putIx_c, appendD_c, extendD_cl, isTy_c, isTy_s, isTy_l, iaddD, atI_0, atI_1, atI_2, atI_3, atI_4, low_int, low_str, low_bl, low_non, anyI_l, anyI_r, anyI_t, anyI_s, rng1I_i, rng2I_ii, ixN5, set_concat, get_concat, take_concat, len_concat, notInD_cs, inD_cs, sindexD_s, intD_s, tyN_s, tyN_i, tyN_b, tyN_n, tyN_t, tyN_l, tyIs_t, zipI_tt,
 startD, List.map_cons, List.map_nil, List.length_cons, List.length_nil, List.cons_append, List.nil_append, List.getElem?_cons_zero, List.getElem?_cons_succ, List.set_cons_zero, List.set_cons_succ, List.replicate_succ, List.replicate_zero, Option.bind_some, if_true, if_false, Bool.true_and, Bool.false_and, Bool.and_true, Bool.not_true, Bool.not_false, decide_true, decide_false, eq_self, Nat.zero_add, Nat.reduceAdd, Nat.reduceSub, reduceIte, reduceCtorEq, Int.reduceEq, Bool.false_eq_true, true_and, and_true, true_or, or_true, decide_eq_true_eq, leave_rt, fz_bl, List.take_length]⟩
theorem odd_non : Odd .non := ⟨fun _ _ _ => fz_non, .inr fun S => by
  unfold F_is_whole fnF g_is_whole; simp only [Bd, seqS, setS, retS, retN, dropS, ifS, forS, putS, augS, nxS, bkS, ctS, SR.seq_nx, SR.seq_rt, SR.seq_exc, SR.seq_bk, SR.seq_ct, SR.turn_nx, SR.turn_ct, SR.turn_bk, SR.turn_rt, SR.turn_exc, R.bind_ok, R.bind_bad, R.bind_exc, R.bindN_ok, R.st_ok, R.st_exc,
 varE, cE, binF, tstF, chnF, andB, orB, notB, andV, orV, notV, ifE, nilF, consF, tupF, lstF, ownF, negF, noO, someO, slF, callF, appF, isiF, mthF, itF, itA, nmG, nilG, consG, tupG, yesB, wipeD,
 addD_ii, addD_ss, addD_ll, subD_ii, mulD_ii, mulD_li, mulD_si, fdivD_ii, modD_ii, powD_10_18, ltD_ii, leD_ii, gtD_ii, geD_ii, gtD_ss, ltD_ss, eqD_ii, eqD_ss, eqD_bb, neD_ii, neD_ss, isBD_bb, isND_non, isND_int, isND_str, notND_non, notND_int, notND_str, lenD_s, lenD_l, lenD_r, lenD_t, lenD_c, min2D_ii, max2D_ii, intD_i, intD_b, strD_i, sumD_l, sumD_c, sumD_t, maxD_c, tupleD_l, tupleD_t, tupleD_c, listD_l, listD_t,
 ixD_l, ixD_r, ixD_t, ixD_s, ixD_c, slD_s, slD_l, slD_r, putIx_c, appendD_c, extendD_cl, isTy_c, isTy_s, isTy_l, iaddD, atI_0, atI_1, atI_2, atI_3, atI_4, low_int, low_str, low_bl, low_non, anyI_l, anyI_r, anyI_t, anyI_s, rng1I_i, rng2I_ii, ixN5, set_concat, get_concat, take_concat, len_concat, notInD_cs, inD_cs, sindexD_s, intD_s, tyN_s, tyN_i, tyN_b, tyN_n, tyN_t, tyN_l, tyIs_t, zipI_tt,
 startD, List.map_cons, List.map_nil, List.length_cons, List.length_nil, List.cons_append, List.nil_append, List.getElem?_cons_zero, List.getElem?_cons_succ, List.set_cons_zero, List.set_cons_succ, List.replicate_succ, List.replicate_zero, Option.bind_some, if_true, if_false, Bool.true_and, Bool.false_and, Bool.and_true, Bool.not_true, Bool.not_false, decide_true, decide_false, eq_self, Nat.zero_add, Nat.reduceAdd, Nat.reduceSub, reduceIte, reduceCtorEq, Int.reduceEq, Bool.false_eq_true, true_and, and_true, true_or, or_true, decide_eq_true_eq, leave_rt, fz_bl, List.take_length]⟩
theorem odd_str (z : Str) : Odd (.str z) := ⟨fun _ _ _ => fz_str, .inr fun S => by
  unfold F_is_whole fnF g_is_whole; simp only [Bd, seqS, setS, retS, retN, dropS, ifS, forS, putS, augS, nxS, bkS, ctS, SR.seq_nx, SR.seq_rt, SR.seq_exc, SR.seq_bk, SR.seq_ct, SR.turn_nx, SR.turn_ct, SR.turn_bk, SR.turn_rt, SR.turn_exc, R.bind_ok, R.bind_bad, R.bind_exc, R.bindN_ok, R.st_ok, R.st_exc,
 varE, cE, binF, tstF, chnF, andB, orB, notB, andV, orV, notV, ifE, nilF, consF, tupF, lstF, ownF, negF, noO, someO, slF, callF, appF, isiF, mthF, itF, itA, nmG, nilG, consG, tupG, yesB, wipeD,
 addD_ii, addD_ss, addD_ll, subD_ii, mulD_ii, mulD_li, mulD_si, fdivD_ii, modD_ii, powD_10_18, ltD_ii, leD_ii, gtD_ii, geD_ii, gtD_ss, ltD_ss, eqD_ii, eqD_ss, eqD_bb, neD_ii, neD_ss, isBD_bb, isND_non, isND_int, isND_str, notND_non, notND_int, notND_str, lenD_s, lenD_l, lenD_r, lenD_t, lenD_c, min2D_ii, max2D_ii, intD_i, intD_b, strD_i, sumD_l, sumD_c, sumD_t, maxD_c, tupleD_l, tupleD_t, tupleD_c, listD_l, listD_t,
 ixD_l, ixD_r, ixD_t, ixD_s, ixD_c, slD_s, slD_l, slD_r, putIx_c, appendD_c, extendD_cl, isTy_c, isTy_s, isTy_l, iaddD, atI_0, atI_1, atI_2, atI_3, atI_4, low_int, low_str, low_bl, low_non, anyI_l, anyI_r, anyI_t, anyI_s, rng1I_i, rng2I_ii, ixN5, set_concat, get_concat, take_concat, len_concat, notInD_cs, inD_cs, sindexD_s, intD_s, tyN_s, tyN_i, tyN_b, tyN_n, tyN_t, tyN_l, tyIs_t, zipI_tt,
 startD, List.map_cons, List.map_nil, List.length_cons, List.length_nil, List.cons_append, List.nil_append, List.getElem?_cons_zero, List.getElem?_cons_succ, List.set_cons_zero, List.set_cons_succ, List.replicate_succ, List.replicate_zero, Option.bind_some, if_true, if_false, Bool.true_and, Bool.false_and, Bool.and_true, Bool.not_true, Bool.not_false, decide_true, decide_false, eq_self, Nat.zero_add, Nat.reduceAdd, Nat.reduceSub, reduceIte, reduceCtorEq, Int.reduceEq, Bool.false_eq_true, true_and, and_true, true_or, or_true, decide_eq_true_eq, leave_rt, fz_bl, List.take_length]⟩
theorem odd_tup (l : List Int) : Odd (.tup (l.map .int)) := ⟨fun _ _ _ => by rw [fz_tup, fz_mapint], .inr fun S => by
  unfold F_is_whole fnF g_is_whole; simp only [Bd, seqS, setS, retS, retN, dropS, ifS, forS, putS, augS, nxS, bkS, ctS, SR.seq_nx, SR.seq_rt, SR.seq_exc, SR.seq_bk, SR.seq_ct, SR.turn_nx, SR.turn_ct, SR.turn_bk, SR.turn_rt, SR.turn_exc, R.bind_ok, R.bind_bad, R.bind_exc, R.bindN_ok, R.st_ok, R.st_exc,
 varE, cE, binF, tstF, chnF, andB, orB, notB, andV, orV, notV, ifE, nilF, consF, tupF, lstF, ownF, negF, noO, someO, slF, callF, appF, isiF, mthF, itF, itA, nmG, nilG, consG, tupG, yesB, wipeD,
 addD_ii, addD_ss, addD_ll, subD_ii, mulD_ii, mulD_li, mulD_si, fdivD_ii, modD_ii, powD_10_18, ltD_ii, leD_ii, gtD_ii, geD_ii, gtD_ss, ltD_ss, eqD_ii, eqD_ss, eqD_bb, neD_ii, neD_ss, isBD_bb, isND_non, isND_int, isND_str, notND_non, notND_int, notND_str, lenD_s, lenD_l, lenD_r, lenD_t, lenD_c, min2D_ii, max2D_ii, intD_i, intD_b, strD_i, sumD_l, sumD_c, sumD_t, maxD_c, tupleD_l, tupleD_t, tupleD_c, listD_l, listD_t,
 ixD_l, ixD_r, ixD_t, ixD_s, ixD_c, slD_s, slD_l, slD_r, putIx_c, appendD_c, extendD_cl, isTy_c, isTy_s, isTy_l, iaddD, atI_0, atI_1, atI_2, atI_3, atI_4, low_int, low_str, low_bl, low_non, anyI_l, anyI_r, anyI_t, anyI_s, rng1I_i, rng2I_ii, ixN5, set_concat, get_concat, take_concat, len_concat, notInD_cs, inD_cs, sindexD_s, intD_s, tyN_s, tyN_i, tyN_b, tyN_n, tyN_t, tyN_l, tyIs_t, zipI_tt,
 startD, List.map_cons, List.map_nil, List.length_cons, List.length_nil, List.cons_append, List.nil_append, List.getElem?_cons_zero, List.getElem?_cons_succ, List.set_cons_zero, List.set_cons_succ, List.replicate_succ, List.replicate_zero, Option.bind_some, if_true, if_false, Bool.true_and, Bool.false_and, Bool.and_true, Bool.not_true, Bool.not_false, decide_true, decide_false, eq_self, Nat.zero_add, Nat.reduceAdd, Nat.reduceSub, reduceIte, reduceCtorEq, Int.reduceEq, Bool.false_eq_true, true_and, and_true, true_or, or_true, decide_eq_true_eq, leave_rt, fz_bl, List.take_length]⟩
theorem odd_lst (l : List Int) : Odd (.lst (l.map .int)) := ⟨fun _ _ _ => by rw [fz_lst, fz_mapint], .inr fun S => by
  unfold F_is_whole fnF g_is_whole; simp only [Bd, seqS, setS, retS, retN, dropS, ifS, forS, putS, augS, nxS, bkS, ctS, SR.seq_nx, SR.seq_rt, SR.seq_exc, SR.seq_bk, SR.seq_ct, SR.turn_nx, SR.turn_ct, SR.turn_bk, SR.turn_rt, SR.turn_exc, R.bind_ok, R.bind_bad, R.bind_exc, R.bindN_ok, R.st_ok, R.st_exc,
 varE, cE, binF, tstF, chnF, andB, orB, notB, andV, orV, notV, ifE, nilF, consF, tupF, lstF, ownF, negF, noO, someO, slF, callF, appF, isiF, mthF, itF, itA, nmG, nilG, consG, tupG, yesB, wipeD,
 addD_ii, addD_ss, addD_ll, subD_ii, mulD_ii, mulD_li, mulD_si, fdivD_ii, modD_ii, powD_10_18, ltD_ii, leD_ii, gtD_ii, geD_ii, gtD_ss, ltD_ss, eqD_ii, eqD_ss, eqD_bb, neD_ii, neD_ss, isBD_bb, isND_non, isND_int, isND_str, notND_non, notND_int, notND_str, lenD_s, lenD_l, lenD_r, lenD_t, lenD_c, min2D_ii, max2D_ii, intD_i, intD_b, strD_i, sumD_l, sumD_c, sumD_t, maxD_c, tupleD_l, tupleD_t, tupleD_c, listD_l, listD_t,
 ixD_l, ixD_r, ixD_t, ixD_s, ixD_c, slD_s, slD_l, slD_r, putIx_c, appendD_c, extendD_cl, isTy_c, isTy_s, isTy_l, iaddD, atI_0, atI_1, atI_2, atI_3, atI_4, low_int, low_str, low_bl, low_non, anyI_l, anyI_r, anyI_t, anyI_s, rng1I_i, rng2I_ii, ixN5, set_concat, get_concat, take_concat, len_concat, notInD_cs, inD_cs, sindexD_s, intD_s, tyN_s, tyN_i, tyN_b, tyN_n, tyN_t, tyN_l, tyIs_t, zipI_tt,
 startD, List.map_cons, List.map_nil, List.length_cons, List.length_nil, List.cons_append, List.nil_append, List.getElem?_cons_zero, List.getElem?_cons_succ, List.set_cons_zero, List.set_cons_succ, List.replicate_succ, List.replicate_zero, Option.bind_some, if_true, if_false, Bool.true_and, Bool.false_and, Bool.and_true, Bool.not_true, Bool.not_false, decide_true, decide_false, eq_self, Nat.zero_add, Nat.reduceAdd, Nat.reduceSub, reduceIte, reduceCtorEq, Int.reduceEq, Bool.false_eq_true, true_and, and_true, true_or, or_true, decide_eq_true_eq, leave_rt, fz_bl, List.take_length]⟩
theorem check_ok {i : Int} (h : 0 ≤ i) (S : Sto) : F_check_offset [.int i] S = .ok .non S := by
  unfold F_check_offset fnF g_check_offset
  simp only [Bd, seqS, setS, retS, retN, dropS, ifS, forS, putS, augS, nxS, bkS, ctS, SR.seq_nx, SR.seq_rt, SR.seq_exc, SR.seq_bk, SR.seq_ct, SR.turn_nx, SR.turn_ct, SR.turn_bk, SR.turn_rt, SR.turn_exc, R.bind_ok, R.bind_bad, R.bind_exc, R.bindN_ok, R.st_ok, R.st_exc,
 varE, cE, binF, tstF, chnF, andB, orB, notB, andV, orV, notV, ifE, nilF, consF, tupF, lstF, ownF, negF, noO, someO, slF, callF, appF, isiF, mthF, itF, itA, nmG, nilG, consG, tupG, yesB, wipeD,
 addD_ii, addD_ss, addD_ll, subD_ii, mulD_ii, mulD_li, mulD_si, fdivD_ii, modD_ii, powD_10_18, ltD_ii, leD_ii, gtD_ii, geD_ii, gtD_ss, ltD_ss, eqD_ii, eqD_ss, eqD_bb, neD_ii, neD_ss, isBD_bb, isND_non, isND_int, isND_str, notND_non, notND_int, notND_str, lenD_s, lenD_l, lenD_r, lenD_t, lenD_c, min2D_ii, max2D_ii, intD_i, intD_b, strD_i, sumD_l, sumD_c, sumD_t, maxD_c, tupleD_l, tupleD_t, tupleD_c, listD_l, listD_t,
 ixD_l, ixD_r, ixD_t, ixD_s, ixD_c, slD_s, slD_l, slD_r, putIx_c, appendD_c, extendD_cl, isTy_c, isTy_s, isTy_l, iaddD, atI_0, atI_1, atI_2, atI_3, atI_4, low_int, low_str, low_bl, low_non, anyI_l, anyI_r, anyI_t, anyI_s, rng1I_i, rng2I_ii, ixN5, set_concat, get_concat, take_concat, len_concat, notInD_cs, inD_cs, sindexD_s, intD_s, tyN_s, tyN_i, tyN_b, tyN_n, tyN_t, tyN_l, tyIs_t, zipI_tt,
 startD, List.map_cons, List.map_nil, List.length_cons, List.length_nil, List.cons_append, List.nil_append, List.getElem?_cons_zero, List.getElem?_cons_succ, List.set_cons_zero, List.set_cons_succ, List.replicate_succ, List.replicate_zero, Option.bind_some, if_true, if_false, Bool.true_and, Bool.false_and, Bool.and_true, Bool.not_true, Bool.not_false, decide_true, decide_false, eq_self, Nat.zero_add, Nat.reduceAdd, Nat.reduceSub, reduceIte, reduceCtorEq, Int.reduceEq, Bool.false_eq_true, true_and, and_true, true_or, or_true, decide_eq_true_eq, whole_i, show ¬ i < 0 by omega, leave_nx, List.take_length]
theorem check_odd {d : D} (h : Odd d) (S : Sto) : F_check_offset [d] S = .exc "BadOffset" ["offset"] [d] S := by
  unfold F_check_offset fnF g_check_offset
  rcases h.wh with ⟨i, rfl, hi⟩ | hw
  · simp only [Bd, seqS, setS, retS, retN, dropS, ifS, forS, putS, augS, nxS, bkS, ctS, SR.seq_nx, SR.seq_rt, SR.seq_exc, SR.seq_bk, SR.seq_ct, SR.turn_nx, SR.turn_ct, SR.turn_bk, SR.turn_rt, SR.turn_exc, R.bind_ok, R.bind_bad, R.bind_exc, R.bindN_ok, R.st_ok, R.st_exc,
 varE, cE, binF, tstF, chnF, andB, orB, notB, andV, orV, notV, ifE, nilF, consF, tupF, lstF, ownF, negF, noO, someO, slF, callF, appF, isiF, mthF, itF, itA, nmG, nilG, consG, tupG, yesB, wipeD,
 addD_ii, addD_ss, addD_ll, subD_ii, mulD_ii, mulD_li, mulD_si, fdivD_ii, modD_ii, powD_10_18, ltD_ii, leD_ii, gtD_ii, geD_ii, gtD_ss, ltD_ss, eqD_ii, eqD_ss, eqD_bb, neD_ii, neD_ss, isBD_bb, isND_non, isND_int, isND_str, notND_non, notND_int, notND_str, lenD_s, lenD_l, lenD_r, lenD_t, lenD_c, min2D_ii, max2D_ii, intD_i, intD_b, strD_i, sumD_l, sumD_c, sumD_t, maxD_c, tupleD_l, tupleD_t, tupleD_c, listD_l, listD_t,
 ixD_l, ixD_r, ixD_t, ixD_s, ixD_c, slD_s, slD_l, slD_r, putIx_c, appendD_c, extendD_cl, isTy_c, isTy_s, isTy_l, iaddD, atI_0, atI_1, atI_2, atI_3, atI_4, low_int, low_str, low_bl, low_non, anyI_l, anyI_r, anyI_t, anyI_s, rng1I_i, rng2I_ii, ixN5, set_concat, get_concat, take_concat, len_concat, notInD_cs, inD_cs, sindexD_s, intD_s, tyN_s, tyN_i, tyN_b, tyN_n, tyN_t, tyN_l, tyIs_t, zipI_tt,
 startD, List.map_cons, List.map_nil, List.length_cons, List.length_nil, List.cons_append, List.nil_append, List.getElem?_cons_zero, List.getElem?_cons_succ, List.set_cons_zero, List.set_cons_succ, List.replicate_succ, List.replicate_zero, Option.bind_some, if_true, if_false, Bool.true_and, Bool.false_and, Bool.and_true, Bool.not_true, Bool.not_false, decide_true, decide_false, eq_self, Nat.zero_add, Nat.reduceAdd, Nat.reduceSub, reduceIte, reduceCtorEq, Int.reduceEq, Bool.false_eq_true, true_and, and_true, true_or, or_true, decide_eq_true_eq, whole_i, hi, raiseS, leave, List.reverse_cons, List.reverse_nil, h.fr, List.take_length]
  · simp only [Bd, seqS, setS, retS, retN, dropS, ifS, forS, putS, augS, nxS, bkS, ctS, SR.seq_nx, SR.seq_rt, SR.seq_exc, SR.seq_bk, SR.seq_ct, SR.turn_nx, SR.turn_ct, SR.turn_bk, SR.turn_rt, SR.turn_exc, R.bind_ok, R.bind_bad, R.bind_exc, R.bindN_ok, R.st_ok, R.st_exc,
 varE, cE, binF, tstF, chnF, andB, orB, notB, andV, orV, notV, ifE, nilF, consF, tupF, lstF, ownF, negF, noO, someO, slF, callF, appF, isiF, mthF, itF, itA, nmG, nilG, consG, tupG, yesB, wipeD,
 addD_ii, addD_ss, addD_ll, subD_ii, mulD_ii, mulD_li, mulD_si, fdivD_ii, modD_ii, powD_10_18, ltD_ii, leD_ii, gtD_ii, geD_ii, gtD_ss, ltD_ss, eqD_ii, eqD_ss, eqD_bb, neD_ii, neD_ss, isBD_bb, isND_non, isND_int, isND_str, notND_non, notND_int, notND_str, lenD_s, lenD_l, lenD_r, lenD_t, lenD_c, min2D_ii, max2D_ii, intD_i, intD_b, strD_i, sumD_l, sumD_c, sumD_t, maxD_c, tupleD_l, tupleD_t, tupleD_c, listD_l, listD_t,
 ixD_l, ixD_r, ixD_t, ixD_s, ixD_c, slD_s, slD_l, slD_r, putIx_c, appendD_c, extendD_cl, isTy_c, isTy_s, isTy_l, iaddD, atI_0, atI_1, atI_2, atI_3, atI_4, low_int, low_str, low_bl, low_non, anyI_l, anyI_r, anyI_t, anyI_s, rng1I_i, rng2I_ii, ixN5, set_concat, get_concat, take_concat, len_concat, notInD_cs, inD_cs, sindexD_s, intD_s, tyN_s, tyN_i, tyN_b, tyN_n, tyN_t, tyN_l, tyIs_t, zipI_tt,
 startD, List.map_cons, List.map_nil, List.length_cons, List.length_nil, List.cons_append, List.nil_append, List.getElem?_cons_zero, List.getElem?_cons_succ, List.set_cons_zero, List.set_cons_succ, List.replicate_succ, List.replicate_zero, Option.bind_some, if_true, if_false, Bool.true_and, Bool.false_and, Bool.and_true, Bool.not_true, Bool.not_false, decide_true, decide_false, eq_self, Nat.zero_add, Nat.reduceAdd, Nat.reduceSub, reduceIte, reduceCtorEq, Int.reduceEq, Bool.false_eq_true, true_and, and_true, true_or, or_true, decide_eq_true_eq, hw, raiseS, leave, List.reverse_cons, List.reverse_nil, h.fr, List.take_length]

/-! ### how a set of strokes is made -/
abbrev knK (l : List Int) : List Key := l.map Sum.inl
abbrev knV (l : List Int) : List D := l.map fun _ => D.bl true
/-- a set of strokes -/
def skO (l : List Int) : D := .obj "Strokes" ["offsets", "known"] [.tup (l.map .int), .dic (knK l) (knV l)]
/-- rising offsets from 0 on -/
structure Rise (l : List Int) : Prop where
  up : l.Pairwise (· < ·)
  nn : ∀ x ∈ l, 0 ≤ x
  few : l.length ≤ 4000
theorem fz_sk (n : Nat) (S : Sto) (k : Nat) (l : List Int) : fz n S k (skO l) = skO l := by
  unfold skO; rw [fz_obj]; simp only [List.map_cons, List.map_nil, fz_tup, fz_dic, fz_mapint, fz_bls]
theorem low_sk (n : Nat) (l : List Int) : low n (skO l) = true := by
  show (lowL n (l.map .int) && (lowL n (knV l) && true)) = true
  rw [lowL_ints, lowL_all, List.all_map]; simp [low]
theorem usort_self {l : List Int} (h : l.Pairwise (· < ·)) : usort l = l := rise_eq (usort_lt l) h fun k => usort_mem k l
theorem usort_len (l : List Int) : (usort l).length ≤ l.length := by
  have ui : ∀ (x : Int) (m : List Int), (uins x m).length ≤ m.length + 1 := fun x m => by
    induction m with
    | nil => simp [uins]
    | cons y m ih => unfold uins; split; · simp
                     split; · simp
                     rw [List.length_cons, List.length_cons]; omega
  induction l with
  | nil => simp [usort]
  | cons x l ih => have := ui x (usort l); show (uins x (usort l)).length ≤ _; rw [List.length_cons]; omega
theorem Rise.usort {l : List Int} (h : ∀ x ∈ l, 0 ≤ x) (hl : l.length ≤ 4000) : Rise (usort l) := ⟨usort_lt l, fun x hx => h x ((usort_mem x l).mp hx), Nat.le_trans (usort_len l) hl⟩
noncomputable def chkB : SF := (dropS (callF 1 F_check_offset (consF (varE 2) nilF)))
theorem chk_loop {a b : D} {S : Sto} {rest : List D} : ∀ (ns : List Int) (u : Option D), (∀ x ∈ ns, 0 ≤ x) → ∃ v, forL (nmG 2) chkB (ns.map D.int ++ rest) [some a, some b, u] S = forL (nmG 2) chkB rest [some a, some b, v] S
  | [], u, _ => ⟨u, rfl⟩
  | x :: ns, u, h => by
    obtain ⟨v, e⟩ := chk_loop ns (some (.int x)) fun y hy => h y (List.mem_cons_of_mem _ hy)
    refine ⟨v, ?_⟩
    rw [← e, List.map_cons, List.cons_append, forL_cons (ρ1 := [some a, some b, some (.int x)]) rfl]
    simp only [Bd, seqS, setS, retS, retN, dropS, ifS, forS, putS, augS, nxS, bkS, ctS, SR.seq_nx, SR.seq_rt, SR.seq_exc, SR.seq_bk, SR.seq_ct, SR.turn_nx, SR.turn_ct, SR.turn_bk, SR.turn_rt, SR.turn_exc, R.bind_ok, R.bind_bad, R.bind_exc, R.bindN_ok, R.st_ok, R.st_exc,
 varE, cE, binF, tstF, chnF, andB, orB, notB, andV, orV, notV, ifE, nilF, consF, tupF, lstF, ownF, negF, noO, someO, slF, callF, appF, isiF, mthF, itF, itA, nmG, nilG, consG, tupG, yesB, wipeD,
 addD_ii, addD_ss, addD_ll, subD_ii, mulD_ii, mulD_li, mulD_si, fdivD_ii, modD_ii, powD_10_18, ltD_ii, leD_ii, gtD_ii, geD_ii, gtD_ss, ltD_ss, eqD_ii, eqD_ss, eqD_bb, neD_ii, neD_ss, isBD_bb, isND_non, isND_int, isND_str, notND_non, notND_int, notND_str, lenD_s, lenD_l, lenD_r, lenD_t, lenD_c, min2D_ii, max2D_ii, intD_i, intD_b, strD_i, sumD_l, sumD_c, sumD_t, maxD_c, tupleD_l, tupleD_t, tupleD_c, listD_l, listD_t,
 ixD_l, ixD_r, ixD_t, ixD_s, ixD_c, slD_s, slD_l, slD_r, putIx_c, appendD_c, extendD_cl, isTy_c, isTy_s, isTy_l, iaddD, atI_0, atI_1, atI_2, atI_3, atI_4, low_int, low_str, low_bl, low_non, anyI_l, anyI_r, anyI_t, anyI_s, rng1I_i, rng2I_ii, ixN5, set_concat, get_concat, take_concat, len_concat, notInD_cs, inD_cs, sindexD_s, intD_s, tyN_s, tyN_i, tyN_b, tyN_n, tyN_t, tyN_l, tyIs_t, zipI_tt,
 startD, List.map_cons, List.map_nil, List.length_cons, List.length_nil, List.cons_append, List.nil_append, List.getElem?_cons_zero, List.getElem?_cons_succ, List.set_cons_zero, List.set_cons_succ, List.replicate_succ, List.replicate_zero, Option.bind_some, if_true, if_false, Bool.true_and, Bool.false_and, Bool.and_true, Bool.not_true, Bool.not_false, decide_true, decide_false, eq_self, Nat.zero_add, Nat.reduceAdd, Nat.reduceSub, reduceIte, reduceCtorEq, Int.reduceEq, Bool.false_eq_true, true_and, and_true, true_or, or_true, decide_eq_true_eq, chkB, check_ok (h x List.mem_cons_self)]
theorem chk_exc {a b d : D} {S : Sto} {rest : List D} (ns : List Int) (u : Option D) (h : ∀ x ∈ ns, 0 ≤ x) (hd : Odd d) : ∃ ρ, forL (nmG 2) chkB (ns.map D.int ++ d :: rest) [some a, some b, u] S = .exc "BadOffset" ["offset"] [d] ρ S := by
  obtain ⟨v, e⟩ := chk_loop (a := a) (b := b) (S := S) (rest := d :: rest) ns u h
  refine ⟨[some a, some b, some d], ?_⟩
  rw [e, forL_cons (ρ1 := [some a, some b, some d]) rfl]
  simp only [Bd, seqS, setS, retS, retN, dropS, ifS, forS, putS, augS, nxS, bkS, ctS, SR.seq_nx, SR.seq_rt, SR.seq_exc, SR.seq_bk, SR.seq_ct, SR.turn_nx, SR.turn_ct, SR.turn_bk, SR.turn_rt, SR.turn_exc, R.bind_ok, R.bind_bad, R.bind_exc, R.bindN_ok, R.st_ok, R.st_exc,
 varE, cE, binF, tstF, chnF, andB, orB, notB, andV, orV, notV, ifE, nilF, consF, tupF, lstF, ownF, negF, noO, someO, slF, callF, appF, isiF, mthF, itF, itA, nmG, nilG, consG, tupG, yesB, wipeD,
 addD_ii, addD_ss, addD_ll, subD_ii, mulD_ii, mulD_li, mulD_si, fdivD_ii, modD_ii, powD_10_18, ltD_ii, leD_ii, gtD_ii, geD_ii, gtD_ss, ltD_ss, eqD_ii, eqD_ss, eqD_bb, neD_ii, neD_ss, isBD_bb, isND_non, isND_int, isND_str, notND_non, notND_int, notND_str, lenD_s, lenD_l, lenD_r, lenD_t, lenD_c, min2D_ii, max2D_ii, intD_i, intD_b, strD_i, sumD_l, sumD_c, sumD_t, maxD_c, tupleD_l, tupleD_t, tupleD_c, listD_l, listD_t,
 ixD_l, ixD_r, ixD_t, ixD_s, ixD_c, slD_s, slD_l, slD_r, putIx_c, appendD_c, extendD_cl, isTy_c, isTy_s, isTy_l, iaddD, atI_0, atI_1, atI_2, atI_3, atI_4, low_int, low_str, low_bl, low_non, anyI_l, anyI_r, anyI_t, anyI_s, rng1I_i, rng2I_ii, ixN5, set_concat, get_concat, take_concat, len_concat, notInD_cs, inD_cs, sindexD_s, intD_s, tyN_s, tyN_i, tyN_b, tyN_n, tyN_t, tyN_l, tyIs_t, zipI_tt,
 startD, List.map_cons, List.map_nil, List.length_cons, List.length_nil, List.cons_append, List.nil_append, List.getElem?_cons_zero, List.getElem?_cons_succ, List.set_cons_zero, List.set_cons_succ, List.replicate_succ, List.replicate_zero, Option.bind_some, if_true, if_false, Bool.true_and, Bool.false_and, Bool.and_true, Bool.not_true, Bool.not_false, decide_true, decide_false, eq_self, Nat.zero_add, Nat.reduceAdd, Nat.reduceSub, reduceIte, reduceCtorEq, Int.reduceEq, Bool.false_eq_true, true_and, and_true, true_or, or_true, decide_eq_true_eq, chkB, check_odd hd]
theorem hasK_not {l : List Int} {x : Int} (h : x ∉ l) : hasK (knK l) (Sum.inl x) = false := by
  unfold hasK knK
  rw [List.any_map]
  apply List.any_eq_false.mpr
  intro y hy
  have : y ≠ x := fun e => h (e ▸ hy)
  simpa using this
theorem dcm_known {n : Nat} {T : Sto} {ρ : Nv} (hn : n = T.length) (h2 : 2 < ρ.length) : ∀ (ns acc : List Int), (acc ++ ns).Nodup → acc.length + ns.length ≤ 100000 →
    dcmL n (nmG 2) yesB (varE 2) (cE (.bl true)) ρ (ns.map D.int) (T ++ [.dic (knK acc) (knV acc)]) = .ok () (T ++ [.dic (knK (acc ++ ns)) (knV (acc ++ ns))])
  | [], acc, _, _ => by simp [dcmL]
  | x :: ns, acc, hd, hl => by
    rw [List.length_cons] at hl
    have hx : x ∉ acc := fun hx => by
      have := List.nodup_append.mp hd
      exact this.2.2 x hx x List.mem_cons_self rfl
    have ih := dcm_known (ρ := ρ) hn h2 ns (acc ++ [x]) (by rw [List.append_assoc]; exact hd) (by rw [List.length_append, List.length_singleton]; omega)
    have hg : (ρ.set 2 (some (.int x)))[2]? = some (some (.int x)) := List.getElem?_set_self h2
    have v2 : varE 2 (ρ.set 2 (some (.int x))) (T ++ [.dic (knK acc) (knV acc)]) = .ok (.int x) (T ++ [.dic (knK acc) (knV acc)]) := by unfold varE; rw [hg]
    rw [List.map_cons]
    unfold dcmL
    show (yesB _ _).bindN _ = _
    unfold yesB
    rw [R.bindN_ok, if_pos rfl, v2, R.bindN_ok]
    show (cE (.bl true) _ _).bindN _ = _
    unfold cE
    rw [R.bindN_ok]
    show (putC n (Sum.inl x) _ _).bindN _ = _
    unfold putC
    subst hn
    rw [get_concat]
    dsimp only
    rw [if_pos (by simp [low]; exact sizeLine_big (by omega)), R.bindN_ok, set_concat]
    unfold kputK kputV
    rw [hasK_not hx, if_neg (by simp), if_neg (by simp)]
    rw [List.append_assoc] at ih
    rw [show knK acc ++ [Sum.inl x] = knK (acc ++ [x]) by simp [knK], show knV acc ++ [D.bl true] = knV (acc ++ [x]) by simp [knV]]
    exact ih
theorem rise_nodup {l : List Int} (h : l.Pairwise (· < ·)) : l.Nodup := h.imp fun hab e => by omega
/-- d: a row of whole numbers, as the program goes through it -/
structure Row (d : D) (ds : List D) : Prop where
  any : ∀ S, anyI d S = .ok ds S
  q : ∀ S, asQ d S = some ds
theorem row_l (ds : List D) : Row (.lst ds) ds := ⟨fun _ => rfl, fun _ => rfl⟩
theorem row_t (ds : List D) : Row (.tup ds) ds := ⟨fun _ => rfl, fun _ => rfl⟩
theorem init_ok {d : D} {ns : List Int} {S : Sto} (hr : Row d (ns.map .int)) (h : ∀ x ∈ ns, 0 ≤ x) (hl : ns.length ≤ 4000) :
    F_Strokes___init__ [.cell S.length, d] (S ++ [.obj "Strokes" [] []]) = .ok .non (S ++ [.obj "Strokes" ["offsets", "known"] [.tup ((usort ns).map .int), .dic (knK (usort ns)) (knV (usort ns))]]) := by
  unfold F_Strokes___init__ fnF g_Strokes___init__
  obtain ⟨v, e⟩ := chk_loop (a := .cell S.length) (b := d) (S := S ++ [.obj "Strokes" [] []]) (rest := []) ns none h
  rw [List.append_nil, forL_nil] at e
  unfold chkB at e
  have hz : NLe (ns.length + 2) 4096 := show _ ≤ _ by omega
  have low1 : low S.length (.tup ((usort ns).map .int)) = true := lowL_ints _ _
  have low2 : low S.length (.dic (knK (usort ns)) (knV (usort ns))) = true := by show lowL _ (knV _) = true; rw [lowL_all, List.all_map]; simp [low]
  have dc : dcmL (S.length + 1) (nmG 2) yesB (varE 2) (cE (.bl true)) [some (.cell S.length), some d, none] ((usort ns).map .int) (S ++ [.obj "Strokes" ["offsets"] [.tup ((usort ns).map .int)]] ++ [.dic [] []]) = .ok () (S ++ [.obj "Strokes" ["offsets"] [.tup ((usort ns).map .int)]] ++ [.dic (knK (usort ns)) (knV (usort ns))]) :=
    dcm_known (n := S.length + 1) (T := S ++ [.obj "Strokes" ["offsets"] [.tup ((usort ns).map .int)]]) (ρ := [some (.cell S.length), some d, none]) (by simp) (by simp) (usort ns) [] (by simpa using rise_nodup (usort_lt ns)) (by have := usort_len ns; simp; omega)
  have fd (a b : Cl) : (S ++ [a] ++ [b] : Sto)[S.length + 1]? = some b := by simp
  have td (a b : Cl) : (S ++ [a] ++ [b] : Sto).take (S.length + 1) = S ++ [a] := List.take_left' (by simp)
  have ko : ¬ ((Str.ofString "offsets") = Str.ofString "known") := by decide
  have lt1 : (1 : Nat) < 1000 := by decide
  have lt0 : (0 : Nat) < 1000 := by decide
  have ta (a : Cl) : (S ++ [a] : Sto).take (S.length + 1) = S ++ [a] := List.take_of_length_le (by simp)
  have e1 : fstS ["Strokes"] "offsets" (appF tupleD (consF (ssetF (varE 1)) nilF)) (varE 0) [some (.cell S.length), some d, v] (S ++ [.obj "Strokes" [] []]) = .nx [some (.cell S.length), some d, v] (S ++ [.obj "Strokes" ["offsets"] [.tup ((usort ns).map .int)]]) := by
    simp only [Bd, seqS, setS, retS, retN, dropS, ifS, forS, putS, augS, nxS, bkS, ctS, SR.seq_nx, SR.seq_rt, SR.seq_exc, SR.seq_bk, SR.seq_ct, SR.turn_nx, SR.turn_ct, SR.turn_bk, SR.turn_rt, SR.turn_exc, R.bind_ok, R.bind_bad, R.bind_exc, R.bindN_ok, R.st_ok, R.st_exc,
 varE, cE, binF, tstF, chnF, andB, orB, notB, andV, orV, notV, ifE, nilF, consF, tupF, lstF, ownF, negF, noO, someO, slF, callF, appF, isiF, mthF, itF, itA, nmG, nilG, consG, tupG, yesB, wipeD,
 addD_ii, addD_ss, addD_ll, subD_ii, mulD_ii, mulD_li, mulD_si, fdivD_ii, modD_ii, powD_10_18, ltD_ii, leD_ii, gtD_ii, geD_ii, gtD_ss, ltD_ss, eqD_ii, eqD_ss, eqD_bb, neD_ii, neD_ss, isBD_bb, isND_non, isND_int, isND_str, notND_non, notND_int, notND_str, lenD_s, lenD_l, lenD_r, lenD_t, lenD_c, min2D_ii, max2D_ii, intD_i, intD_b, strD_i, sumD_l, sumD_c, sumD_t, maxD_c, tupleD_l, tupleD_t, tupleD_c, listD_l, listD_t,
 ixD_l, ixD_r, ixD_t, ixD_s, ixD_c, slD_s, slD_l, slD_r, putIx_c, appendD_c, extendD_cl, isTy_c, isTy_s, isTy_l, iaddD, atI_0, atI_1, atI_2, atI_3, atI_4, low_int, low_str, low_bl, low_non, anyI_l, anyI_r, anyI_t, anyI_s, rng1I_i, rng2I_ii, ixN5, set_concat, get_concat, take_concat, len_concat, notInD_cs, inD_cs, sindexD_s, intD_s, tyN_s, tyN_i, tyN_b, tyN_n, tyN_t, tyN_l, tyIs_t, zipI_tt,
 startD, List.map_cons, List.map_nil, List.length_cons, List.length_nil, List.cons_append, List.nil_append, List.getElem?_cons_zero, List.getElem?_cons_succ, List.set_cons_zero, List.set_cons_succ, List.replicate_succ, List.replicate_zero, Option.bind_some, if_true, if_false, Bool.true_and, Bool.false_and, Bool.and_true, Bool.not_true, Bool.not_false, decide_true, decide_false, eq_self, Nat.zero_add, Nat.reduceAdd, Nat.reduceSub, reduceIte, reduceCtorEq, Int.reduceEq, Bool.false_eq_true, true_and, and_true, true_or, or_true, decide_eq_true_eq, ssetF, hr.q, intsOf_ints, hz, fstS, get_concat, low1, putK, putV, List.mem_singleton, set_concat, lt0]
  have e2 : fstS ["Strokes"] "known" (dcmG finDc [2] (itF anyI (fldF ["Strokes"] "offsets" (varE 0))) (nmG 2) yesB (varE 2) (cE (.bl true))) (varE 0) [some (.cell S.length), some d, v] (S ++ [.obj "Strokes" ["offsets"] [.tup ((usort ns).map .int)]]) = .nx [some (.cell S.length), some d, v] (S ++ [.obj "Strokes" ["offsets", "known"] [.tup ((usort ns).map .int), .dic (knK (usort ns)) (knV (usort ns))]]) := by
    simp only [Bd, seqS, setS, retS, retN, dropS, ifS, forS, putS, augS, nxS, bkS, ctS, SR.seq_nx, SR.seq_rt, SR.seq_exc, SR.seq_bk, SR.seq_ct, SR.turn_nx, SR.turn_ct, SR.turn_bk, SR.turn_rt, SR.turn_exc, R.bind_ok, R.bind_bad, R.bind_exc, R.bindN_ok, R.st_ok, R.st_exc,
 varE, cE, binF, tstF, chnF, andB, orB, notB, andV, orV, notV, ifE, nilF, consF, tupF, lstF, ownF, negF, noO, someO, slF, callF, appF, isiF, mthF, itF, itA, nmG, nilG, consG, tupG, yesB, wipeD,
 addD_ii, addD_ss, addD_ll, subD_ii, mulD_ii, mulD_li, mulD_si, fdivD_ii, modD_ii, powD_10_18, ltD_ii, leD_ii, gtD_ii, geD_ii, gtD_ss, ltD_ss, eqD_ii, eqD_ss, eqD_bb, neD_ii, neD_ss, isBD_bb, isND_non, isND_int, isND_str, notND_non, notND_int, notND_str, lenD_s, lenD_l, lenD_r, lenD_t, lenD_c, min2D_ii, max2D_ii, intD_i, intD_b, strD_i, sumD_l, sumD_c, sumD_t, maxD_c, tupleD_l, tupleD_t, tupleD_c, listD_l, listD_t,
 ixD_l, ixD_r, ixD_t, ixD_s, ixD_c, slD_s, slD_l, slD_r, putIx_c, appendD_c, extendD_cl, isTy_c, isTy_s, isTy_l, iaddD, atI_0, atI_1, atI_2, atI_3, atI_4, low_int, low_str, low_bl, low_non, anyI_l, anyI_r, anyI_t, anyI_s, rng1I_i, rng2I_ii, ixN5, set_concat, get_concat, take_concat, len_concat, notInD_cs, inD_cs, sindexD_s, intD_s, tyN_s, tyN_i, tyN_b, tyN_n, tyN_t, tyN_l, tyIs_t, zipI_tt,
 startD, List.map_cons, List.map_nil, List.length_cons, List.length_nil, List.cons_append, List.nil_append, List.getElem?_cons_zero, List.getElem?_cons_succ, List.set_cons_zero, List.set_cons_succ, List.replicate_succ, List.replicate_zero, Option.bind_some, if_true, if_false, Bool.true_and, Bool.false_and, Bool.and_true, Bool.not_true, Bool.not_false, decide_true, decide_false, eq_self, Nat.zero_add, Nat.reduceAdd, Nat.reduceSub, reduceIte, reduceCtorEq, Int.reduceEq, Bool.false_eq_true, true_and, and_true, true_or, or_true, decide_eq_true_eq, fstS, get_concat, low2, putK, putV, List.mem_singleton, set_concat, dcmG, fldF, asO_new, List.zip_cons_cons, List.zip_nil_left, List.lookup, beq_self_eq_true, dc, finDc, fd, td, ko, lt1]
  simp only [Bd, seqS, setS, retS, retN, dropS, ifS, forS, putS, augS, nxS, bkS, ctS, SR.seq_nx, SR.seq_rt, SR.seq_exc, SR.seq_bk, SR.seq_ct, SR.turn_nx, SR.turn_ct, SR.turn_bk, SR.turn_rt, SR.turn_exc, R.bind_ok, R.bind_bad, R.bind_exc, R.bindN_ok, R.st_ok, R.st_exc,
 varE, cE, binF, tstF, chnF, andB, orB, notB, andV, orV, notV, ifE, nilF, consF, tupF, lstF, ownF, negF, noO, someO, slF, callF, appF, isiF, mthF, itF, itA, nmG, nilG, consG, tupG, yesB, wipeD,
 addD_ii, addD_ss, addD_ll, subD_ii, mulD_ii, mulD_li, mulD_si, fdivD_ii, modD_ii, powD_10_18, ltD_ii, leD_ii, gtD_ii, geD_ii, gtD_ss, ltD_ss, eqD_ii, eqD_ss, eqD_bb, neD_ii, neD_ss, isBD_bb, isND_non, isND_int, isND_str, notND_non, notND_int, notND_str, lenD_s, lenD_l, lenD_r, lenD_t, lenD_c, min2D_ii, max2D_ii, intD_i, intD_b, strD_i, sumD_l, sumD_c, sumD_t, maxD_c, tupleD_l, tupleD_t, tupleD_c, listD_l, listD_t,
 ixD_l, ixD_r, ixD_t, ixD_s, ixD_c, slD_s, slD_l, slD_r, putIx_c, appendD_c, extendD_cl, isTy_c, isTy_s, isTy_l, iaddD, atI_0, atI_1, atI_2, atI_3, atI_4, low_int, low_str, low_bl, low_non, anyI_l, anyI_r, anyI_t, anyI_s, rng1I_i, rng2I_ii, ixN5, set_concat, get_concat, take_concat, len_concat, notInD_cs, inD_cs, sindexD_s, intD_s, tyN_s, tyN_i, tyN_b, tyN_n, tyN_t, tyN_l, tyIs_t, zipI_tt,
 startD, List.map_cons, List.map_nil, List.length_cons, List.length_nil, List.cons_append, List.nil_append, List.getElem?_cons_zero, List.getElem?_cons_succ, List.set_cons_zero, List.set_cons_succ, List.replicate_succ, List.replicate_zero, Option.bind_some, if_true, if_false, Bool.true_and, Bool.false_and, Bool.and_true, Bool.not_true, Bool.not_false, decide_true, decide_false, eq_self, Nat.zero_add, Nat.reduceAdd, Nat.reduceSub, reduceIte, reduceCtorEq, Int.reduceEq, Bool.false_eq_true, true_and, and_true, true_or, or_true, decide_eq_true_eq, hr.any, e, e1, e2, leave_nx, ta]
section
variable {S S1 : Sto} {ρ : Nv} {d : D} {ns : List Int} {fe : EF}
theorem mk_ok (hr : Row d (ns.map .int)) (h : ∀ x ∈ ns, 0 ≤ x) (hl : ns.length ≤ 4000) : mkC false "Strokes" (fun ds _ => ds ++ []) F_Strokes___init__ [d] [] S = .ok (skO (usort ns)) S := by
  unfold mkC
  rw [show (fun ds _ => ds ++ [] : List D → List D → List D) [.cell S.length, d] [] = [.cell S.length, d] from rfl, init_ok hr h hl]
  dsimp only
  rw [if_neg (by decide), len_concat, fz_cell_obj (Nat.le_refl _) (get_concat _ _), take_concat]
  unfold skO
  simp only [List.map_cons, List.map_nil, fz_tup, fz_dic, fz_mapint, fz_bls]
theorem new_ok (he : fe ρ S = .ok d S1) (hr : Row d (ns.map .int)) (h : ∀ x ∈ ns, 0 ≤ x) (hl : ns.length ≤ 4000) : makeF false "Strokes" 1 0 2 (fun ds _ => ds ++ []) F_Strokes___init__ (consF fe nilF) nilF ρ S = .ok (skO (usort ns)) S1 := by
  unfold makeF argsF
  simp only [Bd, seqS, setS, retS, retN, dropS, ifS, forS, putS, augS, nxS, bkS, ctS, SR.seq_nx, SR.seq_rt, SR.seq_exc, SR.seq_bk, SR.seq_ct, SR.turn_nx, SR.turn_ct, SR.turn_bk, SR.turn_rt, SR.turn_exc, R.bind_ok, R.bind_bad, R.bind_exc, R.bindN_ok, R.st_ok, R.st_exc,
 varE, cE, binF, tstF, chnF, andB, orB, notB, andV, orV, notV, ifE, nilF, consF, tupF, lstF, ownF, negF, noO, someO, slF, callF, appF, isiF, mthF, itF, itA, nmG, nilG, consG, tupG, yesB, wipeD,
 addD_ii, addD_ss, addD_ll, subD_ii, mulD_ii, mulD_li, mulD_si, fdivD_ii, modD_ii, powD_10_18, ltD_ii, leD_ii, gtD_ii, geD_ii, gtD_ss, ltD_ss, eqD_ii, eqD_ss, eqD_bb, neD_ii, neD_ss, isBD_bb, isND_non, isND_int, isND_str, notND_non, notND_int, notND_str, lenD_s, lenD_l, lenD_r, lenD_t, lenD_c, min2D_ii, max2D_ii, intD_i, intD_b, strD_i, sumD_l, sumD_c, sumD_t, maxD_c, tupleD_l, tupleD_t, tupleD_c, listD_l, listD_t,
 ixD_l, ixD_r, ixD_t, ixD_s, ixD_c, slD_s, slD_l, slD_r, putIx_c, appendD_c, extendD_cl, isTy_c, isTy_s, isTy_l, iaddD, atI_0, atI_1, atI_2, atI_3, atI_4, low_int, low_str, low_bl, low_non, anyI_l, anyI_r, anyI_t, anyI_s, rng1I_i, rng2I_ii, ixN5, set_concat, get_concat, take_concat, len_concat, notInD_cs, inD_cs, sindexD_s, intD_s, tyN_s, tyN_i, tyN_b, tyN_n, tyN_t, tyN_l, tyIs_t, zipI_tt,
 startD, List.map_cons, List.map_nil, List.length_cons, List.length_nil, List.cons_append, List.nil_append, List.getElem?_cons_zero, List.getElem?_cons_succ, List.set_cons_zero, List.set_cons_succ, List.replicate_succ, List.replicate_zero, Option.bind_some, if_true, if_false, Bool.true_and, Bool.false_and, Bool.and_true, Bool.not_true, Bool.not_false, decide_true, decide_false, eq_self, Nat.zero_add, Nat.reduceAdd, Nat.reduceSub, reduceIte, reduceCtorEq, Int.reduceEq, Bool.false_eq_true, true_and, and_true, true_or, or_true, decide_eq_true_eq, he, mk_ok hr h hl]
theorem new_sorted (he : fe ρ S = .ok d S1) (hr : Row d (ns.map .int)) (h : Rise ns) : makeF false "Strokes" 1 0 2 (fun ds _ => ds ++ []) F_Strokes___init__ (consF fe nilF) nilF ρ S = .ok (skO ns) S1 := by
  rw [new_ok he hr h.nn h.few, usort_self h.up]
theorem init_exc {x : D} {rest : List D} (hr : Row d (ns.map .int ++ x :: rest)) (h : ∀ x ∈ ns, 0 ≤ x) (hx : Odd x) :
    F_Strokes___init__ [.cell S.length, d] (S ++ [.obj "Strokes" [] []]) = .exc "BadOffset" ["offset"] [x] (S ++ [.obj "Strokes" [] []]) := by
  unfold F_Strokes___init__ fnF g_Strokes___init__
  obtain ⟨r, e⟩ := chk_exc (a := .cell S.length) (b := d) (S := S ++ [.obj "Strokes" [] []]) (rest := rest) ns none h hx
  unfold chkB at e
  have ta (a : Cl) : (S ++ [a] : Sto).take (S.length + 1) = S ++ [a] := List.take_of_length_le (by simp)
  simp only [Bd, seqS, setS, retS, retN, dropS, ifS, forS, putS, augS, nxS, bkS, ctS, SR.seq_nx, SR.seq_rt, SR.seq_exc, SR.seq_bk, SR.seq_ct, SR.turn_nx, SR.turn_ct, SR.turn_bk, SR.turn_rt, SR.turn_exc, R.bind_ok, R.bind_bad, R.bind_exc, R.bindN_ok, R.st_ok, R.st_exc,
 varE, cE, binF, tstF, chnF, andB, orB, notB, andV, orV, notV, ifE, nilF, consF, tupF, lstF, ownF, negF, noO, someO, slF, callF, appF, isiF, mthF, itF, itA, nmG, nilG, consG, tupG, yesB, wipeD,
 addD_ii, addD_ss, addD_ll, subD_ii, mulD_ii, mulD_li, mulD_si, fdivD_ii, modD_ii, powD_10_18, ltD_ii, leD_ii, gtD_ii, geD_ii, gtD_ss, ltD_ss, eqD_ii, eqD_ss, eqD_bb, neD_ii, neD_ss, isBD_bb, isND_non, isND_int, isND_str, notND_non, notND_int, notND_str, lenD_s, lenD_l, lenD_r, lenD_t, lenD_c, min2D_ii, max2D_ii, intD_i, intD_b, strD_i, sumD_l, sumD_c, sumD_t, maxD_c, tupleD_l, tupleD_t, tupleD_c, listD_l, listD_t,
 ixD_l, ixD_r, ixD_t, ixD_s, ixD_c, slD_s, slD_l, slD_r, putIx_c, appendD_c, extendD_cl, isTy_c, isTy_s, isTy_l, iaddD, atI_0, atI_1, atI_2, atI_3, atI_4, low_int, low_str, low_bl, low_non, anyI_l, anyI_r, anyI_t, anyI_s, rng1I_i, rng2I_ii, ixN5, set_concat, get_concat, take_concat, len_concat, notInD_cs, inD_cs, sindexD_s, intD_s, tyN_s, tyN_i, tyN_b, tyN_n, tyN_t, tyN_l, tyIs_t, zipI_tt,
 startD, List.map_cons, List.map_nil, List.length_cons, List.length_nil, List.cons_append, List.nil_append, List.getElem?_cons_zero, List.getElem?_cons_succ, List.set_cons_zero, List.set_cons_succ, List.replicate_succ, List.replicate_zero, Option.bind_some, if_true, if_false, Bool.true_and, Bool.false_and, Bool.and_true, Bool.not_true, Bool.not_false, decide_true, decide_false, eq_self, Nat.zero_add, Nat.reduceAdd, Nat.reduceSub, reduceIte, reduceCtorEq, Int.reduceEq, Bool.false_eq_true, true_and, and_true, true_or, or_true, decide_eq_true_eq, hr.any, e, leave, hx.fr, ta]
theorem new_exc {x : D} {rest : List D} (he : fe ρ S = .ok d S1) (hr : Row d (ns.map .int ++ x :: rest)) (h : ∀ x ∈ ns, 0 ≤ x) (hx : Odd x) :
    makeF false "Strokes" 1 0 2 (fun ds _ => ds ++ []) F_Strokes___init__ (consF fe nilF) nilF ρ S = .exc "BadOffset" ["offset"] [x] S1 := by
  unfold makeF argsF mkC
  simp only [Bd, seqS, setS, retS, retN, dropS, ifS, forS, putS, augS, nxS, bkS, ctS, SR.seq_nx, SR.seq_rt, SR.seq_exc, SR.seq_bk, SR.seq_ct, SR.turn_nx, SR.turn_ct, SR.turn_bk, SR.turn_rt, SR.turn_exc, R.bind_ok, R.bind_bad, R.bind_exc, R.bindN_ok, R.st_ok, R.st_exc,
 varE, cE, binF, tstF, chnF, andB, orB, notB, andV, orV, notV, ifE, nilF, consF, tupF, lstF, ownF, negF, noO, someO, slF, callF, appF, isiF, mthF, itF, itA, nmG, nilG, consG, tupG, yesB, wipeD,
 addD_ii, addD_ss, addD_ll, subD_ii, mulD_ii, mulD_li, mulD_si, fdivD_ii, modD_ii, powD_10_18, ltD_ii, leD_ii, gtD_ii, geD_ii, gtD_ss, ltD_ss, eqD_ii, eqD_ss, eqD_bb, neD_ii, neD_ss, isBD_bb, isND_non, isND_int, isND_str, notND_non, notND_int, notND_str, lenD_s, lenD_l, lenD_r, lenD_t, lenD_c, min2D_ii, max2D_ii, intD_i, intD_b, strD_i, sumD_l, sumD_c, sumD_t, maxD_c, tupleD_l, tupleD_t, tupleD_c, listD_l, listD_t,
 ixD_l, ixD_r, ixD_t, ixD_s, ixD_c, slD_s, slD_l, slD_r, putIx_c, appendD_c, extendD_cl, isTy_c, isTy_s, isTy_l, iaddD, atI_0, atI_1, atI_2, atI_3, atI_4, low_int, low_str, low_bl, low_non, anyI_l, anyI_r, anyI_t, anyI_s, rng1I_i, rng2I_ii, ixN5, set_concat, get_concat, take_concat, len_concat, notInD_cs, inD_cs, sindexD_s, intD_s, tyN_s, tyN_i, tyN_b, tyN_n, tyN_t, tyN_l, tyIs_t, zipI_tt,
 startD, List.map_cons, List.map_nil, List.length_cons, List.length_nil, List.cons_append, List.nil_append, List.getElem?_cons_zero, List.getElem?_cons_succ, List.set_cons_zero, List.set_cons_succ, List.replicate_succ, List.replicate_zero, Option.bind_some, if_true, if_false, Bool.true_and, Bool.false_and, Bool.and_true, Bool.not_true, Bool.not_false, decide_true, decide_false, eq_self, Nat.zero_add, Nat.reduceAdd, Nat.reduceSub, reduceIte, reduceCtorEq, Int.reduceEq, Bool.false_eq_true, true_and, and_true, true_or, or_true, decide_eq_true_eq, he, init_exc hr h hx, hx.fr, take_concat]
end

/-! ### what a set of strokes tells -/
section
variable {S : Sto} {l m : List Int}
theorem fld_off : asO (skO l) S = some (("Strokes" : Str), (["offsets", "known"] : List Str), ([.tup (l.map .int), .dic (knK l) (knV l)] : List D)) := rfl
theorem len_sk : F_Strokes___len__ [skO l] S = .ok (.int l.length) S := by
  unfold F_Strokes___len__ fnF g_Strokes___len__
  simp only [Bd, seqS, setS, retS, retN, dropS, ifS, forS, putS, augS, nxS, bkS, ctS, SR.seq_nx, SR.seq_rt, SR.seq_exc, SR.seq_bk, SR.seq_ct, SR.turn_nx, SR.turn_ct, SR.turn_bk, SR.turn_rt, SR.turn_exc, R.bind_ok, R.bind_bad, R.bind_exc, R.bindN_ok, R.st_ok, R.st_exc,
 varE, cE, binF, tstF, chnF, andB, orB, notB, andV, orV, notV, ifE, nilF, consF, tupF, lstF, ownF, negF, noO, someO, slF, callF, appF, isiF, mthF, itF, itA, nmG, nilG, consG, tupG, yesB, wipeD,
 addD_ii, addD_ss, addD_ll, subD_ii, mulD_ii, mulD_li, mulD_si, fdivD_ii, modD_ii, powD_10_18, ltD_ii, leD_ii, gtD_ii, geD_ii, gtD_ss, ltD_ss, eqD_ii, eqD_ss, eqD_bb, neD_ii, neD_ss, isBD_bb, isND_non, isND_int, isND_str, notND_non, notND_int, notND_str, lenD_s, lenD_l, lenD_r, lenD_t, lenD_c, min2D_ii, max2D_ii, intD_i, intD_b, strD_i, sumD_l, sumD_c, sumD_t, maxD_c, tupleD_l, tupleD_t, tupleD_c, listD_l, listD_t,
 ixD_l, ixD_r, ixD_t, ixD_s, ixD_c, slD_s, slD_l, slD_r, putIx_c, appendD_c, extendD_cl, isTy_c, isTy_s, isTy_l, iaddD, atI_0, atI_1, atI_2, atI_3, atI_4, low_int, low_str, low_bl, low_non, anyI_l, anyI_r, anyI_t, anyI_s, rng1I_i, rng2I_ii, ixN5, set_concat, get_concat, take_concat, len_concat, notInD_cs, inD_cs, sindexD_s, intD_s, tyN_s, tyN_i, tyN_b, tyN_n, tyN_t, tyN_l, tyIs_t, zipI_tt,
 startD, List.map_cons, List.map_nil, List.length_cons, List.length_nil, List.cons_append, List.nil_append, List.getElem?_cons_zero, List.getElem?_cons_succ, List.set_cons_zero, List.set_cons_succ, List.replicate_succ, List.replicate_zero, Option.bind_some, if_true, if_false, Bool.true_and, Bool.false_and, Bool.and_true, Bool.not_true, Bool.not_false, decide_true, decide_false, eq_self, Nat.zero_add, Nat.reduceAdd, Nat.reduceSub, reduceIte, reduceCtorEq, Int.reduceEq, Bool.false_eq_true, true_and, and_true, true_or, or_true, decide_eq_true_eq, fldF, fld_off, List.mem_singleton, List.zip_cons_cons, List.zip_nil_left, List.lookup, beq_self_eq_true, leave_rt, fz_int, List.take_length, List.length_map]
theorem eq_sk : F_Strokes___eq__ [skO l, skO m] S = .ok (.bl (decide (l = m))) S := by
  unfold F_Strokes___eq__ fnF g_Strokes___eq__
  simp only [Bd, seqS, setS, retS, retN, dropS, ifS, forS, putS, augS, nxS, bkS, ctS, SR.seq_nx, SR.seq_rt, SR.seq_exc, SR.seq_bk, SR.seq_ct, SR.turn_nx, SR.turn_ct, SR.turn_bk, SR.turn_rt, SR.turn_exc, R.bind_ok, R.bind_bad, R.bind_exc, R.bindN_ok, R.st_ok, R.st_exc,
 varE, cE, binF, tstF, chnF, andB, orB, notB, andV, orV, notV, ifE, nilF, consF, tupF, lstF, ownF, negF, noO, someO, slF, callF, appF, isiF, mthF, itF, itA, nmG, nilG, consG, tupG, yesB, wipeD,
 addD_ii, addD_ss, addD_ll, subD_ii, mulD_ii, mulD_li, mulD_si, fdivD_ii, modD_ii, powD_10_18, ltD_ii, leD_ii, gtD_ii, geD_ii, gtD_ss, ltD_ss, eqD_ii, eqD_ss, eqD_bb, neD_ii, neD_ss, isBD_bb, isND_non, isND_int, isND_str, notND_non, notND_int, notND_str, lenD_s, lenD_l, lenD_r, lenD_t, lenD_c, min2D_ii, max2D_ii, intD_i, intD_b, strD_i, sumD_l, sumD_c, sumD_t, maxD_c, tupleD_l, tupleD_t, tupleD_c, listD_l, listD_t,
 ixD_l, ixD_r, ixD_t, ixD_s, ixD_c, slD_s, slD_l, slD_r, putIx_c, appendD_c, extendD_cl, isTy_c, isTy_s, isTy_l, iaddD, atI_0, atI_1, atI_2, atI_3, atI_4, low_int, low_str, low_bl, low_non, anyI_l, anyI_r, anyI_t, anyI_s, rng1I_i, rng2I_ii, ixN5, set_concat, get_concat, take_concat, len_concat, notInD_cs, inD_cs, sindexD_s, intD_s, tyN_s, tyN_i, tyN_b, tyN_n, tyN_t, tyN_l, tyIs_t, zipI_tt,
 startD, List.map_cons, List.map_nil, List.length_cons, List.length_nil, List.cons_append, List.nil_append, List.getElem?_cons_zero, List.getElem?_cons_succ, List.set_cons_zero, List.set_cons_succ, List.replicate_succ, List.replicate_zero, Option.bind_some, if_true, if_false, Bool.true_and, Bool.false_and, Bool.and_true, Bool.not_true, Bool.not_false, decide_true, decide_false, eq_self, Nat.zero_add, Nat.reduceAdd, Nat.reduceSub, reduceIte, reduceCtorEq, Int.reduceEq, Bool.false_eq_true, true_and, and_true, true_or, or_true, decide_eq_true_eq, isOF, fldF, fld_off, List.mem_singleton, List.zip_cons_cons, List.zip_nil_left, List.lookup, beq_self_eq_true, eqD_it, leave_rt, fz_bl, List.take_length]
theorem or_sk (hl : Rise l) (hm : Rise m) (h : l.length + m.length ≤ 4000) : F_Strokes___or__ [skO l, skO m] S = .ok (skO (usort (l ++ m))) S := by
  unfold F_Strokes___or__ fnF g_Strokes___or__
  have hz : NLe (l.length + m.length) sizeLine := sizeLine_big (by omega)
  have e := new_ok (S := S) (S1 := S) (ρ := [some (skO l), some (skO m)]) (d := .tup ((l ++ m).map .int)) (ns := l ++ m) (fe := binF addD (fldF ["Strokes"] "offsets" (varE 0)) (fldF ["Strokes"] "offsets" (varE 1))) (by
    simp only [Bd, seqS, setS, retS, retN, dropS, ifS, forS, putS, augS, nxS, bkS, ctS, SR.seq_nx, SR.seq_rt, SR.seq_exc, SR.seq_bk, SR.seq_ct, SR.turn_nx, SR.turn_ct, SR.turn_bk, SR.turn_rt, SR.turn_exc, R.bind_ok, R.bind_bad, R.bind_exc, R.bindN_ok, R.st_ok, R.st_exc,
 varE, cE, binF, tstF, chnF, andB, orB, notB, andV, orV, notV, ifE, nilF, consF, tupF, lstF, ownF, negF, noO, someO, slF, callF, appF, isiF, mthF, itF, itA, nmG, nilG, consG, tupG, yesB, wipeD,
 addD_ii, addD_ss, addD_ll, subD_ii, mulD_ii, mulD_li, mulD_si, fdivD_ii, modD_ii, powD_10_18, ltD_ii, leD_ii, gtD_ii, geD_ii, gtD_ss, ltD_ss, eqD_ii, eqD_ss, eqD_bb, neD_ii, neD_ss, isBD_bb, isND_non, isND_int, isND_str, notND_non, notND_int, notND_str, lenD_s, lenD_l, lenD_r, lenD_t, lenD_c, min2D_ii, max2D_ii, intD_i, intD_b, strD_i, sumD_l, sumD_c, sumD_t, maxD_c, tupleD_l, tupleD_t, tupleD_c, listD_l, listD_t,
 ixD_l, ixD_r, ixD_t, ixD_s, ixD_c, slD_s, slD_l, slD_r, putIx_c, appendD_c, extendD_cl, isTy_c, isTy_s, isTy_l, iaddD, atI_0, atI_1, atI_2, atI_3, atI_4, low_int, low_str, low_bl, low_non, anyI_l, anyI_r, anyI_t, anyI_s, rng1I_i, rng2I_ii, ixN5, set_concat, get_concat, take_concat, len_concat, notInD_cs, inD_cs, sindexD_s, intD_s, tyN_s, tyN_i, tyN_b, tyN_n, tyN_t, tyN_l, tyIs_t, zipI_tt,
 startD, List.map_cons, List.map_nil, List.length_cons, List.length_nil, List.cons_append, List.nil_append, List.getElem?_cons_zero, List.getElem?_cons_succ, List.set_cons_zero, List.set_cons_succ, List.replicate_succ, List.replicate_zero, Option.bind_some, if_true, if_false, Bool.true_and, Bool.false_and, Bool.and_true, Bool.not_true, Bool.not_false, decide_true, decide_false, eq_self, Nat.zero_add, Nat.reduceAdd, Nat.reduceSub, reduceIte, reduceCtorEq, Int.reduceEq, Bool.false_eq_true, true_and, and_true, true_or, or_true, decide_eq_true_eq, fldF, fld_off, List.mem_singleton, List.zip_cons_cons, List.zip_nil_left, List.lookup, beq_self_eq_true, addD_tt, List.length_map, hz, List.map_append]) (row_t _) (fun x hx => (List.mem_append.mp hx).elim (hl.nn x) (hm.nn x)) (by rw [List.length_append]; exact h)
  simp only [Bd, seqS, setS, retS, retN, dropS, ifS, forS, putS, augS, nxS, bkS, ctS, SR.seq_nx, SR.seq_rt, SR.seq_exc, SR.seq_bk, SR.seq_ct, SR.turn_nx, SR.turn_ct, SR.turn_bk, SR.turn_rt, SR.turn_exc, R.bind_ok, R.bind_bad, R.bind_exc, R.bindN_ok, R.st_ok, R.st_exc,
 varE, cE, binF, tstF, chnF, andB, orB, notB, andV, orV, notV, ifE, nilF, consF, tupF, lstF, ownF, negF, noO, someO, slF, callF, appF, isiF, mthF, itF, itA, nmG, nilG, consG, tupG, yesB, wipeD,
 addD_ii, addD_ss, addD_ll, subD_ii, mulD_ii, mulD_li, mulD_si, fdivD_ii, modD_ii, powD_10_18, ltD_ii, leD_ii, gtD_ii, geD_ii, gtD_ss, ltD_ss, eqD_ii, eqD_ss, eqD_bb, neD_ii, neD_ss, isBD_bb, isND_non, isND_int, isND_str, notND_non, notND_int, notND_str, lenD_s, lenD_l, lenD_r, lenD_t, lenD_c, min2D_ii, max2D_ii, intD_i, intD_b, strD_i, sumD_l, sumD_c, sumD_t, maxD_c, tupleD_l, tupleD_t, tupleD_c, listD_l, listD_t,
 ixD_l, ixD_r, ixD_t, ixD_s, ixD_c, slD_s, slD_l, slD_r, putIx_c, appendD_c, extendD_cl, isTy_c, isTy_s, isTy_l, iaddD, atI_0, atI_1, atI_2, atI_3, atI_4, low_int, low_str, low_bl, low_non, anyI_l, anyI_r, anyI_t, anyI_s, rng1I_i, rng2I_ii, ixN5, set_concat, get_concat, take_concat, len_concat, notInD_cs, inD_cs, sindexD_s, intD_s, tyN_s, tyN_i, tyN_b, tyN_n, tyN_t, tyN_l, tyIs_t, zipI_tt,
 startD, List.map_cons, List.map_nil, List.length_cons, List.length_nil, List.cons_append, List.nil_append, List.getElem?_cons_zero, List.getElem?_cons_succ, List.set_cons_zero, List.set_cons_succ, List.replicate_succ, List.replicate_zero, Option.bind_some, if_true, if_false, Bool.true_and, Bool.false_and, Bool.and_true, Bool.not_true, Bool.not_false, decide_true, decide_false, eq_self, Nat.zero_add, Nat.reduceAdd, Nat.reduceSub, reduceIte, reduceCtorEq, Int.reduceEq, Bool.false_eq_true, true_and, and_true, true_or, or_true, decide_eq_true_eq, e, leave_rt, fz_sk, List.take_length]
theorem Rise.filter (h : Rise l) (p : Int → Bool) : Rise (l.filter p) := ⟨h.up.filter _, fun x hx => h.nn x (List.mem_filter.mp hx).1, Nat.le_trans (List.length_filter_le _ _) h.few⟩
theorem filter_ints (p : D → Bool) (q : Int → Bool) (h : ∀ i, p (.int i) = q i) (l : List Int) : ((l.map D.int).filter p).map id = (l.filter q).map D.int := by
  rw [List.map_id, List.filter_map]; congr 1; exact List.filter_congr fun x _ => h x
theorem atK_known (x : Int) (l : List Int) : (atK (knK l) (knV l) (Sum.inl x)).isSome = decide (x ∈ l) := by
  induction l with
  | nil => rfl
  | cons y l ih =>
    show (if (Sum.inl y : Key) = Sum.inl x then some (D.bl true) else atK (knK l) (knV l) (Sum.inl x)).isSome = _
    by_cases h : y = x
    · subst h; simp
    · rw [if_neg (by simpa using h), ih]; simp [Ne.symm h]
theorem cut_sk (hl : Rise l) (t : Int) : F_Strokes_cut [skO l, .int t] S = .ok (skO (l.filter fun x => decide (x < t))) S := by
  unfold F_Strokes_cut fnF g_Strokes_cut
  have c := compF_map (vs := [2]) (fi := itF anyI (fldF ["Strokes"] "offsets" (varE 0))) (g := nmG 2) (t := tstF (binF ltD (varE 2) (varE 1))) (fe := varE 2) (ρ := [some (skO l), some (.int t), none]) (S := S) (S1 := S) (ds := l.map .int) (fun d => match d with | .int i => decide (i < t) | _ => false) id (by
    simp only [Bd, seqS, setS, retS, retN, dropS, ifS, forS, putS, augS, nxS, bkS, ctS, SR.seq_nx, SR.seq_rt, SR.seq_exc, SR.seq_bk, SR.seq_ct, SR.turn_nx, SR.turn_ct, SR.turn_bk, SR.turn_rt, SR.turn_exc, R.bind_ok, R.bind_bad, R.bind_exc, R.bindN_ok, R.st_ok, R.st_exc,
 varE, cE, binF, tstF, chnF, andB, orB, notB, andV, orV, notV, ifE, nilF, consF, tupF, lstF, ownF, negF, noO, someO, slF, callF, appF, isiF, mthF, itF, itA, nmG, nilG, consG, tupG, yesB, wipeD,
 addD_ii, addD_ss, addD_ll, subD_ii, mulD_ii, mulD_li, mulD_si, fdivD_ii, modD_ii, powD_10_18, ltD_ii, leD_ii, gtD_ii, geD_ii, gtD_ss, ltD_ss, eqD_ii, eqD_ss, eqD_bb, neD_ii, neD_ss, isBD_bb, isND_non, isND_int, isND_str, notND_non, notND_int, notND_str, lenD_s, lenD_l, lenD_r, lenD_t, lenD_c, min2D_ii, max2D_ii, intD_i, intD_b, strD_i, sumD_l, sumD_c, sumD_t, maxD_c, tupleD_l, tupleD_t, tupleD_c, listD_l, listD_t,
 ixD_l, ixD_r, ixD_t, ixD_s, ixD_c, slD_s, slD_l, slD_r, putIx_c, appendD_c, extendD_cl, isTy_c, isTy_s, isTy_l, iaddD, atI_0, atI_1, atI_2, atI_3, atI_4, low_int, low_str, low_bl, low_non, anyI_l, anyI_r, anyI_t, anyI_s, rng1I_i, rng2I_ii, ixN5, set_concat, get_concat, take_concat, len_concat, notInD_cs, inD_cs, sindexD_s, intD_s, tyN_s, tyN_i, tyN_b, tyN_n, tyN_t, tyN_l, tyIs_t, zipI_tt,
 startD, List.map_cons, List.map_nil, List.length_cons, List.length_nil, List.cons_append, List.nil_append, List.getElem?_cons_zero, List.getElem?_cons_succ, List.set_cons_zero, List.set_cons_succ, List.replicate_succ, List.replicate_zero, Option.bind_some, if_true, if_false, Bool.true_and, Bool.false_and, Bool.and_true, Bool.not_true, Bool.not_false, decide_true, decide_false, eq_self, Nat.zero_add, Nat.reduceAdd, Nat.reduceSub, reduceIte, reduceCtorEq, Int.reduceEq, Bool.false_eq_true, true_and, and_true, true_or, or_true, decide_eq_true_eq, fldF, fld_off, List.mem_singleton, List.zip_cons_cons, List.zip_nil_left, List.lookup, beq_self_eq_true]) (sizeLine_big (by have := hl.few; simp; omega)) (fun d hd acc => by
    obtain ⟨i, _, rfl⟩ := List.mem_map.mp hd
    exact ⟨[some (skO l), some (.int t), some (.int i)], rfl, by simp only [Bd, seqS, setS, retS, retN, dropS, ifS, forS, putS, augS, nxS, bkS, ctS, SR.seq_nx, SR.seq_rt, SR.seq_exc, SR.seq_bk, SR.seq_ct, SR.turn_nx, SR.turn_ct, SR.turn_bk, SR.turn_rt, SR.turn_exc, R.bind_ok, R.bind_bad, R.bind_exc, R.bindN_ok, R.st_ok, R.st_exc,
 varE, cE, binF, tstF, chnF, andB, orB, notB, andV, orV, notV, ifE, nilF, consF, tupF, lstF, ownF, negF, noO, someO, slF, callF, appF, isiF, mthF, itF, itA, nmG, nilG, consG, tupG, yesB, wipeD,
 addD_ii, addD_ss, addD_ll, subD_ii, mulD_ii, mulD_li, mulD_si, fdivD_ii, modD_ii, powD_10_18, ltD_ii, leD_ii, gtD_ii, geD_ii, gtD_ss, ltD_ss, eqD_ii, eqD_ss, eqD_bb, neD_ii, neD_ss, isBD_bb, isND_non, isND_int, isND_str, notND_non, notND_int, notND_str, lenD_s, lenD_l, lenD_r, lenD_t, lenD_c, min2D_ii, max2D_ii, intD_i, intD_b, strD_i, sumD_l, sumD_c, sumD_t, maxD_c, tupleD_l, tupleD_t, tupleD_c, listD_l, listD_t,
 ixD_l, ixD_r, ixD_t, ixD_s, ixD_c, slD_s, slD_l, slD_r, putIx_c, appendD_c, extendD_cl, isTy_c, isTy_s, isTy_l, iaddD, atI_0, atI_1, atI_2, atI_3, atI_4, low_int, low_str, low_bl, low_non, anyI_l, anyI_r, anyI_t, anyI_s, rng1I_i, rng2I_ii, ixN5, set_concat, get_concat, take_concat, len_concat, notInD_cs, inD_cs, sindexD_s, intD_s, tyN_s, tyN_i, tyN_b, tyN_n, tyN_t, tyN_l, tyIs_t, zipI_tt,
 startD, List.map_cons, List.map_nil, List.length_cons, List.length_nil, List.cons_append, List.nil_append, List.getElem?_cons_zero, List.getElem?_cons_succ, List.set_cons_zero, List.set_cons_succ, List.replicate_succ, List.replicate_zero, Option.bind_some, if_true, if_false, Bool.true_and, Bool.false_and, Bool.and_true, Bool.not_true, Bool.not_false, decide_true, decide_false, eq_self, Nat.zero_add, Nat.reduceAdd, Nat.reduceSub, reduceIte, reduceCtorEq, Int.reduceEq, Bool.false_eq_true, true_and, and_true, true_or, or_true, decide_eq_true_eq], fun _ => ⟨by simp only [Bd, seqS, setS, retS, retN, dropS, ifS, forS, putS, augS, nxS, bkS, ctS, SR.seq_nx, SR.seq_rt, SR.seq_exc, SR.seq_bk, SR.seq_ct, SR.turn_nx, SR.turn_ct, SR.turn_bk, SR.turn_rt, SR.turn_exc, R.bind_ok, R.bind_bad, R.bind_exc, R.bindN_ok, R.st_ok, R.st_exc,
 varE, cE, binF, tstF, chnF, andB, orB, notB, andV, orV, notV, ifE, nilF, consF, tupF, lstF, ownF, negF, noO, someO, slF, callF, appF, isiF, mthF, itF, itA, nmG, nilG, consG, tupG, yesB, wipeD,
 addD_ii, addD_ss, addD_ll, subD_ii, mulD_ii, mulD_li, mulD_si, fdivD_ii, modD_ii, powD_10_18, ltD_ii, leD_ii, gtD_ii, geD_ii, gtD_ss, ltD_ss, eqD_ii, eqD_ss, eqD_bb, neD_ii, neD_ss, isBD_bb, isND_non, isND_int, isND_str, notND_non, notND_int, notND_str, lenD_s, lenD_l, lenD_r, lenD_t, lenD_c, min2D_ii, max2D_ii, intD_i, intD_b, strD_i, sumD_l, sumD_c, sumD_t, maxD_c, tupleD_l, tupleD_t, tupleD_c, listD_l, listD_t,
 ixD_l, ixD_r, ixD_t, ixD_s, ixD_c, slD_s, slD_l, slD_r, putIx_c, appendD_c, extendD_cl, isTy_c, isTy_s, isTy_l, iaddD, atI_0, atI_1, atI_2, atI_3, atI_4, low_int, low_str, low_bl, low_non, anyI_l, anyI_r, anyI_t, anyI_s, rng1I_i, rng2I_ii, ixN5, set_concat, get_concat, take_concat, len_concat, notInD_cs, inD_cs, sindexD_s, intD_s, tyN_s, tyN_i, tyN_b, tyN_n, tyN_t, tyN_l, tyIs_t, zipI_tt,
 startD, List.map_cons, List.map_nil, List.length_cons, List.length_nil, List.cons_append, List.nil_append, List.getElem?_cons_zero, List.getElem?_cons_succ, List.set_cons_zero, List.set_cons_succ, List.replicate_succ, List.replicate_zero, Option.bind_some, if_true, if_false, Bool.true_and, Bool.false_and, Bool.and_true, Bool.not_true, Bool.not_false, decide_true, decide_false, eq_self, Nat.zero_add, Nat.reduceAdd, Nat.reduceSub, reduceIte, reduceCtorEq, Int.reduceEq, Bool.false_eq_true, true_and, and_true, true_or, or_true, decide_eq_true_eq, id], rfl⟩⟩)
  rw [filter_ints _ (fun x => decide (x < t)) (fun _ => rfl)] at c
  have e := new_sorted c (row_l _) (hl.filter fun x => decide (x < t))
  simp only [Bd, seqS, setS, retS, retN, dropS, ifS, forS, putS, augS, nxS, bkS, ctS, SR.seq_nx, SR.seq_rt, SR.seq_exc, SR.seq_bk, SR.seq_ct, SR.turn_nx, SR.turn_ct, SR.turn_bk, SR.turn_rt, SR.turn_exc, R.bind_ok, R.bind_bad, R.bind_exc, R.bindN_ok, R.st_ok, R.st_exc,
 varE, cE, binF, tstF, chnF, andB, orB, notB, andV, orV, notV, ifE, nilF, consF, tupF, lstF, ownF, negF, noO, someO, slF, callF, appF, isiF, mthF, itF, itA, nmG, nilG, consG, tupG, yesB, wipeD,
 addD_ii, addD_ss, addD_ll, subD_ii, mulD_ii, mulD_li, mulD_si, fdivD_ii, modD_ii, powD_10_18, ltD_ii, leD_ii, gtD_ii, geD_ii, gtD_ss, ltD_ss, eqD_ii, eqD_ss, eqD_bb, neD_ii, neD_ss, isBD_bb, isND_non, isND_int, isND_str, notND_non, notND_int, notND_str, lenD_s, lenD_l, lenD_r, lenD_t, lenD_c, min2D_ii, max2D_ii, intD_i, intD_b, strD_i, sumD_l, sumD_c, sumD_t, maxD_c, tupleD_l, tupleD_t, tupleD_c, listD_l, listD_t,
 ixD_l, ixD_r, ixD_t, ixD_s, ixD_c, slD_s, slD_l, slD_r, putIx_c, appendD_c, extendD_cl, isTy_c, isTy_s, isTy_l, iaddD, atI_0, atI_1, atI_2, atI_3, atI_4, low_int, low_str, low_bl, low_non, anyI_l, anyI_r, anyI_t, anyI_s, rng1I_i, rng2I_ii, ixN5, set_concat, get_concat, take_concat, len_concat, notInD_cs, inD_cs, sindexD_s, intD_s, tyN_s, tyN_i, tyN_b, tyN_n, tyN_t, tyN_l, tyIs_t, zipI_tt,
 startD, List.map_cons, List.map_nil, List.length_cons, List.length_nil, List.cons_append, List.nil_append, List.getElem?_cons_zero, List.getElem?_cons_succ, List.set_cons_zero, List.set_cons_succ, List.replicate_succ, List.replicate_zero, Option.bind_some, if_true, if_false, Bool.true_and, Bool.false_and, Bool.and_true, Bool.not_true, Bool.not_false, decide_true, decide_false, eq_self, Nat.zero_add, Nat.reduceAdd, Nat.reduceSub, reduceIte, reduceCtorEq, Int.reduceEq, Bool.false_eq_true, true_and, and_true, true_or, or_true, decide_eq_true_eq, e, leave_rt, fz_sk, List.take_length]
theorem sub_sk (hl : Rise l) : F_Strokes___sub__ [skO l, skO m] S = .ok (skO (l.filter fun x => !decide (x ∈ m))) S := by
  unfold F_Strokes___sub__ fnF g_Strokes___sub__
  have kl : ¬ ((Str.ofString "known") = Str.ofString "offsets") := by decide
  have c := compF_map (vs := [2]) (fi := itF anyI (fldF ["Strokes"] "offsets" (varE 0))) (g := nmG 2) (t := tstF (binF (inDc true notInD) (varE 2) (fldF ["Strokes"] "known" (varE 1)))) (fe := varE 2) (ρ := [some (skO l), some (skO m), none]) (S := S) (S1 := S) (ds := l.map .int) (fun d => match d with | .int i => !decide (i ∈ m) | _ => false) id (by
    simp only [Bd, seqS, setS, retS, retN, dropS, ifS, forS, putS, augS, nxS, bkS, ctS, SR.seq_nx, SR.seq_rt, SR.seq_exc, SR.seq_bk, SR.seq_ct, SR.turn_nx, SR.turn_ct, SR.turn_bk, SR.turn_rt, SR.turn_exc, R.bind_ok, R.bind_bad, R.bind_exc, R.bindN_ok, R.st_ok, R.st_exc,
 varE, cE, binF, tstF, chnF, andB, orB, notB, andV, orV, notV, ifE, nilF, consF, tupF, lstF, ownF, negF, noO, someO, slF, callF, appF, isiF, mthF, itF, itA, nmG, nilG, consG, tupG, yesB, wipeD,
 addD_ii, addD_ss, addD_ll, subD_ii, mulD_ii, mulD_li, mulD_si, fdivD_ii, modD_ii, powD_10_18, ltD_ii, leD_ii, gtD_ii, geD_ii, gtD_ss, ltD_ss, eqD_ii, eqD_ss, eqD_bb, neD_ii, neD_ss, isBD_bb, isND_non, isND_int, isND_str, notND_non, notND_int, notND_str, lenD_s, lenD_l, lenD_r, lenD_t, lenD_c, min2D_ii, max2D_ii, intD_i, intD_b, strD_i, sumD_l, sumD_c, sumD_t, maxD_c, tupleD_l, tupleD_t, tupleD_c, listD_l, listD_t,
 ixD_l, ixD_r, ixD_t, ixD_s, ixD_c, slD_s, slD_l, slD_r, putIx_c, appendD_c, extendD_cl, isTy_c, isTy_s, isTy_l, iaddD, atI_0, atI_1, atI_2, atI_3, atI_4, low_int, low_str, low_bl, low_non, anyI_l, anyI_r, anyI_t, anyI_s, rng1I_i, rng2I_ii, ixN5, set_concat, get_concat, take_concat, len_concat, notInD_cs, inD_cs, sindexD_s, intD_s, tyN_s, tyN_i, tyN_b, tyN_n, tyN_t, tyN_l, tyIs_t, zipI_tt,
 startD, List.map_cons, List.map_nil, List.length_cons, List.length_nil, List.cons_append, List.nil_append, List.getElem?_cons_zero, List.getElem?_cons_succ, List.set_cons_zero, List.set_cons_succ, List.replicate_succ, List.replicate_zero, Option.bind_some, if_true, if_false, Bool.true_and, Bool.false_and, Bool.and_true, Bool.not_true, Bool.not_false, decide_true, decide_false, eq_self, Nat.zero_add, Nat.reduceAdd, Nat.reduceSub, reduceIte, reduceCtorEq, Int.reduceEq, Bool.false_eq_true, true_and, and_true, true_or, or_true, decide_eq_true_eq, fldF, fld_off, List.mem_singleton, List.zip_cons_cons, List.zip_nil_left, List.lookup, beq_self_eq_true]) (sizeLine_big (by have := hl.few; simp; omega)) (fun d hd acc => by
    obtain ⟨i, _, rfl⟩ := List.mem_map.mp hd
    have kl : ((Str.ofString "known") == Str.ofString "offsets") = false := by decide
    exact ⟨[some (skO l), some (skO m), some (.int i)], rfl, by simp only [Bd, seqS, setS, retS, retN, dropS, ifS, forS, putS, augS, nxS, bkS, ctS, SR.seq_nx, SR.seq_rt, SR.seq_exc, SR.seq_bk, SR.seq_ct, SR.turn_nx, SR.turn_ct, SR.turn_bk, SR.turn_rt, SR.turn_exc, R.bind_ok, R.bind_bad, R.bind_exc, R.bindN_ok, R.st_ok, R.st_exc,
 varE, cE, binF, tstF, chnF, andB, orB, notB, andV, orV, notV, ifE, nilF, consF, tupF, lstF, ownF, negF, noO, someO, slF, callF, appF, isiF, mthF, itF, itA, nmG, nilG, consG, tupG, yesB, wipeD,
 addD_ii, addD_ss, addD_ll, subD_ii, mulD_ii, mulD_li, mulD_si, fdivD_ii, modD_ii, powD_10_18, ltD_ii, leD_ii, gtD_ii, geD_ii, gtD_ss, ltD_ss, eqD_ii, eqD_ss, eqD_bb, neD_ii, neD_ss, isBD_bb, isND_non, isND_int, isND_str, notND_non, notND_int, notND_str, lenD_s, lenD_l, lenD_r, lenD_t, lenD_c, min2D_ii, max2D_ii, intD_i, intD_b, strD_i, sumD_l, sumD_c, sumD_t, maxD_c, tupleD_l, tupleD_t, tupleD_c, listD_l, listD_t,
 ixD_l, ixD_r, ixD_t, ixD_s, ixD_c, slD_s, slD_l, slD_r, putIx_c, appendD_c, extendD_cl, isTy_c, isTy_s, isTy_l, iaddD, atI_0, atI_1, atI_2, atI_3, atI_4, low_int, low_str, low_bl, low_non, anyI_l, anyI_r, anyI_t, anyI_s, rng1I_i, rng2I_ii, ixN5, set_concat, get_concat, take_concat, len_concat, notInD_cs, inD_cs, sindexD_s, intD_s, tyN_s, tyN_i, tyN_b, tyN_n, tyN_t, tyN_l, tyIs_t, zipI_tt,
 startD, List.map_cons, List.map_nil, List.length_cons, List.length_nil, List.cons_append, List.nil_append, List.getElem?_cons_zero, List.getElem?_cons_succ, List.set_cons_zero, List.set_cons_succ, List.replicate_succ, List.replicate_zero, Option.bind_some, if_true, if_false, Bool.true_and, Bool.false_and, Bool.and_true, Bool.not_true, Bool.not_false, decide_true, decide_false, eq_self, Nat.zero_add, Nat.reduceAdd, Nat.reduceSub, reduceIte, reduceCtorEq, Int.reduceEq, Bool.false_eq_true, true_and, and_true, true_or, or_true, decide_eq_true_eq, fldF, fld_off, List.mem_singleton, List.zip_cons_cons, List.zip_nil_left, List.lookup, kl, beq_self_eq_true, inDc, asDc_dic, keyD, atK_known], fun _ => ⟨by simp only [Bd, seqS, setS, retS, retN, dropS, ifS, forS, putS, augS, nxS, bkS, ctS, SR.seq_nx, SR.seq_rt, SR.seq_exc, SR.seq_bk, SR.seq_ct, SR.turn_nx, SR.turn_ct, SR.turn_bk, SR.turn_rt, SR.turn_exc, R.bind_ok, R.bind_bad, R.bind_exc, R.bindN_ok, R.st_ok, R.st_exc,
 varE, cE, binF, tstF, chnF, andB, orB, notB, andV, orV, notV, ifE, nilF, consF, tupF, lstF, ownF, negF, noO, someO, slF, callF, appF, isiF, mthF, itF, itA, nmG, nilG, consG, tupG, yesB, wipeD,
 addD_ii, addD_ss, addD_ll, subD_ii, mulD_ii, mulD_li, mulD_si, fdivD_ii, modD_ii, powD_10_18, ltD_ii, leD_ii, gtD_ii, geD_ii, gtD_ss, ltD_ss, eqD_ii, eqD_ss, eqD_bb, neD_ii, neD_ss, isBD_bb, isND_non, isND_int, isND_str, notND_non, notND_int, notND_str, lenD_s, lenD_l, lenD_r, lenD_t, lenD_c, min2D_ii, max2D_ii, intD_i, intD_b, strD_i, sumD_l, sumD_c, sumD_t, maxD_c, tupleD_l, tupleD_t, tupleD_c, listD_l, listD_t,
 ixD_l, ixD_r, ixD_t, ixD_s, ixD_c, slD_s, slD_l, slD_r, putIx_c, appendD_c, extendD_cl, isTy_c, isTy_s, isTy_l, iaddD, atI_0, atI_1, atI_2, atI_3, atI_4, low_int, low_str, low_bl, low_non, anyI_l, anyI_r, anyI_t, anyI_s, rng1I_i, rng2I_ii, ixN5, set_concat, get_concat, take_concat, len_concat, notInD_cs, inD_cs, sindexD_s, intD_s, tyN_s, tyN_i, tyN_b, tyN_n, tyN_t, tyN_l, tyIs_t, zipI_tt,
 startD, List.map_cons, List.map_nil, List.length_cons, List.length_nil, List.cons_append, List.nil_append, List.getElem?_cons_zero, List.getElem?_cons_succ, List.set_cons_zero, List.set_cons_succ, List.replicate_succ, List.replicate_zero, Option.bind_some, if_true, if_false, Bool.true_and, Bool.false_and, Bool.and_true, Bool.not_true, Bool.not_false, decide_true, decide_false, eq_self, Nat.zero_add, Nat.reduceAdd, Nat.reduceSub, reduceIte, reduceCtorEq, Int.reduceEq, Bool.false_eq_true, true_and, and_true, true_or, or_true, decide_eq_true_eq, id], rfl⟩⟩)
  rw [filter_ints _ (fun x => !decide (x ∈ m)) (fun _ => rfl)] at c
  have e := new_sorted c (row_l _) (hl.filter fun x => !decide (x ∈ m))
  simp only [Bd, seqS, setS, retS, retN, dropS, ifS, forS, putS, augS, nxS, bkS, ctS, SR.seq_nx, SR.seq_rt, SR.seq_exc, SR.seq_bk, SR.seq_ct, SR.turn_nx, SR.turn_ct, SR.turn_bk, SR.turn_rt, SR.turn_exc, R.bind_ok, R.bind_bad, R.bind_exc, R.bindN_ok, R.st_ok, R.st_exc,
 varE, cE, binF, tstF, chnF, andB, orB, notB, andV, orV, notV, ifE, nilF, consF, tupF, lstF, ownF, negF, noO, someO, slF, callF, appF, isiF, mthF, itF, itA, nmG, nilG, consG, tupG, yesB, wipeD,
 addD_ii, addD_ss, addD_ll, subD_ii, mulD_ii, mulD_li, mulD_si, fdivD_ii, modD_ii, powD_10_18, ltD_ii, leD_ii, gtD_ii, geD_ii, gtD_ss, ltD_ss, eqD_ii, eqD_ss, eqD_bb, neD_ii, neD_ss, isBD_bb, isND_non, isND_int, isND_str, notND_non, notND_int, notND_str, lenD_s, lenD_l, lenD_r, lenD_t, lenD_c, min2D_ii, max2D_ii, intD_i, intD_b, strD_i, sumD_l, sumD_c, sumD_t, maxD_c, tupleD_l, tupleD_t, tupleD_c, listD_l, listD_t,
 ixD_l, ixD_r, ixD_t, ixD_s, ixD_c, slD_s, slD_l, slD_r, putIx_c, appendD_c, extendD_cl, isTy_c, isTy_s, isTy_l, iaddD, atI_0, atI_1, atI_2, atI_3, atI_4, low_int, low_str, low_bl, low_non, anyI_l, anyI_r, anyI_t, anyI_s, rng1I_i, rng2I_ii, ixN5, set_concat, get_concat, take_concat, len_concat, notInD_cs, inD_cs, sindexD_s, intD_s, tyN_s, tyN_i, tyN_b, tyN_n, tyN_t, tyN_l, tyIs_t, zipI_tt,
 startD, List.map_cons, List.map_nil, List.length_cons, List.length_nil, List.cons_append, List.nil_append, List.getElem?_cons_zero, List.getElem?_cons_succ, List.set_cons_zero, List.set_cons_succ, List.replicate_succ, List.replicate_zero, Option.bind_some, if_true, if_false, Bool.true_and, Bool.false_and, Bool.and_true, Bool.not_true, Bool.not_false, decide_true, decide_false, eq_self, Nat.zero_add, Nat.reduceAdd, Nat.reduceSub, reduceIte, reduceCtorEq, Int.reduceEq, Bool.false_eq_true, true_and, and_true, true_or, or_true, decide_eq_true_eq, e, leave_rt, fz_sk, List.take_length]
theorem Rise.move (h : Rise l) {t : Int} (ht : 0 ≤ t) : Rise (l.map fun x => x + t) := ⟨List.pairwise_map.mpr (h.up.imp fun hab => by omega), fun x hx => by
    obtain ⟨y, hy, rfl⟩ := List.mem_map.mp hx; have := h.nn y hy; omega, by rw [List.length_map]; exact h.few⟩
theorem shift_sk (hl : Rise l) {t : Int} (ht : 0 ≤ t) : F_Strokes___rshift__ [skO l, .int t] S = .ok (skO (l.map fun x => x + t)) S := by
  unfold F_Strokes___rshift__ fnF g_Strokes___rshift__
  have c := compF_all (vs := [2]) (fi := itF anyI (fldF ["Strokes"] "offsets" (varE 0))) (g := nmG 2) (fe := binF addD (varE 2) (varE 1)) (ρ := [some (skO l), some (.int t), none]) (S := S) (S1 := S) (ds := l.map .int) (fun d => match d with | .int i => .int (i + t) | _ => .non) (by
    simp only [Bd, seqS, setS, retS, retN, dropS, ifS, forS, putS, augS, nxS, bkS, ctS, SR.seq_nx, SR.seq_rt, SR.seq_exc, SR.seq_bk, SR.seq_ct, SR.turn_nx, SR.turn_ct, SR.turn_bk, SR.turn_rt, SR.turn_exc, R.bind_ok, R.bind_bad, R.bind_exc, R.bindN_ok, R.st_ok, R.st_exc,
 varE, cE, binF, tstF, chnF, andB, orB, notB, andV, orV, notV, ifE, nilF, consF, tupF, lstF, ownF, negF, noO, someO, slF, callF, appF, isiF, mthF, itF, itA, nmG, nilG, consG, tupG, yesB, wipeD,
 addD_ii, addD_ss, addD_ll, subD_ii, mulD_ii, mulD_li, mulD_si, fdivD_ii, modD_ii, powD_10_18, ltD_ii, leD_ii, gtD_ii, geD_ii, gtD_ss, ltD_ss, eqD_ii, eqD_ss, eqD_bb, neD_ii, neD_ss, isBD_bb, isND_non, isND_int, isND_str, notND_non, notND_int, notND_str, lenD_s, lenD_l, lenD_r, lenD_t, lenD_c, min2D_ii, max2D_ii, intD_i, intD_b, strD_i, sumD_l, sumD_c, sumD_t, maxD_c, tupleD_l, tupleD_t, tupleD_c, listD_l, listD_t,
 ixD_l, ixD_r, ixD_t, ixD_s, ixD_c, slD_s, slD_l, slD_r, putIx_c, appendD_c, extendD_cl, isTy_c, isTy_s, isTy_l, iaddD, atI_0, atI_1, atI_2, atI_3, atI_4, low_int, low_str, low_bl, low_non, anyI_l, anyI_r, anyI_t, anyI_s, rng1I_i, rng2I_ii, ixN5, set_concat, get_concat, take_concat, len_concat, notInD_cs, inD_cs, sindexD_s, intD_s, tyN_s, tyN_i, tyN_b, tyN_n, tyN_t, tyN_l, tyIs_t, zipI_tt,
 startD, List.map_cons, List.map_nil, List.length_cons, List.length_nil, List.cons_append, List.nil_append, List.getElem?_cons_zero, List.getElem?_cons_succ, List.set_cons_zero, List.set_cons_succ, List.replicate_succ, List.replicate_zero, Option.bind_some, if_true, if_false, Bool.true_and, Bool.false_and, Bool.and_true, Bool.not_true, Bool.not_false, decide_true, decide_false, eq_self, Nat.zero_add, Nat.reduceAdd, Nat.reduceSub, reduceIte, reduceCtorEq, Int.reduceEq, Bool.false_eq_true, true_and, and_true, true_or, or_true, decide_eq_true_eq, fldF, fld_off, List.mem_singleton, List.zip_cons_cons, List.zip_nil_left, List.lookup, beq_self_eq_true]) (sizeLine_big (by have := hl.few; simp; omega)) (fun d hd acc => by
    obtain ⟨i, _, rfl⟩ := List.mem_map.mp hd
    exact ⟨[some (skO l), some (.int t), some (.int i)], rfl, by simp only [Bd, seqS, setS, retS, retN, dropS, ifS, forS, putS, augS, nxS, bkS, ctS, SR.seq_nx, SR.seq_rt, SR.seq_exc, SR.seq_bk, SR.seq_ct, SR.turn_nx, SR.turn_ct, SR.turn_bk, SR.turn_rt, SR.turn_exc, R.bind_ok, R.bind_bad, R.bind_exc, R.bindN_ok, R.st_ok, R.st_exc,
 varE, cE, binF, tstF, chnF, andB, orB, notB, andV, orV, notV, ifE, nilF, consF, tupF, lstF, ownF, negF, noO, someO, slF, callF, appF, isiF, mthF, itF, itA, nmG, nilG, consG, tupG, yesB, wipeD,
 addD_ii, addD_ss, addD_ll, subD_ii, mulD_ii, mulD_li, mulD_si, fdivD_ii, modD_ii, powD_10_18, ltD_ii, leD_ii, gtD_ii, geD_ii, gtD_ss, ltD_ss, eqD_ii, eqD_ss, eqD_bb, neD_ii, neD_ss, isBD_bb, isND_non, isND_int, isND_str, notND_non, notND_int, notND_str, lenD_s, lenD_l, lenD_r, lenD_t, lenD_c, min2D_ii, max2D_ii, intD_i, intD_b, strD_i, sumD_l, sumD_c, sumD_t, maxD_c, tupleD_l, tupleD_t, tupleD_c, listD_l, listD_t,
 ixD_l, ixD_r, ixD_t, ixD_s, ixD_c, slD_s, slD_l, slD_r, putIx_c, appendD_c, extendD_cl, isTy_c, isTy_s, isTy_l, iaddD, atI_0, atI_1, atI_2, atI_3, atI_4, low_int, low_str, low_bl, low_non, anyI_l, anyI_r, anyI_t, anyI_s, rng1I_i, rng2I_ii, ixN5, set_concat, get_concat, take_concat, len_concat, notInD_cs, inD_cs, sindexD_s, intD_s, tyN_s, tyN_i, tyN_b, tyN_n, tyN_t, tyN_l, tyIs_t, zipI_tt,
 startD, List.map_cons, List.map_nil, List.length_cons, List.length_nil, List.cons_append, List.nil_append, List.getElem?_cons_zero, List.getElem?_cons_succ, List.set_cons_zero, List.set_cons_succ, List.replicate_succ, List.replicate_zero, Option.bind_some, if_true, if_false, Bool.true_and, Bool.false_and, Bool.and_true, Bool.not_true, Bool.not_false, decide_true, decide_false, eq_self, Nat.zero_add, Nat.reduceAdd, Nat.reduceSub, reduceIte, reduceCtorEq, Int.reduceEq, Bool.false_eq_true, true_and, and_true, true_or, or_true, decide_eq_true_eq], rfl⟩)
  rw [List.map_map, show ((fun d => match d with | .int i => .int (i + t) | _ => .non) ∘ D.int : Int → D) = D.int ∘ fun x => x + t from rfl, ← List.map_map] at c
  have e := new_sorted c (row_l _) (hl.move ht)
  simp only [Bd, seqS, setS, retS, retN, dropS, ifS, forS, putS, augS, nxS, bkS, ctS, SR.seq_nx, SR.seq_rt, SR.seq_exc, SR.seq_bk, SR.seq_ct, SR.turn_nx, SR.turn_ct, SR.turn_bk, SR.turn_rt, SR.turn_exc, R.bind_ok, R.bind_bad, R.bind_exc, R.bindN_ok, R.st_ok, R.st_exc,
 varE, cE, binF, tstF, chnF, andB, orB, notB, andV, orV, notV, ifE, nilF, consF, tupF, lstF, ownF, negF, noO, someO, slF, callF, appF, isiF, mthF, itF, itA, nmG, nilG, consG, tupG, yesB, wipeD,
 addD_ii, addD_ss, addD_ll, subD_ii, mulD_ii, mulD_li, mulD_si, fdivD_ii, modD_ii, powD_10_18, ltD_ii, leD_ii, gtD_ii, geD_ii, gtD_ss, ltD_ss, eqD_ii, eqD_ss, eqD_bb, neD_ii, neD_ss, isBD_bb, isND_non, isND_int, isND_str, notND_non, notND_int, notND_str, lenD_s, lenD_l, lenD_r, lenD_t, lenD_c, min2D_ii, max2D_ii, intD_i, intD_b, strD_i, sumD_l, sumD_c, sumD_t, maxD_c, tupleD_l, tupleD_t, tupleD_c, listD_l, listD_t,
 ixD_l, ixD_r, ixD_t, ixD_s, ixD_c, slD_s, slD_l, slD_r, putIx_c, appendD_c, extendD_cl, isTy_c, isTy_s, isTy_l, iaddD, atI_0, atI_1, atI_2, atI_3, atI_4, low_int, low_str, low_bl, low_non, anyI_l, anyI_r, anyI_t, anyI_s, rng1I_i, rng2I_ii, ixN5, set_concat, get_concat, take_concat, len_concat, notInD_cs, inD_cs, sindexD_s, intD_s, tyN_s, tyN_i, tyN_b, tyN_n, tyN_t, tyN_l, tyIs_t, zipI_tt,
 startD, List.map_cons, List.map_nil, List.length_cons, List.length_nil, List.cons_append, List.nil_append, List.getElem?_cons_zero, List.getElem?_cons_succ, List.set_cons_zero, List.set_cons_succ, List.replicate_succ, List.replicate_zero, Option.bind_some, if_true, if_false, Bool.true_and, Bool.false_and, Bool.and_true, Bool.not_true, Bool.not_false, decide_true, decide_false, eq_self, Nat.zero_add, Nat.reduceAdd, Nat.reduceSub, reduceIte, reduceCtorEq, Int.reduceEq, Bool.false_eq_true, true_and, and_true, true_or, or_true, decide_eq_true_eq, check_ok ht, e, leave_rt, fz_sk, List.take_length]
theorem shift_odd {d : D} (h : Odd d) : F_Strokes___rshift__ [skO l, d] S = .exc "BadOffset" ["offset"] [d] S := by
  unfold F_Strokes___rshift__ fnF g_Strokes___rshift__
  simp only [Bd, seqS, setS, retS, retN, dropS, ifS, forS, putS, augS, nxS, bkS, ctS, SR.seq_nx, SR.seq_rt, SR.seq_exc, SR.seq_bk, SR.seq_ct, SR.turn_nx, SR.turn_ct, SR.turn_bk, SR.turn_rt, SR.turn_exc, R.bind_ok, R.bind_bad, R.bind_exc, R.bindN_ok, R.st_ok, R.st_exc,
 varE, cE, binF, tstF, chnF, andB, orB, notB, andV, orV, notV, ifE, nilF, consF, tupF, lstF, ownF, negF, noO, someO, slF, callF, appF, isiF, mthF, itF, itA, nmG, nilG, consG, tupG, yesB, wipeD,
 addD_ii, addD_ss, addD_ll, subD_ii, mulD_ii, mulD_li, mulD_si, fdivD_ii, modD_ii, powD_10_18, ltD_ii, leD_ii, gtD_ii, geD_ii, gtD_ss, ltD_ss, eqD_ii, eqD_ss, eqD_bb, neD_ii, neD_ss, isBD_bb, isND_non, isND_int, isND_str, notND_non, notND_int, notND_str, lenD_s, lenD_l, lenD_r, lenD_t, lenD_c, min2D_ii, max2D_ii, intD_i, intD_b, strD_i, sumD_l, sumD_c, sumD_t, maxD_c, tupleD_l, tupleD_t, tupleD_c, listD_l, listD_t,
 ixD_l, ixD_r, ixD_t, ixD_s, ixD_c, slD_s, slD_l, slD_r, putIx_c, appendD_c, extendD_cl, isTy_c, isTy_s, isTy_l, iaddD, atI_0, atI_1, atI_2, atI_3, atI_4, low_int, low_str, low_bl, low_non, anyI_l, anyI_r, anyI_t, anyI_s, rng1I_i, rng2I_ii, ixN5, set_concat, get_concat, take_concat, len_concat, notInD_cs, inD_cs, sindexD_s, intD_s, tyN_s, tyN_i, tyN_b, tyN_n, tyN_t, tyN_l, tyIs_t, zipI_tt,
 startD, List.map_cons, List.map_nil, List.length_cons, List.length_nil, List.cons_append, List.nil_append, List.getElem?_cons_zero, List.getElem?_cons_succ, List.set_cons_zero, List.set_cons_succ, List.replicate_succ, List.replicate_zero, Option.bind_some, if_true, if_false, Bool.true_and, Bool.false_and, Bool.and_true, Bool.not_true, Bool.not_false, decide_true, decide_false, eq_self, Nat.zero_add, Nat.reduceAdd, Nat.reduceSub, reduceIte, reduceCtorEq, Int.reduceEq, Bool.false_eq_true, true_and, and_true, true_or, or_true, decide_eq_true_eq, check_odd h, leave, h.fr, List.take_length]
end

/-! ### as operators and calls -/
section
variable {S S1 S2 : Sto} {l m : List Int} {ρ : Nv} {fe fo : EF} {d : D}
theorem lookS {β : Type} {b : β} : List.lookup ("Strokes" : Str) [(("Strokes" : Str), b)] = some b := look1
theorem op_sk {F : DFun} {g : D → D → Sto → R D} (h : okR "Strokes" d S = true) : opO ([("Strokes", F)] : List (Str × DFun)) g (skO l) d S = F [skO l, d] S := by
  show (match List.lookup ("Strokes" : Str) [(("Strokes" : Str), F)] with
    | some Ff => if okR "Strokes" d S then Ff [skO l, d] S else .bad
    | none => g (skO l) d S) = _
  rw [lookS]; dsimp only; rw [if_pos h]
theorem okR_int (i : Int) : okR "Strokes" (.int i) S = true := rfl
theorem okR_sk : okR "Strokes" (skO l) S = true := by show (("Strokes" : Str) == ("Strokes" : Str)) = true; exact beq_self_eq_true _
theorem op_shift {g : D → D → Sto → R D} (hl : Rise l) {t : Int} (ht : 0 ≤ t) : opO ([("Strokes", F_Strokes___rshift__)] : List (Str × DFun)) g (skO l) (.int t) S = .ok (skO (l.map fun x => x + t)) S := by
  rw [op_sk (okR_int t), shift_sk hl ht]
theorem op_shift_odd {g : D → D → Sto → R D} (h : Odd d) (ho : okR "Strokes" d S = true) : opO ([("Strokes", F_Strokes___rshift__)] : List (Str × DFun)) g (skO l) d S = .exc "BadOffset" ["offset"] [d] S := by
  rw [op_sk ho, shift_odd h]
theorem op_or {g : D → D → Sto → R D} (hl : Rise l) (hm : Rise m) (h : l.length + m.length ≤ 4000) : opO ([("Strokes", F_Strokes___or__)] : List (Str × DFun)) g (skO l) (skO m) S = .ok (skO (usort (l ++ m))) S := by
  rw [op_sk okR_sk, or_sk hl hm h]
theorem op_sub {g : D → D → Sto → R D} (hl : Rise l) : opO ([("Strokes", F_Strokes___sub__)] : List (Str × DFun)) g (skO l) (skO m) S = .ok (skO (l.filter fun x => !decide (x ∈ m))) S := by
  rw [op_sk okR_sk, sub_sk hl]
theorem sk_eq {g : D → D → Sto → R D} : eqO ([("Strokes", F_Strokes___eq__)] : List (Str × DFun)) g (skO l) (skO m) S = .ok (.bl (decide (l = m))) S := by
  unfold eqO; rw [op_sk okR_sk, eq_sk]
theorem sk_ne {g : D → D → Sto → R D} : neO ([("Strokes", F_Strokes___eq__)] : List (Str × DFun)) g (skO l) (skO m) S = .ok (.bl (!decide (l = m))) S := by
  show (match List.lookup ("Strokes" : Str) [(("Strokes" : Str), F_Strokes___eq__)] with
    | some Ff => if okR "Strokes" (skO m) S then (Ff [skO l, skO m] S).flip else .bad
    | none => g (skO l) (skO m) S) = _
  rw [lookS]; dsimp only; rw [if_pos okR_sk, eq_sk]; rfl
theorem list_sk (hl : l.length ≤ 16777216) : listO ([("Strokes", "offsets", F_Strokes___len__)] : List (Str × Str × DFun)) listD [skO l] S = .ok (.lst (l.map .int)) S := by
  show (match List.lookup ("Strokes" : Str) [(("Strokes" : Str), (("offsets" : Str), F_Strokes___len__))] with
      | some (fl, Lf) => match ((["offsets", "known"] : List Str).zip ([.tup (l.map .int), .dic (knK l) (knV l)] : List D)).lookup fl with
        | some (.tup zs) => match Lf [skO l] S with
          | .ok (.int n) S2 => if Bd (0 ≤ n ∧ n ≤ 16777216) then (.ok (.lst zs) S2 : R D) else .bad
          | _ => (.bad : R D)
        | _ => (.bad : R D)
      | none => (.bad : R D)) = _
  rw [lookS]; dsimp only
  rw [List.zip_cons_cons, look1]; dsimp only
  rw [len_sk]; dsimp only
  exact if_pos (show (0 : Int) ≤ l.length ∧ (l.length : Int) ≤ 16777216 from ⟨by omega, by omega⟩)
theorem mth_cut {t : Int} (hl : Rise l) (ho : fo ρ S = .ok (skO l) S1) (he : fe ρ S1 = .ok (.int t) S2) : mthO "cut" 1 0 2 (fun ds _ => ds) ([("Strokes", F_Strokes_cut)] : List (Str × DFun)) fo (consF fe nilF) nilF ρ S = .ok (skO (l.filter fun x => decide (x < t))) S2 := by
  have nm : ¬ ("cut" : Str) ∈ (["offsets", "known"] : List Str) := by decide
  unfold mthO argsF
  simp only [Bd, seqS, setS, retS, retN, dropS, ifS, forS, putS, augS, nxS, bkS, ctS, SR.seq_nx, SR.seq_rt, SR.seq_exc, SR.seq_bk, SR.seq_ct, SR.turn_nx, SR.turn_ct, SR.turn_bk, SR.turn_rt, SR.turn_exc, R.bind_ok, R.bind_bad, R.bind_exc, R.bindN_ok, R.st_ok, R.st_exc,
 varE, cE, binF, tstF, chnF, andB, orB, notB, andV, orV, notV, ifE, nilF, consF, tupF, lstF, ownF, negF, noO, someO, slF, callF, appF, isiF, mthF, itF, itA, nmG, nilG, consG, tupG, yesB, wipeD,
 addD_ii, addD_ss, addD_ll, subD_ii, mulD_ii, mulD_li, mulD_si, fdivD_ii, modD_ii, powD_10_18, ltD_ii, leD_ii, gtD_ii, geD_ii, gtD_ss, ltD_ss, eqD_ii, eqD_ss, eqD_bb, neD_ii, neD_ss, isBD_bb, isND_non, isND_int, isND_str, notND_non, notND_int, notND_str, lenD_s, lenD_l, lenD_r, lenD_t, lenD_c, min2D_ii, max2D_ii, intD_i, intD_b, strD_i, sumD_l, sumD_c, sumD_t, maxD_c, tupleD_l, tupleD_t, tupleD_c, listD_l, listD_t,
 ixD_l, ixD_r, ixD_t, ixD_s, ixD_c, slD_s, slD_l, slD_r, putIx_c, appendD_c, extendD_cl, isTy_c, isTy_s, isTy_l, iaddD, atI_0, atI_1, atI_2, atI_3, atI_4, low_int, low_str, low_bl, low_non, anyI_l, anyI_r, anyI_t, anyI_s, rng1I_i, rng2I_ii, ixN5, set_concat, get_concat, take_concat, len_concat, notInD_cs, inD_cs, sindexD_s, intD_s, tyN_s, tyN_i, tyN_b, tyN_n, tyN_t, tyN_l, tyIs_t, zipI_tt,
 startD, List.map_cons, List.map_nil, List.length_cons, List.length_nil, List.cons_append, List.nil_append, List.getElem?_cons_zero, List.getElem?_cons_succ, List.set_cons_zero, List.set_cons_succ, List.replicate_succ, List.replicate_zero, Option.bind_some, if_true, if_false, Bool.true_and, Bool.false_and, Bool.and_true, Bool.not_true, Bool.not_false, decide_true, decide_false, eq_self, Nat.zero_add, Nat.reduceAdd, Nat.reduceSub, reduceIte, reduceCtorEq, Int.reduceEq, Bool.false_eq_true, true_and, and_true, true_or, or_true, decide_eq_true_eq, ho, fld_off, lookS, nm, he, cut_sk hl]
theorem is_sk (he : fe ρ S = .ok (skO l) S1) : isOF ([("Strokes", true)] : List (Str × Bool)) fe ρ S = .ok (.bl true) S1 := by
  unfold isOF
  rw [he, R.bind_ok]
  show (match List.lookup ("Strokes" : Str) [(("Strokes" : Str), true)] with
    | some b => (.ok (.bl b) S1 : R D)
    | none => .bad) = _
  rw [lookS]
theorem fld_sk (he : fe ρ S = .ok (skO l) S1) : fldF ["Strokes"] "offsets" fe ρ S = .ok (.tup (l.map .int)) S1 := by
  simp only [Bd, seqS, setS, retS, retN, dropS, ifS, forS, putS, augS, nxS, bkS, ctS, SR.seq_nx, SR.seq_rt, SR.seq_exc, SR.seq_bk, SR.seq_ct, SR.turn_nx, SR.turn_ct, SR.turn_bk, SR.turn_rt, SR.turn_exc, R.bind_ok, R.bind_bad, R.bind_exc, R.bindN_ok, R.st_ok, R.st_exc,
 varE, cE, binF, tstF, chnF, andB, orB, notB, andV, orV, notV, ifE, nilF, consF, tupF, lstF, ownF, negF, noO, someO, slF, callF, appF, isiF, mthF, itF, itA, nmG, nilG, consG, tupG, yesB, wipeD,
 addD_ii, addD_ss, addD_ll, subD_ii, mulD_ii, mulD_li, mulD_si, fdivD_ii, modD_ii, powD_10_18, ltD_ii, leD_ii, gtD_ii, geD_ii, gtD_ss, ltD_ss, eqD_ii, eqD_ss, eqD_bb, neD_ii, neD_ss, isBD_bb, isND_non, isND_int, isND_str, notND_non, notND_int, notND_str, lenD_s, lenD_l, lenD_r, lenD_t, lenD_c, min2D_ii, max2D_ii, intD_i, intD_b, strD_i, sumD_l, sumD_c, sumD_t, maxD_c, tupleD_l, tupleD_t, tupleD_c, listD_l, listD_t,
 ixD_l, ixD_r, ixD_t, ixD_s, ixD_c, slD_s, slD_l, slD_r, putIx_c, appendD_c, extendD_cl, isTy_c, isTy_s, isTy_l, iaddD, atI_0, atI_1, atI_2, atI_3, atI_4, low_int, low_str, low_bl, low_non, anyI_l, anyI_r, anyI_t, anyI_s, rng1I_i, rng2I_ii, ixN5, set_concat, get_concat, take_concat, len_concat, notInD_cs, inD_cs, sindexD_s, intD_s, tyN_s, tyN_i, tyN_b, tyN_n, tyN_t, tyN_l, tyIs_t, zipI_tt,
 startD, List.map_cons, List.map_nil, List.length_cons, List.length_nil, List.cons_append, List.nil_append, List.getElem?_cons_zero, List.getElem?_cons_succ, List.set_cons_zero, List.set_cons_succ, List.replicate_succ, List.replicate_zero, Option.bind_some, if_true, if_false, Bool.true_and, Bool.false_and, Bool.and_true, Bool.not_true, Bool.not_false, decide_true, decide_false, eq_self, Nat.zero_add, Nat.reduceAdd, Nat.reduceSub, reduceIte, reduceCtorEq, Int.reduceEq, Bool.false_eq_true, true_and, and_true, true_or, or_true, decide_eq_true_eq, fldF, he, fld_off, List.mem_singleton, List.zip_cons_cons, List.zip_nil_left, List.lookup, beq_self_eq_true]
theorem new_empty : makeF false "Strokes" 0 0 2 (fun ds _ => ds ++ [.tup []]) F_Strokes___init__ nilF nilF ρ S = .ok (skO []) S := by
  have h := mk_ok (S := S) (ns := []) (row_t ([] : List D)) (fun _ h => by cases h) (Nat.zero_le _)
  unfold mkC at h
  unfold makeF argsF mkC
  simp only [Bd, seqS, setS, retS, retN, dropS, ifS, forS, putS, augS, nxS, bkS, ctS, SR.seq_nx, SR.seq_rt, SR.seq_exc, SR.seq_bk, SR.seq_ct, SR.turn_nx, SR.turn_ct, SR.turn_bk, SR.turn_rt, SR.turn_exc, R.bind_ok, R.bind_bad, R.bind_exc, R.bindN_ok, R.st_ok, R.st_exc,
 varE, cE, binF, tstF, chnF, andB, orB, notB, andV, orV, notV, ifE, nilF, consF, tupF, lstF, ownF, negF, noO, someO, slF, callF, appF, isiF, mthF, itF, itA, nmG, nilG, consG, tupG, yesB, wipeD,
 addD_ii, addD_ss, addD_ll, subD_ii, mulD_ii, mulD_li, mulD_si, fdivD_ii, modD_ii, powD_10_18, ltD_ii, leD_ii, gtD_ii, geD_ii, gtD_ss, ltD_ss, eqD_ii, eqD_ss, eqD_bb, neD_ii, neD_ss, isBD_bb, isND_non, isND_int, isND_str, notND_non, notND_int, notND_str, lenD_s, lenD_l, lenD_r, lenD_t, lenD_c, min2D_ii, max2D_ii, intD_i, intD_b, strD_i, sumD_l, sumD_c, sumD_t, maxD_c, tupleD_l, tupleD_t, tupleD_c, listD_l, listD_t,
 ixD_l, ixD_r, ixD_t, ixD_s, ixD_c, slD_s, slD_l, slD_r, putIx_c, appendD_c, extendD_cl, isTy_c, isTy_s, isTy_l, iaddD, atI_0, atI_1, atI_2, atI_3, atI_4, low_int, low_str, low_bl, low_non, anyI_l, anyI_r, anyI_t, anyI_s, rng1I_i, rng2I_ii, ixN5, set_concat, get_concat, take_concat, len_concat, notInD_cs, inD_cs, sindexD_s, intD_s, tyN_s, tyN_i, tyN_b, tyN_n, tyN_t, tyN_l, tyIs_t, zipI_tt,
 startD, List.map_cons, List.map_nil, List.length_cons, List.length_nil, List.cons_append, List.nil_append, List.getElem?_cons_zero, List.getElem?_cons_succ, List.set_cons_zero, List.set_cons_succ, List.replicate_succ, List.replicate_zero, Option.bind_some, if_true, if_false, Bool.true_and, Bool.false_and, Bool.and_true, Bool.not_true, Bool.not_false, decide_true, decide_false, eq_self, Nat.zero_add, Nat.reduceAdd, Nat.reduceSub, reduceIte, reduceCtorEq, Int.reduceEq, Bool.false_eq_true, true_and, and_true, true_or, or_true, decide_eq_true_eq]
  exact h
end
end Zd

set_option Elab.async false
set_option linter.all false
set_option maxRecDepth 100000
set_option maxHeartbeats 4000000
set_option autoImplicit false
/-! Zd: enumerate of a list or a tuple; a comprehension with two fors. -/
namespace Zd
open PySem PySem.Spec L2
open PyProof.Rows hiding St

/-! ### enumerate(v) -/
/-- enumerate with one argument, of anything that iter takes -/
theorem enu_new {v : Value} {o : Obj} {H : Heap → Prop} (B : Begins v o H) :
    Meets (Builtin.«enumerate.__new__» ⟨[.type "enumerate", v], []⟩) (fun _ R s => H s.heap ∧ R (.ok (.ret (.ref (s.heap.push o).objs.size))) { s with heap := (s.heap.push o).push { cls := .type "enumerate", data := .fields #[.none, .bool false, .ref s.heap.objs.size, rawInt 0, .none, .none] } }) :=
  .of_wp fun prog w A R s q => by
    obtain ⟨hp, g, d, tk, os⟩ := s
    obtain ⟨q0, q⟩ := q
    have sub := sub_enumerate
    have it : ∀ {A1 : Around} {E1 : Value → Shared → Prop} {Q1 : Value → Shared → Prop}, Q1 (.ref hp.objs.size) ⟨hp.push o, g, d, tk, os⟩ → wpAny (model prog w) A1 (pyIter v) Q1 E1 ⟨hp, g, d, tk, os⟩ :=
      fun z => B.iter prog w _ _ ⟨hp, g, d, tk, os⟩ _ q0 z
    wp_walk using it
    refine wpAny_stack_any fun st => wpAny_pure ?_
    split
    · rename_i c _ _ _ _ _
      cases (c == Value.type "enumerate")
      · wp_walk using it
        exact ⟨_, rfl, q⟩
      · wp_walk using it
        exact ⟨_, rfl, q⟩
    · wp_walk using it
      exact ⟨_, rfl, q⟩
section
variable {prog : Program} {w : World} {A : Around} {E : Value → Shared → Prop} {s : Shared}
theorem enu_call {v : Value} {o : Obj} {H : Heap → Prop} {Q : Value → Shared → Prop} (B : Begins v o H) (h1 : H s.heap)
    (h : ∀ h', IsEnum h' (s.heap.objs.size + 1) s.heap.objs.size 0 .none → h'.get? s.heap.objs.size = some o → h'.objs.size = s.heap.objs.size + 2 → (∀ b ob, s.heap.get? b = some ob → h'.get? b = some ob) → Q (.ref (s.heap.objs.size + 1)) { s with heap := h' }) :
    wpAny (model prog w) A (call (.type "enumerate") [v]) Q E s := by
  refine callType_new F.called_enumerate (by decide) (F.typeCall_enumerate_1 _) (F.newCall_enumerate_1 _) (fun obj => F.args_object_init_2 obj _) F.entry_enumerate_new (enu_new B) ⟨h1, ?_⟩
  have z1 : (s.heap.push o).objs.size = s.heap.objs.size + 1 := Heap.size_push ..
  show _ ∧ _
  rw [z1]
  have e1 : IsEnum ((s.heap.push o).push { cls := .type "enumerate", data := .fields #[.none, .bool false, .ref s.heap.objs.size, rawInt 0, .none, .none] }) (s.heap.objs.size + 1) s.heap.objs.size 0 .none := by
    have z2 := Heap.get?_push_size (s.heap.push o) (o := { cls := .type "enumerate", data := .fields #[.none, .bool false, .ref s.heap.objs.size, rawInt 0, .none, .none] }) rfl
    rw [z1] at z2
    exact z2
  exact ⟨⟨_, e1, rfl⟩, h _ e1 (Heap.get?_push_of_some _ (Heap.get?_push_size _ B.free)) (by rw [Heap.size_push, z1]) fun b ob x => Heap.get?_push_of_some _ (Heap.get?_push_of_some _ x)⟩
end
/-- the tuple at a, each item in a new pair behind its number -/
def Iet (K : PySem.W.Frag) (a : Addr) : It :=
  ⟨fun i H => ∃ (xs : List V) (x : V), SqT K H a xs ∧ xs[i]? = some x, fun i H v H' => ∃ T x, v = .ref T ∧ H T = none ∧ H' = upd H T (.tup [.int (i : Nat), x]) ∧ ∀ xs, SqT K H a xs → xs[i]? = some x, fun i H => ∃ xs : List V, SqT K H a xs ∧ xs.length = i⟩
theorem turn_iet {P : Program} {w : World} {K : PySem.W.Frag} {elts : List Expr} {kk : Nat} {tpos : Pos} (a e it : Addr) :
    Turn P w K (.Tuple elts kk tpos) (Iet K a) [e, it] e (fun i h => (∃ old, IsEnum h e it ((i : Nat) : Int) old) ∧ h.IsTupleIter it a i ∧ e ≠ it) where
  mem := List.mem_cons_self
  obj := fun i h st b hb => by
    obtain ⟨⟨old, q1⟩, ⟨o, q2, _, q3⟩, _⟩ := st
    rcases List.mem_cons.mp hb with z | z
    · subst z; exact ⟨_, q1, fun v q => nomatch q⟩
    · have z := List.mem_singleton.mp z
      subst z; exact ⟨o, q2, fun v q => by rw [q3] at q; cases q⟩
  keep := fun i h h' st k => by
    obtain ⟨⟨old, q1⟩, q2, q3⟩ := st
    exact ⟨⟨old, k e List.mem_cons_self _ q1⟩, q2.at fun o q => k it (by simp) o q, q3⟩
  item := by
    intro X hP hw hK hc i pins s σ H E I hf st hg
    subst hP hw hK
    obtain ⟨⟨old, q1⟩, q2, q3⟩ := st
    obtain ⟨xs, x, hq, hx⟩ := hg
    obtain ⟨its, rv, p, hz⟩ := I.tuple hq
    obtain ⟨u, hu, ru⟩ := rv.get hx
    have hel : e < s.heap.objs.size := Heap.lt_size q1
    have hil : it < s.heap.objs.size := by obtain ⟨_, q, _⟩ := q2; exact Heap.lt_size q
    have hai : a ≠ it := fun z => by
      obtain ⟨o, e1, _, n, d1⟩ := p
      obtain ⟨o', e2, _, d2⟩ := q2
      rw [z, e2] at e1; cases e1; rw [d2] at d1; cases d1
    have hae : a ≠ e := fun z => by
      obtain ⟨o, e1, _, n, d1⟩ := p
      have e2 : s.heap.get? e = some _ := q1
      rw [z, e2] at e1; cases e1; cases d1
    have D := Draws.tuple (prog := X.prog) (w := X.w) (A := X.A.in1) (by have := I.ok.hd hc; exact this) it a hai its.toArray
    have hlt : i < its.toArray.size := by
      have := List.getElem?_eq_some_iff.mp hu
      simpa using this.1
    refine wpAny_pyNext_enum_itemD D q1 ⟨q2, p⟩ hlt q3 (by simp [q3, Ne.symm hae]) fun y h' tk hy ho hit' hT hsz hk => ?_
    have hyu : y = u := by
      have : its.toArray[i]? = some u := by simpa using hu
      rw [this] at hy; cases hy; rfl
    subst hyu
    refine ⟨_, rfl, wpAny_letOwnedTupleGo_enum (s := { s with heap := h', toks := tk + 1 }) ho fun h'' he' sb => ?_⟩
    have hT2 : h''.get? s.heap.objs.size = some { cls := .type "tuple", data := .seq #[.int i tk, y] } := (sb.2 _ (Nat.ne_of_gt hel)).trans hT
    have new : ObjOk X.prog X.w (upd H s.heap.objs.size (.tup [.int (i : Nat), x])) h'' s.heap.objs.size (.tup [.int (i : Nat), x]) :=
      ⟨by show 2 ≤ sizeLine; decide, [.int i tk, y], .cons ⟨_, rfl⟩ (.cons ru .nil), ⟨_, hT2, rfl, _, rfl⟩⟩
    have I1 : Inv X pins σ (upd H s.heap.objs.size (.tup [.int (i : Nat), x])) { s with heap := h'', toks := tk + 1 } :=
      I.turnedNew (t' := tk + 1) (ch := [e, it]) (fun b ob hb q => (sb.2 b (fun z => hb (by simp [z]))).trans (hk b ob (fun z => hb (by simp [z])) (fun z => hb (by simp [z])) q)) hf (Nat.le_refl _) new
    refine ⟨.ref s.heap.objs.size, _, I1, rfl, ⟨_, x, rfl, I.hok.fresh (Nat.le_refl _), rfl, fun ys hy => by rw [I.tuple_inj hy hq]; exact hx⟩, ⟨⟨y, ?_⟩, hit'.1.at fun o q => (sb.2 it (Ne.symm q3)).trans q, q3⟩, fun b hb => ?_⟩
    · have e1 : ((i + 1 : Nat) : Int) = (i : Int) + 1 := by omega
      rw [e1]; exact he'
    · have hb' : b < s.heap.objs.size := by
        rcases List.mem_cons.mp hb with z | z
        · rw [z]; exact hel
        · rw [List.mem_singleton.mp z]; exact hil
      rw [upd_ne (Nat.ne_of_lt hb')]
      exact (hf b hb).1
  done := by
    intro X hP hw hK hc i pins s σ H E I hf st hg
    subst hP hw hK
    obtain ⟨⟨old, q1⟩, q2, q3⟩ := st
    obtain ⟨xs, hq, hx⟩ := hg
    obtain ⟨its, rv, p, hz⟩ := I.tuple hq
    obtain ⟨f0, f1, f2, f3, f4, f5⟩ := hf it (by simp)
    have hl := rv.length
    have hai : a ≠ it := fun z => by
      obtain ⟨o, e1, _, n, d1⟩ := p
      obtain ⟨o', e2, _, d2⟩ := q2
      rw [z, e2] at e1; cases e1; rw [d2] at d1; cases d1
    have D := Draws.tuple (prog := X.prog) (w := X.w) (A := X.A.in1) (by have := I.ok.hd hc; exact this) it a hai its.toArray
    have hn : i = its.toArray.size := by rw [List.size_toArray, ← hl, hx]
    rw [hn] at q2
    exact wpAny_pyNext_enum_endD D q1 ⟨q2, p⟩ fun h' eb => ⟨rfl, I.turned (t' := s.toks) (fun b o hb q => eb b o hb q) f0 f1 f3 f4 f5⟩
  self := fun A i s Q E st h => let ⟨⟨_, q⟩, _⟩ := st; wpAny_pyIter_enum q h

def iEnu (K : PySem.W.Frag) (ta : TA) : TI := fun σ H R => ta σ H fun vs H1 => (∃ a xs, vs = [.ref a] ∧ SqL K H1 a xs ∧ R (Ite K a) H1) ∨ ∃ a xs, vs = [.ref a] ∧ SqT K H1 a xs ∧ R (Iet K a) H1
theorem pi_enu {X : Cx} {e : Expr} {ta : TA} {p pos tpos : Pos} {elts : List Expr} {kk : Nat} (hg : Gl X "enumerate") (hm : X.mg "enumerate" = none) (ha : PA X [e] ta) (hs : starEach [e] X.env = [(false, eval e X.env)] := by rfl) :
    PI X (.Tuple elts kk tpos) (.Call (.Name "enumerate" p) [e] [] pos) (iEnu X.K ta) := by
  refine ⟨fun pins s σ H R I h => ?_⟩
  refine Call_ (ld_blt I hg hm boot_enumerate (PyProof.Rows.callWith_type1 (thn (ha.run pos pins s σ H _ I h) fun us s1 ⟨vs, H1, I1, r1, q1⟩ => ?_) hs rfl))
  have new (I1 : Inv X pins σ H1 s1) : ∀ b ∈ [s1.heap.objs.size + 1, s1.heap.objs.size], FpOk X pins H1 b := fun b hb => by
    have hle : s1.heap.objs.size ≤ b := by
      rcases List.mem_cons.mp hb with z | z
      · rw [z]; exact Nat.le_add_right _ _
      · rw [List.mem_singleton.mp z]; exact Nat.le_refl _
    exact I1.fpOk hle (I1.hok.fresh hle)
  rcases q1 with ⟨a, xs, rfl, hq, q⟩ | ⟨a, xs, rfl, hq, q⟩
  · cases r1 with
    | cons r rr =>
      cases rr
      cases r
      obtain ⟨its, rv, p', hz⟩ := I1.list hq
      refine enu_call (begins_list a its.toArray) p'.isList fun h' he hit hsz hk => wpAny_pyIter_enum he ?_
      have I2 : Inv X pins σ H1 { s1 with heap := h' } := I1.kept (t' := s1.toks) hk
      exact ⟨s1.heap.objs.size + 1, [s1.heap.objs.size + 1, s1.heap.objs.size], _, _, H1, rfl, I2, turn_enum a (s1.heap.objs.size + 1) s1.heap.objs.size, ⟨⟨.none, he⟩, ⟨_, hit, rfl, rfl⟩, Nat.succ_ne_self _⟩, new I1, q⟩
  · cases r1 with
    | cons r rr =>
      cases rr
      cases r
      obtain ⟨its, rv, p', hz⟩ := I1.tuple hq
      refine enu_call (begins_tuple a its.toArray) p' fun h' he hit hsz hk => wpAny_pyIter_enum he ?_
      have I2 : Inv X pins σ H1 { s1 with heap := h' } := I1.kept (t' := s1.toks) hk
      exact ⟨s1.heap.objs.size + 1, [s1.heap.objs.size + 1, s1.heap.objs.size], _, _, H1, rfl, I2, turn_iet a (s1.heap.objs.size + 1) s1.heap.objs.size, ⟨⟨.none, he⟩, ⟨_, hit, rfl, rfl⟩, Nat.succ_ne_self _⟩, new I1, q⟩
/-- the pairs of enumerate -/
def enuL (n : Nat) : List D → List D
  | [] => []
  | d :: ds => .tup [.int (n : Nat), d] :: enuL (n + 1) ds
theorem enuL_at (ds : List D) : ∀ (n i : Nat), (enuL n ds)[i]? = (ds[i]?).map fun d => D.tup [.int ((n + i : Nat) : Int), d] := by
  induction ds with
  | nil => intro n i; rfl
  | cons d ds ih =>
    intro n i
    cases i with
    | zero => rfl
    | succ i =>
      show (enuL (n + 1) ds)[i]? = _
      rw [ih, List.getElem?_cons_succ, show n + 1 + i = n + (i + 1) by omega]
theorem enuL_len (ds : List D) : ∀ n, (enuL n ds).length = ds.length := by
  induction ds with
  | nil => intro n; rfl
  | cons d ds ih => intro n; show (enuL (n + 1) ds).length + 1 = _; rw [ih]; rfl
def enuI (ds : List D) (S : Sto) : R (List D) := match ds with
  | [.lst ds] => .ok (enuL 0 ds) S
  | [.rol ds] => .ok (enuL 0 ds) S
  | [.tup ds] => .ok (enuL 0 ds) S
  | _ => .bad
section
variable {W : Wd} {ms : List Addr} {H : Hp} {a : Addr} {vs : List V} {ds : List D}
theorem enu_step {ms1 : List Addr} {H1 : Hp} {S1 : Sto} {i : Nat} {T : Addr} {x : V} (f : Fut ms H ms1 H1) (s : StOk W ms1 S1 H1) (r : RpL W ms (era ms H) vs ds) (hT : H1 T = none) (hx : vs[i]? = some x) :
    Fut ms1 H1 ms1 (upd H1 T (.tup [.int (i : Nat), x])) ∧ StOk W ms1 S1 (upd H1 T (.tup [.int (i : Nat), x])) ∧ ∀ d, (enuL 0 ds)[i]? = some d → Rp W ms1 (era ms1 (upd H1 T (.tup [.int (i : Nat), x]))) (.ref T) d := by
  have fn := Fut.new (o := .tup [.int (i : Nat), x]) s hT
  refine ⟨fn, s.new hT, fun d hd => ?_⟩
  rw [enuL_at] at hd
  obtain ⟨y, hy, rfl⟩ := Option.map_eq_some_iff.mp hd
  obtain ⟨v, hv, rr⟩ := r.get hy
  rw [hx] at hv; cases hv
  rw [Nat.zero_add]
  exact .tup (.inl (.inl (era_new s hT))) (.cons (.int _) (.cons (Rp.fut rr (f.trans fn)) .nil))
theorem Ite.is (h : SqL W.K (era ms H) a vs) (r : RpL W ms (era ms H) vs ds) : IsIt W (Ite W.K a) (enuL 0 ds) ms H := by
  refine ⟨fun ms1 H1 S1 i f s hi => ?_, fun ms1 H1 S1 f s => ?_⟩
  · have q : SqL W.K H1 a vs := Same.seq (f.same.trans (era_same _ _)) h
    have hv : i < vs.length := by rw [r.length, ← enuL_len ds 0]; exact hi
    refine ⟨⟨vs, vs[i], q, List.getElem?_eq_getElem hv⟩, fun v H2 y => ?_⟩
    obtain ⟨T, x, rfl, hT, rfl, hy⟩ := y
    exact enu_step f s r hT (hy vs q)
  · exact ⟨vs, Same.seq (f.same.trans (era_same _ _)) h, by rw [r.length, enuL_len]; exact Nat.le_refl _⟩
theorem Iet.is (h : SqT W.K (era ms H) a vs) (r : RpL W ms (era ms H) vs ds) : IsIt W (Iet W.K a) (enuL 0 ds) ms H := by
  refine ⟨fun ms1 H1 S1 i f s hi => ?_, fun ms1 H1 S1 f s => ?_⟩
  · have q : SqT W.K H1 a vs := Same.sqT (f.same.trans (era_same _ _)) h
    have hv : i < vs.length := by rw [r.length, ← enuL_len ds 0]; exact hi
    refine ⟨⟨vs, vs[i], q, List.getElem?_eq_getElem hv⟩, fun v H2 y => ?_⟩
    obtain ⟨T, x, rfl, hT, rfl, hy⟩ := y
    exact enu_step f s r hT (hy vs q)
  · exact ⟨vs, Same.sqT (f.same.trans (era_same _ _)) h, by rw [r.length, enuL_len]⟩
end
theorem di_enum {X : Cx} {Y : Yx} {e : Expr} {fa : F (List D)} {p pos tpos : Pos} {elts : List Expr} {kk : Nat} (hg : Gl X "enumerate") (hm : X.mg "enumerate" = none) (ha : DA X Y [e] fa) (hs : starEach [e] X.env = [(false, eval e X.env)] := by rfl) :
    DI X Y (.Tuple elts kk tpos) (.Call (.Name "enumerate" p) [e] [] pos) (itA enuI fa) := by
  refine PI.weak (pi_enu hg hm ha hs) fun σ H R' h => tI_of (k := enuI) h (fun ds S1 vs ms1 H1 ds' S' e s r p => ?_) fun ds S1 c ks es S' => by unfold enuI; split <;> simp
  unfold enuI at e
  split at e
  · cases e
    cases r with
    | cons r rr =>
      cases rr
      cases r with
      | lst a b =>
        have q : SqL X.K (era ms1 H1) _ _ := .inl (.inl a)
        exact .inl ⟨_, _, rfl, Same.seq (era_same _ _) q, p _ ms1 H1 (Fut.refl _ _) s (Ite.is (W := wd X Y) q b)⟩
  · cases e
    cases r with
    | cons r rr =>
      cases rr
      cases r with
      | rol a b => exact .inl ⟨_, _, rfl, Same.seq (era_same _ _) a, p _ ms1 H1 (Fut.refl _ _) s (Ite.is (W := wd X Y) a b)⟩
  · cases e
    cases r with
    | cons r rr =>
      cases rr
      cases r with
      | tup a b => exact .inr ⟨_, _, rfl, Same.sqT (era_same _ _) a, p _ ms1 H1 (Fut.refl _ _) s (Iet.is (W := wd X Y) a b)⟩
  · cases e

/-! ### a comprehension with two fors -/
noncomputable def compL2 (n : Nat) (g : GF) (t : F Bool) (vs1 : List Nat) (fi1 : F (List D)) (g1 : GF) (t1 : F Bool) (fe : EF) (ρ : Nv) : List D → Sto → R Unit
  | [], S => .ok () S
  | d :: ds, S => match g d ρ S with
    | none => .bad
    | some ρ1 => (t ρ1 S).bindN fun k S1 => if k then (fi1 ρ1 S1).bindN fun ds1 S2 => (compL n g1 t1 fe (wipeD ρ1 vs1) ds1 S2).bindN fun _ S3 => compL2 n g t vs1 fi1 g1 t1 fe ρ ds S3 else compL2 n g t vs1 fi1 g1 t1 fe ρ ds S1
noncomputable def compG2 (fin : Nat → Sto → R D) (vs vs1 : List Nat) (fi : F (List D)) (g : GF) (t : F Bool) (fi1 : F (List D)) (g1 : GF) (t1 : F Bool) (fe : EF) : EF := fun ρ S => (fi ρ S).bind fun ds S1 => (compL2 S1.length g t vs1 fi1 g1 t1 fe (wipeD ρ vs) ds (S1 ++ [.lst []])).bindN fun _ S2 => fin S1.length S2
theorem lc2_of {W : Wd} {Wx : WX} {fin : Nat → Sto → R D} {fi fi1 : F (List D)} {is is1 vs vs1 : List Nat} {g g1 : GF} {t t1 : F Bool} {fe : EF} {σ : St} {H : Hp} {Q : VK} (hfin : Fin W fin) (hv : ∀ i ∈ is, i ∈ vs) (hv1 : ∀ i ∈ is1, i ∈ vs1) (h : tX W Wx (relD W) (compG2 fin vs vs1 fi g t fi1 g1 t1 fe) σ H Q) :
    tLc2 (tI W Wx fi) (tG W is g) (tX W (fun _ _ _ _ => False) relB t) (tI W (fun _ _ _ _ => False) fi1) (tG W is1 g1) (tX W (fun _ _ _ _ => False) relB t1) (tX W (fun _ _ _ _ => False) (relD W) fe) vs vs1 σ H Q := by
  obtain ⟨ms, S, ρ, ev, st, p⟩ := h
  refine ⟨ms, S, ρ, ev, st, ?_⟩
  unfold compG2 at p
  cases hf : fi ρ S with
  | bad => rw [hf] at p; exact p
  | exc c ks ds S' => rw [hf] at p; exact p
  | ok ds S1 =>
    rw [hf, R.bind_ok] at p
    intro J ms1 H1 f1 s1 isI D hD
    have p1 := Post.fut p f1
    have s2 : StOk W (ms1 ++ [D]) (S1 ++ [.lst []]) (upd H1 D (.lst [])) := s1.ownL hD .nil
    have hn : S1.length = ms1.length := s1.len.symm
    rw [hn] at p1
    have atOf : ∀ {ms' : List Addr} {H' : Hp}, Fut (ms1 ++ [D]) (upd H1 D (.lst [])) ms' H' → ms'[ms1.length]? = some D := fun f' => by
      obtain ⟨l, rfl⟩ := f'.ext
      refine pre_get ?_
      rw [List.getElem?_append_right (Nat.le_refl _), Nat.sub_self]
      rfl
    refine ⟨fun i m H' => m = ds.length - i ∧ i ≤ ds.length ∧ ∃ ms' S', Fut (ms1 ++ [D]) (upd H1 D (.lst [])) ms' H' ∧ StOk W ms' S' H' ∧
        Post W (relD W) ms1 H1 ((compL2 ms1.length g t vs1 fi1 g1 t1 fe (wipeD ρ vs) (ds.drop i) S').bindN fun _ S2 => fin ms1.length S2) Q (fun c d H' => Wx c d σ H'),
      ⟨ds.length, by simp, Nat.zero_le _, ms1 ++ [D], S1 ++ [.lst []], Fut.refl _ _, s2, by simpa using p1⟩, ?_⟩
    rintro i m H' ⟨rfl, hi, ms', S', f', s', p'⟩
    have fI : Fut ms1 H1 ms' H' := (Fut.own hD).trans f'
    by_cases hlt : i < ds.length
    · refine .inr ⟨(isI.step ms' H' S' i fI s' hlt).1, fun H' => ∃ ms' S', Fut (ms1 ++ [D]) (upd H1 D (.lst [])) ms' H' ∧ StOk W ms' S' H' ∧
          Post W (relD W) ms1 H1 ((compL2 ms1.length g t vs1 fi1 g1 t1 fe (wipeD ρ vs) (ds.drop (i + 1)) S').bindN fun _ S2 => fin ms1.length S2) Q (fun c d H' => Wx c d σ H'),
        fun H2 ⟨ms2, S2, q⟩ => ⟨ds.length - (i + 1), by omega, rfl, hlt, ms2, S2, q⟩, fun x H2 y => ?_⟩
      obtain ⟨f2, s2', r2⟩ := (isI.step ms' H' S' i fI s' hlt).2 x H2 y
      have r3 := r2 ds[i] (List.getElem?_eq_getElem hlt)
      rw [List.drop_eq_getElem_cons hlt] at p'
      unfold compL2 at p'
      have ev2 : Ev W (wipeD ρ vs) (L2.wipe σ vs) ms' H2 := (ev.fut (f1.trans (fI.trans f2))).wipe vs
      cases hgd : g ds[i] (wipeD ρ vs) S' with
      | none => rw [hgd] at p'; exact p'.elim
      | some ρ1 =>
        rw [hgd] at p'
        refine ⟨ms', S', wipeD ρ vs, ds[i], r3, ev2, s2', ρ1, hgd, fun σ3 ev3 sets => ⟨?_, ms', S', ρ1, ev3, s2', ?_⟩⟩
        · have w1 := sets vs hv
          have w2 : L2.wipe (L2.wipe σ vs) vs = L2.wipe σ vs := by
            apply List.ext_getElem?
            intro j
            rw [wipe_at, wipe_at, wipe_length]
            by_cases hj : j ∈ vs
            · rw [if_pos hj, if_pos hj]
            · rw [if_neg hj, if_neg hj]
          rw [w1, w2]
        · cases ht : t ρ1 S' with
          | bad => dsimp only at p'; rw [ht] at p'; exact p'.elim
          | exc c ks es S2 => dsimp only at p'; rw [ht] at p'; exact p'.elim
          | ok b S2 =>
            dsimp only at p'
            rw [ht, R.bindN_ok] at p'
            intro b' ms3 H3 f3 s3 e3
            cases e3
            cases b with
            | false => exact iteF ⟨ms3, S2, f'.trans (f2.trans f3), s3, p'⟩
            | true =>
              rw [if_pos rfl] at p'
              refine iteT ⟨ms3, S2, ρ1, ev3.fut f3, s3, ?_⟩
              cases hf1 : fi1 ρ1 S2 with
              | bad => rw [hf1] at p'; exact p'.elim
              | exc c ks es S3 => rw [hf1] at p'; exact p'.elim
              | ok ds1 S3 =>
                rw [hf1, R.bindN_ok] at p'
                intro J1 ms4 H4 f4 s4 isI1
                have f04 : Fut (ms1 ++ [D]) (upd H1 D (.lst [])) ms4 H4 := f'.trans (f2.trans (f3.trans f4))
                have ev4 : Ev W ρ1 σ3 ms4 H4 := (ev3.fut f3).fut f4
                refine ⟨fun j k H' => k = ds1.length - j ∧ j ≤ ds1.length ∧ ∃ ms' S', Fut ms4 H4 ms' H' ∧ StOk W ms' S' H' ∧
                    Post W (relD W) ms1 H1 (((compL ms1.length g1 t1 fe (wipeD ρ1 vs1) (ds1.drop j) S').bindN fun _ S3 => compL2 ms1.length g t vs1 fi1 g1 t1 fe (wipeD ρ vs) (ds.drop (i + 1)) S3).bindN fun _ S2 => fin ms1.length S2) Q (fun c d H' => Wx c d σ H'),
                  ⟨ds1.length, by simp, Nat.zero_le _, ms4, S3, Fut.refl _ _, s4, by simpa using p'⟩, ?_⟩
                rintro j k H5 ⟨rfl, hj, ms5, S5, f5, s5, p5⟩
                by_cases hlt1 : j < ds1.length
                · refine .inr ⟨(isI1.step ms5 H5 S5 j f5 s5 hlt1).1, fun H' => ∃ ms' S', Fut ms4 H4 ms' H' ∧ StOk W ms' S' H' ∧
                      Post W (relD W) ms1 H1 (((compL ms1.length g1 t1 fe (wipeD ρ1 vs1) (ds1.drop (j + 1)) S').bindN fun _ S3 => compL2 ms1.length g t vs1 fi1 g1 t1 fe (wipeD ρ vs) (ds.drop (i + 1)) S3).bindN fun _ S2 => fin ms1.length S2) Q (fun c d H' => Wx c d σ H'),
                    fun H2 ⟨ms2, S2, q⟩ => ⟨ds1.length - (j + 1), by omega, rfl, hlt1, ms2, S2, q⟩, fun x H6 y => ?_⟩
                  obtain ⟨f6, s6, r6⟩ := (isI1.step ms5 H5 S5 j f5 s5 hlt1).2 x H6 y
                  have r7 := r6 ds1[j] (List.getElem?_eq_getElem hlt1)
                  rw [List.drop_eq_getElem_cons hlt1] at p5
                  unfold compL at p5
                  have ev6 : Ev W (wipeD ρ1 vs1) (L2.wipe σ3 vs1) ms5 H6 := (ev4.fut (f5.trans f6)).wipe vs1
                  cases hgd1 : g1 ds1[j] (wipeD ρ1 vs1) S5 with
                  | none => rw [hgd1] at p5; exact p5.elim
                  | some ρ2 =>
                    rw [hgd1] at p5
                    refine ⟨ms5, S5, wipeD ρ1 vs1, ds1[j], r7, ev6, s6, ρ2, hgd1, fun σ4 ev7 sets1 => ⟨?_, ms5, S5, ρ2, ev7, s6, ?_⟩⟩
                    · have w1 := sets1 vs1 hv1
                      have w2 : L2.wipe (L2.wipe σ3 vs1) vs1 = L2.wipe σ3 vs1 := by
                        apply List.ext_getElem?
                        intro j
                        rw [wipe_at, wipe_at, wipe_length]
                        by_cases hj : j ∈ vs1
                        · rw [if_pos hj, if_pos hj]
                        · rw [if_neg hj, if_neg hj]
                      rw [w1, w2]
                    · cases ht1 : t1 ρ2 S5 with
                      | bad => dsimp only at p5; rw [ht1] at p5; exact p5.elim
                      | exc c ks es S2 => dsimp only at p5; rw [ht1] at p5; exact p5.elim
                      | ok b S6 =>
                        dsimp only at p5
                        rw [ht1, R.bindN_ok] at p5
                        intro b' ms7 H7 f7 s7 e7
                        cases e7
                        cases b with
                        | false => exact iteF ⟨ms7, S6, f5.trans (f6.trans f7), s7, p5⟩
                        | true =>
                          refine iteT ⟨ms7, S6, ρ2, ev7.fut f7, s7, ?_⟩
                          rw [if_pos rfl] at p5
                          cases he : fe ρ2 S6 with
                          | bad => rw [he] at p5; exact p5.elim
                          | exc c ks es S3 => rw [he] at p5; exact p5.elim
                          | ok z S7 =>
                            rw [he, R.bindN_ok] at p5
                            intro v ms8 H8 f8 s8 r8
                            have f48 : Fut ms4 H4 ms8 H8 := f5.trans (f6.trans (f7.trans f8))
                            have atD8 := atOf (f04.trans f48)
                            unfold pushC at p5
                            cases hc : S7[ms1.length]? with
                            | none => rw [hc] at p5; exact p5.elim
                            | some cl =>
                              rw [hc] at p5
                              cases cl with
                              | lst xs =>
                                dsimp only at p5
                                split at p5
                                · rename_i hl
                                  obtain ⟨l1, l2⟩ := Bool.and_eq_true_iff.mp hl
                                  have l2 := of_decide_eq_true l2
                                  obtain ⟨us, e1, rr⟩ := s8.cell _ _ _ atD8 hc
                                  refine ⟨us, e1, by rw [rr.length]; exact l2, ms8, S7.set ms1.length (.lst (xs ++ [z])), f48.trans (Fut.write (List.mem_of_getElem? atD8)), s8.writeL atD8 (rr.append (.cons (Rp.take _ _ l1 r8) .nil)), ?_⟩
                                  rw [R.bindN_ok] at p5
                                  exact p5
                                · exact p5.elim
                              | obj _ _ _ => exact p5.elim
                              | dic _ _ => exact p5.elim
                              | dead => exact p5.elim
                · have e : j = ds1.length := by omega
                  subst e
                  refine .inl ⟨isI1.stop ms5 H5 S5 f5 s5, ms5, S5, f04.trans f5, s5, ?_⟩
                  rw [List.drop_length] at p5
                  exact p5
    · have e : i = ds.length := by omega
      subst e
      refine .inl ⟨isI.stop ms' H' S' fI s', ?_⟩
      rw [List.drop_length] at p'
      exact hfin ms1 ms' H1 H' S' D Q _ hD s' fI (atOf f') p'
section
variable {X : Cx} {Y : Yx} {elt tg iter tg1 iter1 : Expr} {ifs ifs1 : List Expr} {scope : Scope} {own : List (Str × Nat)} {pos : Pos} {fi fi1 : F (List D)} {is is1 vs1 : List Nat} {g g1 : GF} {t t1 : F Bool} {fe : EF}
theorem d_comp2 {fin : Nat → Sto → R D} (hfin : Fin (wd X Y) fin) (hc : X.calm = true) (hN : X.N.Nodup) (hi : DI X Y tg iter fi) (ok : BlkOk X.N X.env.scope scope own) (hv : ∀ i ∈ is, i ∈ own.map (·.2)) (hv1 : ∀ i ∈ is1, i ∈ vs1) (hv2 : ∀ i ∈ vs1, i ∈ own.map (·.2))
    (hg : ∀ (s : Shared) (H : Hp) (C : Addr) (cl : List (Str × Addr)) (fp : List Addr), DG (X.blk s H scope (compEnvC scope cl C X.env) fp) (yN Y) tg is g) (ht : ∀ (s : Shared) (H : Hp) (C : Addr) (cl : List (Str × Addr)) (fp : List Addr), DTs (X.blk s H scope (compEnvC scope cl C X.env) fp) (yN Y) ifs t)
    (hi1 : ∀ (s : Shared) (H : Hp) (C : Addr) (cl : List (Str × Addr)) (fp : List Addr), DI (X.blk s H scope (compEnvC scope cl C X.env) fp) (yN Y) tg1 iter1 fi1)
    (hg1 : ∀ (s : Shared) (H : Hp) (C : Addr) (cl : List (Str × Addr)) (fp : List Addr), DG (X.blk s H scope (compEnvC scope cl C X.env) fp) (yN Y) tg1 is1 g1) (ht1 : ∀ (s : Shared) (H : Hp) (C : Addr) (cl : List (Str × Addr)) (fp : List Addr), DTs (X.blk s H scope (compEnvC scope cl C X.env) fp) (yN Y) ifs1 t1)
    (he : ∀ (s : Shared) (H : Hp) (C : Addr) (cl : List (Str × Addr)) (fp : List Addr), DE (X.blk s H scope (compEnvC scope cl C X.env) fp) (yN Y) elt fe) (hs : ∀ x, foldedSetIterable iter X.env x = pure x := by intro _; rfl) (hs1 : ∀ env x, foldedSetIterable iter1 env x = pure x := by intro _ _; rfl) :
    DE X Y (.ListComp elt [⟨tg, iter, ifs, 0⟩, ⟨tg1, iter1, ifs1, 0⟩] scope pos) (compG2 fin (own.map (·.2)) vs1 fi g t fi1 g1 t1 fe) :=
  PE.weak (pe_lc2 (g := tG (wd X Y) is g) (tt := tX (wd X Y) (fun _ _ _ _ => False) relB t) (wi1 := tI (wd X Y) (fun _ _ _ _ => False) fi1) (g1 := tG (wd X Y) is1 g1) (tt1 := tX (wd X Y) (fun _ _ _ _ => False) relB t1) (te := tX (wd X Y) (fun _ _ _ _ => False) (relD (wd X Y)) fe) hc hN hi ok hv2 hg ht hi1 hg1 ht1 he hs hs1) fun σ H Q h => lc2_of (W := wd X Y) hfin hv hv1 h
theorem ds_setC2 {fin : Nat → Sto → R D} {i : Nat} {y : Str} {py spos : Pos} (hfin : Fin (wd X Y) fin) (hc : X.calm = true) (hN : X.N.Nodup) (hy : X.N[i]? = some y) (hyl : X.env.scope.names.lookup y = some .local)
    (hsw : swapsWith (.ListComp elt [⟨tg, iter, ifs, 0⟩, ⟨tg1, iter1, ifs1, 0⟩] scope pos) (some (.Name y py)) spos.line X.env = pure true) (hi : DI X Y tg iter fi) (ok : BlkOk X.N X.env.scope scope own) (hv : ∀ i ∈ is, i ∈ own.map (·.2)) (hv1 : ∀ i ∈ is1, i ∈ vs1) (hv2 : ∀ i ∈ vs1, i ∈ own.map (·.2))
    (hg : ∀ (s : Shared) (H : Hp) (C : Addr) (cl : List (Str × Addr)) (fp : List Addr), DG (X.blk s H scope (compEnvC scope cl C X.env) fp) (yN Y) tg is g) (ht : ∀ (s : Shared) (H : Hp) (C : Addr) (cl : List (Str × Addr)) (fp : List Addr), DTs (X.blk s H scope (compEnvC scope cl C X.env) fp) (yN Y) ifs t)
    (hi1 : ∀ (s : Shared) (H : Hp) (C : Addr) (cl : List (Str × Addr)) (fp : List Addr), DI (X.blk s H scope (compEnvC scope cl C X.env) fp) (yN Y) tg1 iter1 fi1)
    (hg1 : ∀ (s : Shared) (H : Hp) (C : Addr) (cl : List (Str × Addr)) (fp : List Addr), DG (X.blk s H scope (compEnvC scope cl C X.env) fp) (yN Y) tg1 is1 g1) (ht1 : ∀ (s : Shared) (H : Hp) (C : Addr) (cl : List (Str × Addr)) (fp : List Addr), DTs (X.blk s H scope (compEnvC scope cl C X.env) fp) (yN Y) ifs1 t1)
    (he : ∀ (s : Shared) (H : Hp) (C : Addr) (cl : List (Str × Addr)) (fp : List Addr), DE (X.blk s H scope (compEnvC scope cl C X.env) fp) (yN Y) elt fe) (hs : ∀ x, foldedSetIterable iter X.env x = pure x := by intro _; rfl) (hs1 : ∀ env x, foldedSetIterable iter1 env x = pure x := by intro _ _; rfl) :
    DS X Y (.Assign [.Name y py] (.ListComp elt [⟨tg, iter, ifs, 0⟩, ⟨tg1, iter1, ifs1, 0⟩] scope pos) spos) (setS i (compG2 fin (own.map (·.2)) vs1 fi g t fi1 g1 t1 fe)) := by
  refine PS.weak (ps_setLc2 (g := tG (wd X Y) is g) (tt := tX (wd X Y) (fun _ _ _ _ => False) relB t) (wi1 := tI (wd X Y) (fun _ _ _ _ => False) fi1) (g1 := tG (wd X Y) is1 g1) (tt1 := tX (wd X Y) (fun _ _ _ _ => False) relB t1) (te := tX (wd X Y) (fun _ _ _ _ => False) (relD (wd X Y)) fe) hc hN hy hyl hsw hi ok hv2 hg ht hi1 hg1 ht1 he hs hs1) fun D σ H h => ?_
  obtain ⟨ms, S, ρ, ev, st, p⟩ := h
  refine lc2_of (W := wd X Y) (Wx := Y.wx) hfin hv hv1 ⟨ms, S, ρ, ev, st, ?_⟩
  exact PostS.split ev p fun d S1 x ms1 H1 _ f1 s1 r1 p1 => p1 _ ms1 H1 (Fut.refl _ _) s1 ((ev.fut f1).set r1 i)
end
end Zd

set_option Elab.async false
set_option linter.all false
set_option maxRecDepth 100000
set_option maxHeartbeats 4000000
set_option autoImplicit false
/-! Rows of numbers as sets of strokes; patterns. -/
namespace Zd
open PySem PySem.Spec L2
open PyProof.Rows hiding St

noncomputable def g_length_of : SF := (seqS (setS 1 (callF 1 F_blocks (consF (varE 0) nilF)))
  (retS (binF mulD (cE (.int 2)) (binF addD (binF addD (appF sumD (consF (varE 1) nilF)) (appF lenD (consF (varE 1) nilF))) (cE (.int 1))))))
noncomputable def F_length_of : DFun := fnF 2 g_length_of
noncomputable def g_row_offsets : SF := (retS (compG finF [1, 2] (itA enuI (consF (callF 1 F_row_of (consF (varE 0) nilF)) nilF)) (tupG 2 (consG (nmG 1) (consG (nmG 2) nilG))) (tstF (binF eqD (varE 2) (cE (.int 1)))) (varE 1)))
noncomputable def F_row_offsets : DFun := fnF 3 g_row_offsets
noncomputable def g_pattern : SF := (seqS (setS 2 (callF 1 F_length_of (consF (varE 0) nilF)))
  (seqS (setS 3 (callF 1 F_row_offsets (consF (varE 0) nilF)))
  (retS (makeF false "Strokes" 1 0 2 (fun ds _ => ds ++ []) F_Strokes___init__ (consF (compG2 finF [4, 5] [5] (itA rng1I (consF (varE 1) nilF)) (nmG 4) yesB (itF anyI (varE 3)) (nmG 5) yesB (binF addD (binF mulD (varE 4) (varE 2)) (varE 5))) nilF) nilF))))
noncomputable def F_pattern : DFun := fnF 6 g_pattern
noncomputable def g_strokes_of : SF := (retS (makeF false "Strokes" 1 0 2 (fun ds _ => ds ++ []) F_Strokes___init__ (consF (callF 1 F_row_offsets (consF (varE 0) nilF)) nilF) nilF))
noncomputable def F_strokes_of : DFun := fnF 1 g_strokes_of
noncomputable def g_Strokes___and__ : SF := (retS (makeF false "Strokes" 1 0 2 (fun ds _ => ds ++ []) F_Strokes___init__ (consF (compG finF [2] (itF anyI (fldF ["Strokes"] "offsets" (varE 0))) (nmG 2) (tstF (binF (inDc false inD) (varE 2) (fldF ["Strokes"] "known" (varE 1)))) (varE 2)) nilF) nilF))
noncomputable def F_Strokes___and__ : DFun := fnF 3 g_Strokes___and__
noncomputable def g__law_row : SF := (seqS (setS 1 (lstF nilF))
  (seqS (forS (itF anyI (varE 0)) (nmG 2) (setS 1 (binF addD (binF addD (varE 1) (binF mulD (lstF (consF (cE (.int 1)) (consF (cE (.int 0)) nilF))) (appF intD (consF (varE 2) nilF)))) (lstF (consF (cE (.int 0)) (consF (cE (.int 0)) nilF))))))
  (retS (binF addD (varE 1) (lstF (consF (cE (.int 0)) (consF (cE (.int 0)) nilF)))))))
noncomputable def F__law_row : DFun := fnF 3 g__law_row
/-! ### a comprehension with two fors, whose elements are told by a function -/
theorem compL2_map {n : Nat} {g : GF} {t : F Bool} {vs1 : List Nat} {fi1 : F (List D)} {g1 : GF} {t1 : F Bool} {fe : EF} {ρ : Nv} {S : Sto} {p : D → Bool} {inner : D → List D} {q : D → D → Bool} {f : D → D → D} :
    ∀ {ds acc : List D}, n = S.length → NLe (acc.length + ((ds.filter p).flatMap inner).length) sizeLine →
    (∀ d ∈ ds, ∀ acc : List D, ∃ ρ1, g d ρ (S ++ [.lst acc]) = some ρ1 ∧ t ρ1 (S ++ [.lst acc]) = .ok (p d) (S ++ [.lst acc]) ∧ (p d = true → fi1 ρ1 (S ++ [.lst acc]) = .ok (inner d) (S ++ [.lst acc]) ∧
      ∀ e ∈ inner d, ∀ acc : List D, ∃ ρ2, g1 e (wipeD ρ1 vs1) (S ++ [.lst acc]) = some ρ2 ∧ t1 ρ2 (S ++ [.lst acc]) = .ok (q d e) (S ++ [.lst acc]) ∧ (q d e = true → fe ρ2 (S ++ [.lst acc]) = .ok (f d e) (S ++ [.lst acc]) ∧ low n (f d e) = true))) →
    compL2 n g t vs1 fi1 g1 t1 fe ρ ds (S ++ [.lst acc]) = .ok () (S ++ [.lst (acc ++ (ds.filter p).flatMap fun d => ((inner d).filter (q d)).map (f d))]) := by
  intro ds
  induction ds with
  | nil => intro acc _ _ _; simp [compL2]
  | cons d ds ih =>
    intro acc hn hl h
    obtain ⟨ρ1, e1, e2, e3⟩ := h d List.mem_cons_self acc
    unfold compL2
    rw [e1]
    dsimp only
    rw [e2, R.bindN_ok]
    have hl : acc.length + (((d :: ds).filter p).flatMap inner).length ≤ sizeLine := hl
    cases hp : p d with
    | false =>
      rw [List.filter_cons_of_neg (by simp [hp])] at hl ⊢
      rw [if_neg (by simp), ih hn (show _ from hl) (fun d hd => h d (List.mem_cons_of_mem _ hd))]
    | true =>
      obtain ⟨e4, e5⟩ := e3 hp
      rw [List.filter_cons_of_pos hp, List.flatMap_cons, List.length_append] at hl
      have c := compL_map (n := n) (g := g1) (t := t1) (fe := fe) (ρ := wipeD ρ1 vs1) (S := S) (p := q d) (f := f d) (ds := inner d) (acc := acc) hn (show acc.length + (inner d).length ≤ sizeLine by omega) e5
      have fl : ((inner d).filter (q d)).length ≤ (inner d).length := List.length_filter_le _ _
      rw [if_pos rfl, e4, R.bindN_ok, c, R.bindN_ok, ih hn (show (acc ++ ((inner d).filter (q d)).map (f d)).length + _ ≤ sizeLine by rw [List.length_append, List.length_map]; omega) (fun d hd => h d (List.mem_cons_of_mem _ hd)), List.filter_cons_of_pos hp, List.flatMap_cons, List.append_assoc]
theorem comp2_map {vs vs1 : List Nat} {fi : F (List D)} {g : GF} {t : F Bool} {fi1 : F (List D)} {g1 : GF} {t1 : F Bool} {fe : EF} {ρ : Nv} {S S1 : Sto} {ds : List D} (p : D → Bool) (inner : D → List D) (q : D → D → Bool) (f : D → D → D) (hi : fi ρ S = .ok ds S1) (hl : NLe ((ds.filter p).flatMap inner).length sizeLine)
    (h : ∀ d ∈ ds, ∀ acc : List D, ∃ ρ1, g d (wipeD ρ vs) (S1 ++ [.lst acc]) = some ρ1 ∧ t ρ1 (S1 ++ [.lst acc]) = .ok (p d) (S1 ++ [.lst acc]) ∧ (p d = true → fi1 ρ1 (S1 ++ [.lst acc]) = .ok (inner d) (S1 ++ [.lst acc]) ∧
      ∀ e ∈ inner d, ∀ acc : List D, ∃ ρ2, g1 e (wipeD ρ1 vs1) (S1 ++ [.lst acc]) = some ρ2 ∧ t1 ρ2 (S1 ++ [.lst acc]) = .ok (q d e) (S1 ++ [.lst acc]) ∧ (q d e = true → fe ρ2 (S1 ++ [.lst acc]) = .ok (f d e) (S1 ++ [.lst acc]) ∧ low S1.length (f d e) = true))) :
    compG2 finF vs vs1 fi g t fi1 g1 t1 fe ρ S = .ok (.lst ((ds.filter p).flatMap fun d => ((inner d).filter (q d)).map (f d))) S1 := by
  unfold compG2
  rw [hi, R.bind_ok, compL2_map (acc := []) rfl (by simpa using hl) h, R.bindN_ok]
  unfold finF
  simp

/-! ### rows -/
theorem addT (a b : List Tk) (S : Sto) (h : a.length + b.length ≤ 1000000) : addD (.lst (tks a)) (.lst (tks b)) S = .ok (.lst (tks (a ++ b))) S := by
  rw [addD_ll, if_pos (sizeLine_big (by rw [tks_len, tks_len]; exact h)), tks_app]
noncomputable def lrB : SF := (setS 1 (binF addD (binF addD (varE 1) (binF mulD (lstF (consF (cE (.int 1)) (consF (cE (.int 0)) nilF))) (appF intD (consF (varE 2) nilF)))) (lstF (consF (cE (.int 0)) (consF (cE (.int 0)) nilF)))))
theorem rep_tks (d : Nat) : (List.replicate d [D.int 1, D.int 0]).flatten = tks (repT d) := by
  induction d with
  | zero => rfl
  | succ d ih => rw [List.replicate_succ, List.flatten_cons, ih, repT_succ]; rfl
theorem lr_loop (x : D) (S : Sto) : ∀ (ds : List Nat) (acc : List Tk) (u : Option D), (∀ d ∈ ds, 1 ≤ d ∧ d ≤ 9) → acc.length + 20 * ds.length ≤ 100000 →
    ∃ v, forL (nmG 2) lrB (signsD ds) [some x, some (.lst (tks acc)), u] S = .nx [some x, some (.lst (tks (acc ++ flatT ds))), v] S
  | [], acc, u, _, _ => ⟨u, by show SR.nx _ _ = _; unfold flatT; simp⟩
  | d :: ds, acc, u, hd, hl => by
    have d19 := hd d List.mem_cons_self
    rw [List.length_cons] at hl
    have bl : (blkT d).length = 2 * d + 2 := by unfold blkT; rw [List.length_append, repT_len]; rfl
    obtain ⟨v, e⟩ := lr_loop x S ds (acc ++ blkT d) (some (.str ⟨#[48 + d]⟩)) (fun y hy => hd y (List.mem_cons_of_mem _ hy)) (by rw [List.length_append, bl]; omega)
    refine ⟨v, ?_⟩
    rw [show flatT (d :: ds) = blkT d ++ flatT ds from rfl, ← List.append_assoc, ← e]
    show forL (nmG 2) lrB (D.str ⟨#[48 + d]⟩ :: signsD ds) _ _ = _
    rw [forL_cons (ρ1 := [some x, some (.lst (tks acc)), some (.str ⟨#[48 + d]⟩)]) rfl]
    have s2 : NLe 2 sizeLine := sizeLine_big (by decide)
    have hz : NLe (⟨#[48 + d]⟩ : Str).length 640 := by show (⟨#[48 + d]⟩ : Str).length ≤ 640; simp [Str.length]
    have c1 : -(2 ^ 63) ≤ ((d : Nat) : Int) ∧ ((d : Nat) : Int) < 2 ^ 63 ∧ 2 * ((d : Nat) : Int).toNat ≤ sizeLine := ⟨by omega, by omega, sizeLine_big (by omega)⟩
    have em : mulD (.lst [D.int 1, D.int 0]) (.int (d : Nat)) S = .ok (.lst (tks (repT d))) S := by
      rw [mulD_li, if_pos (show Bd (-(2 ^ 63) ≤ ((d : Nat) : Int) ∧ ((d : Nat) : Int) < 2 ^ 63 ∧ [D.int 1, D.int 0].length * ((d : Nat) : Int).toNat ≤ sizeLine) from c1), Int.toNat_natCast, rep_tks]
    have ea := addT acc (repT d) S (by rw [repT_len]; omega)
    have eb : addD (.lst (tks (acc ++ repT d))) (.lst [D.int 0, D.int 0]) S = .ok (.lst (tks (acc ++ blkT d))) S := by
      have := addT (acc ++ repT d) [.z, .z] S (by rw [List.length_append, repT_len]; simp; omega)
      rw [List.append_assoc] at this
      exact this
    simp only [lrB, setS, binF, varE, lstF, consF, cE, nilF, appF, R.bind_ok, R.st_ok, List.getElem?_cons_zero, List.getElem?_cons_succ, List.length_cons, List.length_nil, Nat.zero_add, Nat.reduceAdd, s2, if_true, intD_s, int_sign d19, hz, em, ea, eb, SR.turn_nx, List.set_cons_succ, List.set_cons_zero]
theorem lrow_dig {w : List Nat} (h : ∀ d ∈ w, 1 ≤ d ∧ d ≤ 9) (hl : w.length ≤ 1000) (S : Sto) : F__law_row [.str (numS w)] S = .ok (.lst (tks (rowT w))) S := by
  unfold F__law_row fnF g__law_row
  obtain ⟨v, e⟩ := lr_loop (.str (numS w)) S w [] none h (by simp; omega)
  unfold lrB at e
  have e : forL _ _ (signsD w) [some (.str (numS w)), some (.lst []), none] S = _ := e
  have s0 : NLe 0 sizeLine := Nat.zero_le _
  have s2 : NLe 2 sizeLine := sizeLine_big (by decide)
  have fl : (flatT w).length ≤ 20000 := by
    have : ∀ w : List Nat, (∀ d ∈ w, 1 ≤ d ∧ d ≤ 9) → (flatT w).length ≤ 20 * w.length := by
      intro w
      induction w with
      | nil => intro _; exact Nat.zero_le _
      | cons d w ih =>
        intro h
        have := ih fun x hx => h x (List.mem_cons_of_mem _ hx)
        have := h d List.mem_cons_self
        rw [flatT_cons, List.length_append, repT_len, List.length_cons, List.length_cons, List.length_cons]
        omega
    have := this w h
    omega
  have eb : addD (.lst (tks (flatT w))) (.lst [D.int 0, D.int 0]) S = .ok (.lst (tks (rowT w))) S := addT (flatT w) [.z, .z] S (by simp; omega)
  simp only [Bd, seqS, setS, retS, retN, dropS, ifS, forS, putS, augS, nxS, bkS, ctS, SR.seq_nx, SR.seq_rt, SR.seq_exc, SR.seq_bk, SR.seq_ct, SR.turn_nx, SR.turn_ct, SR.turn_bk, SR.turn_rt, SR.turn_exc, R.bind_ok, R.bind_bad, R.bind_exc, R.bindN_ok, R.st_ok, R.st_exc,
 varE, cE, binF, tstF, chnF, andB, orB, notB, andV, orV, notV, ifE, nilF, consF, tupF, lstF, ownF, negF, noO, someO, slF, callF, appF, isiF, mthF, itF, itA, nmG, nilG, consG, tupG, yesB, wipeD,
 addD_ii, addD_ss, subD_ii, mulD_ii, mulD_si, fdivD_ii, modD_ii, powD_10_18, ltD_ii, leD_ii, gtD_ii, geD_ii, gtD_ss, ltD_ss, eqD_ii, eqD_ss, eqD_bb, neD_ii, neD_ss, isBD_bb, isND_non, isND_int, isND_str, notND_non, notND_int, notND_str, lenD_s, lenD_l, lenD_r, lenD_t, lenD_c, min2D_ii, max2D_ii, intD_i, intD_b, strD_i, sumD_l, sumD_c, sumD_t, maxD_c, tupleD_l, tupleD_t, tupleD_c, listD_l, listD_t,
 ixD_l, ixD_r, ixD_t, ixD_s, ixD_c, slD_s, slD_l, slD_r, putIx_c, appendD_c, extendD_cl, isTy_c, isTy_s, isTy_l, iaddD, atI_0, atI_1, atI_2, atI_3, atI_4, low_int, low_str, low_bl, low_non, anyI_l, anyI_r, anyI_t, anyI_s, rng1I_i, rng2I_ii, ixN5, set_concat, get_concat, take_concat, len_concat, notInD_cs, inD_cs, sindexD_s, intD_s, tyN_s, tyN_i, tyN_b, tyN_n, tyN_t, tyN_l, tyIs_t, zipI_tt,
 startD, List.map_cons, List.map_nil, List.length_cons, List.length_nil, List.cons_append, List.nil_append, List.getElem?_cons_zero, List.getElem?_cons_succ, List.set_cons_zero, List.set_cons_succ, List.replicate_succ, List.replicate_zero, Option.bind_some, if_true, if_false, Bool.true_and, Bool.false_and, Bool.and_true, Bool.not_true, Bool.not_false, decide_true, decide_false, eq_self, Nat.zero_add, Nat.reduceAdd, Nat.reduceSub, reduceIte, reduceCtorEq, Int.reduceEq, Bool.false_eq_true, true_and, and_true, true_or, or_true, decide_eq_true_eq, s0, s2, signs_num, e, eb, leave_rt, fz_lst, fz_tks, List.take_length]

theorem row_short {w : List Nat} (h : IsNum w) : (rowT w).length ≤ 100 := by rw [rowT_len]; have := h.sum; have := h.few; omega
theorem lrow_num {w : List Nat} (h : IsNum w) (S : Sto) : F__law_row [.str (numS w)] S = .ok (.lst (tks (rowT w))) S := lrow_dig h.dig (by have := h.few; omega) S
theorem length_of_num {w : List Nat} (h : IsNum w) (S : Sto) : F_length_of [.str (numS w)] S = .ok (.int ((rowT w).length : Nat)) S := by
  unfold F_length_of fnF g_length_of
  have hb := blocks_num h S
  have i1 : intsOf (w.map fun d => D.int (d : Nat)) = some (w.map fun (d : Nat) => (d : Int)) := by rw [map_ints, intsOf_ints]
  have c2 : (-(2 ^ 64) < (2 : Int) ∧ (2 : Int) < 2 ^ 64) := by decide
  have e : (2 : Int) * (((w.sum : Nat) : Int) + ((w.length : Nat) : Int) + 1) = ((rowT w).length : Nat) := by rw [rowT_len]; omega
  simp only [Bd, seqS, setS, retS, retN, dropS, ifS, forS, putS, augS, nxS, bkS, ctS, SR.seq_nx, SR.seq_rt, SR.seq_exc, SR.seq_bk, SR.seq_ct, SR.turn_nx, SR.turn_ct, SR.turn_bk, SR.turn_rt, SR.turn_exc, R.bind_ok, R.bind_bad, R.bind_exc, R.bindN_ok, R.st_ok, R.st_exc,
 varE, cE, binF, tstF, chnF, andB, orB, notB, andV, orV, notV, ifE, nilF, consF, tupF, lstF, ownF, negF, noO, someO, slF, callF, appF, isiF, mthF, itF, itA, nmG, nilG, consG, tupG, yesB, wipeD,
 addD_ii, addD_ss, addD_ll, subD_ii, mulD_ii, mulD_li, mulD_si, fdivD_ii, modD_ii, powD_10_18, ltD_ii, leD_ii, gtD_ii, geD_ii, gtD_ss, ltD_ss, eqD_ii, eqD_ss, eqD_bb, neD_ii, neD_ss, isBD_bb, isND_non, isND_int, isND_str, notND_non, notND_int, notND_str, lenD_s, lenD_l, lenD_r, lenD_t, lenD_c, min2D_ii, max2D_ii, intD_i, intD_b, strD_i, sumD_l, sumD_c, sumD_t, maxD_c, tupleD_l, tupleD_t, tupleD_c, listD_l, listD_t,
 ixD_l, ixD_r, ixD_t, ixD_s, ixD_c, slD_s, slD_l, slD_r, putIx_c, appendD_c, extendD_cl, isTy_c, isTy_s, isTy_l, iaddD, atI_0, atI_1, atI_2, atI_3, atI_4, low_int, low_str, low_bl, low_non, anyI_l, anyI_r, anyI_t, anyI_s, rng1I_i, rng2I_ii, ixN5, set_concat, get_concat, take_concat, len_concat, notInD_cs, inD_cs, sindexD_s, intD_s, tyN_s, tyN_i, tyN_b, tyN_n, tyN_t, tyN_l, tyIs_t, zipI_tt,
 startD, List.map_cons, List.map_nil, List.length_cons, List.length_nil, List.cons_append, List.nil_append, List.getElem?_cons_zero, List.getElem?_cons_succ, List.set_cons_zero, List.set_cons_succ, List.replicate_succ, List.replicate_zero, Option.bind_some, if_true, if_false, Bool.true_and, Bool.false_and, Bool.and_true, Bool.not_true, Bool.not_false, decide_true, decide_false, eq_self, Nat.zero_add, Nat.reduceAdd, Nat.reduceSub, reduceIte, reduceCtorEq, Int.reduceEq, Bool.false_eq_true, true_and, and_true, true_or, or_true, decide_eq_true_eq, hb, i1, sum_cast, List.length_map, c2, e, leave_rt, fz_int, List.take_length]

/-! ### objects that are no numbers -/
theorem ascPs_strs (l : List Str) (h : ∀ z ∈ l, Asc z) : ascPs (l.map PyData.str) := by
  induction l with
  | nil => rw [List.map_nil, ascPs]; trivial
  | cons z l ih => rw [List.map_cons, ascPs, ascP]; exact ⟨h z List.mem_cons_self, ih fun y hy => h y (List.mem_cons_of_mem _ hy)⟩
theorem lenPs_strs (l : List Str) (m : Nat) (h : ∀ z ∈ l, z.length ≤ m) : lenPs (l.map PyData.str) ≤ l.length * (10 * m + 4) := by
  induction l with
  | nil => rw [List.map_nil, lenPs]; exact Nat.zero_le _
  | cons z l ih =>
    have h1 := h z List.mem_cons_self
    have h2 := ih fun y hy => h y (List.mem_cons_of_mem _ hy)
    rw [List.map_cons, lenPs, lenP, List.length_cons, Nat.add_mul]
    omega
theorem depth_strs (l : List Str) : PyData.depthAll (l.map PyData.str) ≤ 1 := by
  induction l with
  | nil => exact Nat.zero_le _
  | cons z l ih => rw [List.map_cons, PyData.depthAll]; exact Nat.max_le.mpr ⟨by simp [PyData.depth], ih⟩
theorem toPDs_strs (S : Sto) (l : List Str) : toPDs S (l.map D.str) = some (l.map PyData.str) := by
  induction l with
  | nil => rfl
  | cons a l ih => show (toPD S (D.str a)).bind (fun p => (toPDs S (l.map D.str)).map fun ps => p :: ps) = _; rw [ih]; rfl
theorem lowL_strs (n : Nat) (l : List Str) : lowL n (l.map D.str) = true := by rw [lowL_all, List.all_map]; exact List.all_eq_true.mpr fun _ _ => rfl
theorem noXL_strs (l : List Str) : noXL (l.map D.str) = true := by
  induction l with
  | nil => rfl
  | cons a l ih => rw [List.map_cons, noXL, ih]; rfl

/-- an object that is no number -/
structure NoN (d : D) : Prop where
  isn : ∀ S, F_is_number [d] S = .ok (.bl false) S
  fr : ∀ (n : Nat) (S : Sto) (k : Nat), fz n S k d = d
theorem no_num {d : D} (ht : ∀ S, (tyN d S).bind (fun t => tyIs t "str") = some false) (S : Sto) : F_is_number [d] S = .ok (.bl false) S := by
  unfold F_is_number fnF g_is_number
  simp only [seqS, ifS, orB, notB, tstF, isiF, varE, startD, List.map_cons, List.map_nil, List.cons_append, List.nil_append, List.getElem?_cons_zero, R.bind_ok, R.st_ok, ht, Bool.not_false, if_true, retS, cE, SR.seq_rt, leave_rt, fz_bl, List.take_length]

theorem leave_exc {n : Nat} {k : Str} {ks : List Str} {ds : List D} {ρ : Nv} {S : Sto} : leave n (.exc k ks ds ρ S) = .exc k ks (ds.map (fz n S S.length)) (S.take n) := rfl
section
variable {d : D}
theorem check_no (h : NoN d) (S : Sto) : F_check_number [d] S = .exc "BadNumber" ["number"] [d] S := by
  unfold F_check_number fnF g_check_number raiseS
  simp only [Bd, seqS, setS, retS, retN, dropS, ifS, forS, putS, augS, nxS, bkS, ctS, SR.seq_nx, SR.seq_rt, SR.seq_exc, SR.seq_bk, SR.seq_ct, SR.turn_nx, SR.turn_ct, SR.turn_bk, SR.turn_rt, SR.turn_exc, R.bind_ok, R.bind_bad, R.bind_exc, R.bindN_ok, R.st_ok, R.st_exc,
 varE, cE, binF, tstF, chnF, andB, orB, notB, andV, orV, notV, ifE, nilF, consF, tupF, lstF, ownF, negF, noO, someO, slF, callF, appF, isiF, mthF, itF, itA, nmG, nilG, consG, tupG, yesB, wipeD,
 addD_ii, addD_ss, addD_ll, subD_ii, mulD_ii, mulD_li, mulD_si, fdivD_ii, modD_ii, powD_10_18, ltD_ii, leD_ii, gtD_ii, geD_ii, gtD_ss, ltD_ss, eqD_ii, eqD_ss, eqD_bb, neD_ii, neD_ss, isBD_bb, isND_non, isND_int, isND_str, notND_non, notND_int, notND_str, lenD_s, lenD_l, lenD_r, lenD_t, lenD_c, min2D_ii, max2D_ii, intD_i, intD_b, strD_i, sumD_l, sumD_c, sumD_t, maxD_c, tupleD_l, tupleD_t, tupleD_c, listD_l, listD_t,
 ixD_l, ixD_r, ixD_t, ixD_s, ixD_c, slD_s, slD_l, slD_r, putIx_c, appendD_c, extendD_cl, isTy_c, isTy_s, isTy_l, iaddD, atI_0, atI_1, atI_2, atI_3, atI_4, low_int, low_str, low_bl, low_non, anyI_l, anyI_r, anyI_t, anyI_s, rng1I_i, rng2I_ii, ixN5, set_concat, get_concat, take_concat, len_concat, notInD_cs, inD_cs, sindexD_s, intD_s, tyN_s, tyN_i, tyN_b, tyN_n, tyN_t, tyN_l, tyIs_t, zipI_tt,
 startD, List.map_cons, List.map_nil, List.length_cons, List.length_nil, List.cons_append, List.nil_append, List.getElem?_cons_zero, List.getElem?_cons_succ, List.set_cons_zero, List.set_cons_succ, List.replicate_succ, List.replicate_zero, Option.bind_some, if_true, if_false, Bool.true_and, Bool.false_and, Bool.and_true, Bool.not_true, Bool.not_false, decide_true, decide_false, eq_self, Nat.zero_add, Nat.reduceAdd, Nat.reduceSub, reduceIte, reduceCtorEq, Int.reduceEq, Bool.false_eq_true, true_and, and_true, true_or, or_true, decide_eq_true_eq, h.isn, List.reverse_cons, List.reverse_nil, leave_exc, h.fr, List.take_length]
theorem blocks_no (h : NoN d) (S : Sto) : F_blocks [d] S = .exc "BadNumber" ["number"] [d] S := by
  unfold F_blocks fnF g_blocks
  simp only [Bd, seqS, setS, retS, retN, dropS, ifS, forS, putS, augS, nxS, bkS, ctS, SR.seq_nx, SR.seq_rt, SR.seq_exc, SR.seq_bk, SR.seq_ct, SR.turn_nx, SR.turn_ct, SR.turn_bk, SR.turn_rt, SR.turn_exc, R.bind_ok, R.bind_bad, R.bind_exc, R.bindN_ok, R.st_ok, R.st_exc,
 varE, cE, binF, tstF, chnF, andB, orB, notB, andV, orV, notV, ifE, nilF, consF, tupF, lstF, ownF, negF, noO, someO, slF, callF, appF, isiF, mthF, itF, itA, nmG, nilG, consG, tupG, yesB, wipeD,
 addD_ii, addD_ss, addD_ll, subD_ii, mulD_ii, mulD_li, mulD_si, fdivD_ii, modD_ii, powD_10_18, ltD_ii, leD_ii, gtD_ii, geD_ii, gtD_ss, ltD_ss, eqD_ii, eqD_ss, eqD_bb, neD_ii, neD_ss, isBD_bb, isND_non, isND_int, isND_str, notND_non, notND_int, notND_str, lenD_s, lenD_l, lenD_r, lenD_t, lenD_c, min2D_ii, max2D_ii, intD_i, intD_b, strD_i, sumD_l, sumD_c, sumD_t, maxD_c, tupleD_l, tupleD_t, tupleD_c, listD_l, listD_t,
 ixD_l, ixD_r, ixD_t, ixD_s, ixD_c, slD_s, slD_l, slD_r, putIx_c, appendD_c, extendD_cl, isTy_c, isTy_s, isTy_l, iaddD, atI_0, atI_1, atI_2, atI_3, atI_4, low_int, low_str, low_bl, low_non, anyI_l, anyI_r, anyI_t, anyI_s, rng1I_i, rng2I_ii, ixN5, set_concat, get_concat, take_concat, len_concat, notInD_cs, inD_cs, sindexD_s, intD_s, tyN_s, tyN_i, tyN_b, tyN_n, tyN_t, tyN_l, tyIs_t, zipI_tt,
 startD, List.map_cons, List.map_nil, List.length_cons, List.length_nil, List.cons_append, List.nil_append, List.getElem?_cons_zero, List.getElem?_cons_succ, List.set_cons_zero, List.set_cons_succ, List.replicate_succ, List.replicate_zero, Option.bind_some, if_true, if_false, Bool.true_and, Bool.false_and, Bool.and_true, Bool.not_true, Bool.not_false, decide_true, decide_false, eq_self, Nat.zero_add, Nat.reduceAdd, Nat.reduceSub, reduceIte, reduceCtorEq, Int.reduceEq, Bool.false_eq_true, true_and, and_true, true_or, or_true, decide_eq_true_eq, check_no h, leave_exc, h.fr, List.take_length]
theorem row_no (h : NoN d) (S : Sto) : F_row_of [d] S = .exc "BadNumber" ["number"] [d] S := by
  unfold F_row_of fnF g_row_of
  have s0 : NLe 0 sizeLine := Nat.zero_le _
  simp only [Bd, seqS, setS, retS, retN, dropS, ifS, forS, putS, augS, nxS, bkS, ctS, SR.seq_nx, SR.seq_rt, SR.seq_exc, SR.seq_bk, SR.seq_ct, SR.turn_nx, SR.turn_ct, SR.turn_bk, SR.turn_rt, SR.turn_exc, R.bind_ok, R.bind_bad, R.bind_exc, R.bindN_ok, R.st_ok, R.st_exc,
 varE, cE, binF, tstF, chnF, andB, orB, notB, andV, orV, notV, ifE, nilF, consF, tupF, lstF, ownF, negF, noO, someO, slF, callF, appF, isiF, mthF, itF, itA, nmG, nilG, consG, tupG, yesB, wipeD,
 addD_ii, addD_ss, addD_ll, subD_ii, mulD_ii, mulD_li, mulD_si, fdivD_ii, modD_ii, powD_10_18, ltD_ii, leD_ii, gtD_ii, geD_ii, gtD_ss, ltD_ss, eqD_ii, eqD_ss, eqD_bb, neD_ii, neD_ss, isBD_bb, isND_non, isND_int, isND_str, notND_non, notND_int, notND_str, lenD_s, lenD_l, lenD_r, lenD_t, lenD_c, min2D_ii, max2D_ii, intD_i, intD_b, strD_i, sumD_l, sumD_c, sumD_t, maxD_c, tupleD_l, tupleD_t, tupleD_c, listD_l, listD_t,
 ixD_l, ixD_r, ixD_t, ixD_s, ixD_c, slD_s, slD_l, slD_r, putIx_c, appendD_c, extendD_cl, isTy_c, isTy_s, isTy_l, iaddD, atI_0, atI_1, atI_2, atI_3, atI_4, low_int, low_str, low_bl, low_non, anyI_l, anyI_r, anyI_t, anyI_s, rng1I_i, rng2I_ii, ixN5, set_concat, get_concat, take_concat, len_concat, notInD_cs, inD_cs, sindexD_s, intD_s, tyN_s, tyN_i, tyN_b, tyN_n, tyN_t, tyN_l, tyIs_t, zipI_tt,
 startD, List.map_cons, List.map_nil, List.length_cons, List.length_nil, List.cons_append, List.nil_append, List.getElem?_cons_zero, List.getElem?_cons_succ, List.set_cons_zero, List.set_cons_succ, List.replicate_succ, List.replicate_zero, Option.bind_some, if_true, if_false, Bool.true_and, Bool.false_and, Bool.and_true, Bool.not_true, Bool.not_false, decide_true, decide_false, eq_self, Nat.zero_add, Nat.reduceAdd, Nat.reduceSub, reduceIte, reduceCtorEq, Int.reduceEq, Bool.false_eq_true, true_and, and_true, true_or, or_true, decide_eq_true_eq, s0, blocks_no h, leave_exc, h.fr]
theorem length_no (h : NoN d) (S : Sto) : F_length_of [d] S = .exc "BadNumber" ["number"] [d] S := by
  unfold F_length_of fnF g_length_of
  simp only [Bd, seqS, setS, retS, retN, dropS, ifS, forS, putS, augS, nxS, bkS, ctS, SR.seq_nx, SR.seq_rt, SR.seq_exc, SR.seq_bk, SR.seq_ct, SR.turn_nx, SR.turn_ct, SR.turn_bk, SR.turn_rt, SR.turn_exc, R.bind_ok, R.bind_bad, R.bind_exc, R.bindN_ok, R.st_ok, R.st_exc,
 varE, cE, binF, tstF, chnF, andB, orB, notB, andV, orV, notV, ifE, nilF, consF, tupF, lstF, ownF, negF, noO, someO, slF, callF, appF, isiF, mthF, itF, itA, nmG, nilG, consG, tupG, yesB, wipeD,
 addD_ii, addD_ss, addD_ll, subD_ii, mulD_ii, mulD_li, mulD_si, fdivD_ii, modD_ii, powD_10_18, ltD_ii, leD_ii, gtD_ii, geD_ii, gtD_ss, ltD_ss, eqD_ii, eqD_ss, eqD_bb, neD_ii, neD_ss, isBD_bb, isND_non, isND_int, isND_str, notND_non, notND_int, notND_str, lenD_s, lenD_l, lenD_r, lenD_t, lenD_c, min2D_ii, max2D_ii, intD_i, intD_b, strD_i, sumD_l, sumD_c, sumD_t, maxD_c, tupleD_l, tupleD_t, tupleD_c, listD_l, listD_t,
 ixD_l, ixD_r, ixD_t, ixD_s, ixD_c, slD_s, slD_l, slD_r, putIx_c, appendD_c, extendD_cl, isTy_c, isTy_s, isTy_l, iaddD, atI_0, atI_1, atI_2, atI_3, atI_4, low_int, low_str, low_bl, low_non, anyI_l, anyI_r, anyI_t, anyI_s, rng1I_i, rng2I_ii, ixN5, set_concat, get_concat, take_concat, len_concat, notInD_cs, inD_cs, sindexD_s, intD_s, tyN_s, tyN_i, tyN_b, tyN_n, tyN_t, tyN_l, tyIs_t, zipI_tt,
 startD, List.map_cons, List.map_nil, List.length_cons, List.length_nil, List.cons_append, List.nil_append, List.getElem?_cons_zero, List.getElem?_cons_succ, List.set_cons_zero, List.set_cons_succ, List.replicate_succ, List.replicate_zero, Option.bind_some, if_true, if_false, Bool.true_and, Bool.false_and, Bool.and_true, Bool.not_true, Bool.not_false, decide_true, decide_false, eq_self, Nat.zero_add, Nat.reduceAdd, Nat.reduceSub, reduceIte, reduceCtorEq, Int.reduceEq, Bool.false_eq_true, true_and, and_true, true_or, or_true, decide_eq_true_eq, blocks_no h, leave_exc, h.fr, List.take_length]

end
theorem nn_str {z : Str} (h : numB z = false) (hl : z.length ≤ 1000) : NoN (.str z) := ⟨fun S => by rw [is_number_str z S (sizeLine_big (by omega)), h], fun _ _ _ => fz_str⟩
theorem nn_other {d : D} (ht : ∀ S, (tyN d S).bind (fun t => tyIs t "str") = some false) (fr : ∀ (n : Nat) (S : Sto) (k : Nat), fz n S k d = d) : NoN d := ⟨no_num ht, fr⟩
theorem rpr_strs {l : List Str} (h : ∀ z ∈ l, Asc z) (hz : ∀ z ∈ l, z.length ≤ 100) (hl : l.length ≤ 100) : Rpr (.lst (l.map D.str)) (PyData.list (l.map PyData.str)).shown := by
  refine rpr_of (fun S => by show (toPDs S (l.map D.str)).map PyData.list = _; rw [toPDs_strs]; rfl) (by rw [ascP]; exact ascPs_strs l h) ?_ ?_ (fun _ _ _ => by rw [fz_lst, fz_mapstr]) (fun n => lowL_strs n l) (noXL_strs l)
  · have := depth_strs l
    rw [PyData.depth]; omega
  · have := lenPs_strs l 100 hz
    rw [lenP]
    have : l.length * (10 * 100 + 4) ≤ 100 * (10 * 100 + 4) := Nat.mul_le_mul_right _ hl
    omega

/-! ### the offsets of a row -/
def ones (n : Nat) : List Int → List Int
  | [] => []
  | x :: l => if x = 1 then (n : Nat) :: ones (n + 1) l else ones (n + 1) l
/-- the offsets of the strokes of a number's row -/
def offs (w : List Nat) : List Int := ones 0 (rowN w)
theorem ones_ge (l : List Int) : ∀ n, ∀ x ∈ ones n l, (n : Int) ≤ x ∧ x < n + l.length := by
  induction l with
  | nil => intro n x hx; cases hx
  | cons y l ih =>
    intro n x hx
    unfold ones at hx
    rw [List.length_cons]
    split at hx
    · rcases List.mem_cons.mp hx with rfl | hx
      · omega
      · have := ih (n + 1) x hx; omega
    · have := ih (n + 1) x hx; omega
theorem ones_up (l : List Int) : ∀ n, (ones n l).Pairwise (· < ·) := by
  induction l with
  | nil => intro n; exact .nil
  | cons y l ih =>
    intro n
    unfold ones
    split
    · refine .cons (fun x hx => ?_) (ih (n + 1))
      have := ones_ge l (n + 1) x hx; omega
    · exact ih (n + 1)
theorem ones_len (l : List Int) : ∀ n, (ones n l).length ≤ l.length := by
  induction l with
  | nil => intro n; exact Nat.le_refl _
  | cons y l ih =>
    intro n
    have := ih (n + 1)
    unfold ones
    split
    · rw [List.length_cons, List.length_cons]; omega
    · rw [List.length_cons]; omega
theorem row_few {w : List Nat} (h : IsNum w) : (rowN w).length ≤ 58 := by rw [rowN_len]; have := h.sum; have := h.few; omega
theorem offs_few {w : List Nat} (h : IsNum w) : (offs w).length ≤ 58 := Nat.le_trans (ones_len _ _) (row_few h)
theorem offs_in {w : List Nat} {x : Int} (hx : x ∈ offs w) : 0 ≤ x ∧ x < (rowN w).length := by have := ones_ge _ 0 x hx; omega
/-- as enumerate finds them -/
theorem enu_ones (l : List Int) : ∀ n, ((enuL n (l.map D.int)).filter fun d => match d with | .tup [_, .int x] => decide (x = 1) | _ => false).map (fun d => match d with | .tup [a, _] => a | d => d) = (ones n l).map D.int := by
  induction l with
  | nil => intro n; rfl
  | cons x l ih =>
    intro n
    rw [List.map_cons]
    unfold enuL ones
    by_cases h : x = 1
    · rw [List.filter_cons_of_pos (by simp [h]), List.map_cons, ih, if_pos h]; rfl
    · rw [List.filter_cons_of_neg (by simp [h]), ih, if_neg h]
/-- as a walk over the places finds them -/
theorem range_ones (l : List Int) : ∀ (n : Nat) (pre : List Int), pre.length = n → ∀ (q : Nat → Bool) (f : Nat → Int), (∀ k, q k = decide ((pre ++ l)[k]? = some 1)) → (((List.range (n + l.length)).drop n).filter q).map f = (ones n l).map fun x => f x.toNat := by
  induction l with
  | nil => intro n pre hp q f hq; rw [List.drop_of_length_le (by simp)]; rfl
  | cons x l ih =>
    intro n pre hp q f hq
    have hq2 : ∀ k, q k = decide (((pre ++ [x]) ++ l)[k]? = some 1) := fun k => by rw [hq k, List.append_assoc]; rfl
    have i2 := ih (n + 1) (pre ++ [x]) (by simp [hp]) q f hq2
    have e : (List.range (n + (x :: l).length)).drop n = n :: (List.range (n + 1 + l.length)).drop (n + 1) := by
      rw [List.length_cons, show n + (l.length + 1) = n + 1 + l.length by omega, List.drop_eq_getElem_cons (by simp; omega), List.getElem_range]
    have at_ : (pre ++ x :: l)[n]? = some x := by rw [List.getElem?_append_right (by omega), hp, Nat.sub_self]; rfl
    rw [e]
    unfold ones
    by_cases h : x = 1
    · rw [List.filter_cons_of_pos (by rw [hq n, at_, h]; simp), List.map_cons, i2, if_pos h, List.map_cons, Int.toNat_natCast]
    · rw [List.filter_cons_of_neg (by rw [hq n, at_]; simp [h]), i2, if_neg h]
theorem row_offs {w : List Nat} (h : IsNum w) (S : Sto) : F_row_offsets [.str (numS w)] S = .ok (.lst ((offs w).map .int)) S := by
  unfold F_row_offsets fnF g_row_offsets
  have c := compF_map (vs := [1, 2]) (fi := itA enuI (consF (callF 1 F_row_of (consF (varE 0) nilF)) nilF)) (g := tupG 2 (consG (nmG 1) (consG (nmG 2) nilG))) (t := tstF (binF eqD (varE 2) (cE (.int 1)))) (fe := varE 1) (ρ := [some (.str (numS w)), none, none]) (S := S) (S1 := S) (ds := enuL 0 ((rowN w).map .int))
    (fun d => match d with | .tup [_, .int x] => decide (x = 1) | _ => false) (fun d => match d with | .tup [a, _] => a | d => d) (by simp only [Bd, seqS, setS, retS, retN, dropS, ifS, forS, putS, augS, nxS, bkS, ctS, SR.seq_nx, SR.seq_rt, SR.seq_exc, SR.seq_bk, SR.seq_ct, SR.turn_nx, SR.turn_ct, SR.turn_bk, SR.turn_rt, SR.turn_exc, R.bind_ok, R.bind_bad, R.bind_exc, R.bindN_ok, R.st_ok, R.st_exc,
 varE, cE, binF, tstF, chnF, andB, orB, notB, andV, orV, notV, ifE, nilF, consF, tupF, lstF, ownF, negF, noO, someO, slF, callF, appF, isiF, mthF, itF, itA, nmG, nilG, consG, tupG, yesB, wipeD,
 addD_ii, addD_ss, addD_ll, subD_ii, mulD_ii, mulD_li, mulD_si, fdivD_ii, modD_ii, powD_10_18, ltD_ii, leD_ii, gtD_ii, geD_ii, gtD_ss, ltD_ss, eqD_ii, eqD_ss, eqD_bb, neD_ii, neD_ss, isBD_bb, isND_non, isND_int, isND_str, notND_non, notND_int, notND_str, lenD_s, lenD_l, lenD_r, lenD_t, lenD_c, min2D_ii, max2D_ii, intD_i, intD_b, strD_i, sumD_l, sumD_c, sumD_t, maxD_c, tupleD_l, tupleD_t, tupleD_c, listD_l, listD_t,
 ixD_l, ixD_r, ixD_t, ixD_s, ixD_c, slD_s, slD_l, slD_r, putIx_c, appendD_c, extendD_cl, isTy_c, isTy_s, isTy_l, iaddD, atI_0, atI_1, atI_2, atI_3, atI_4, low_int, low_str, low_bl, low_non, anyI_l, anyI_r, anyI_t, anyI_s, rng1I_i, rng2I_ii, ixN5, set_concat, get_concat, take_concat, len_concat, notInD_cs, inD_cs, sindexD_s, intD_s, tyN_s, tyN_i, tyN_b, tyN_n, tyN_t, tyN_l, tyIs_t, zipI_tt,
 startD, List.map_cons, List.map_nil, List.length_cons, List.length_nil, List.cons_append, List.nil_append, List.getElem?_cons_zero, List.getElem?_cons_succ, List.set_cons_zero, List.set_cons_succ, List.replicate_succ, List.replicate_zero, Option.bind_some, if_true, if_false, Bool.true_and, Bool.false_and, Bool.and_true, Bool.not_true, Bool.not_false, decide_true, decide_false, eq_self, Nat.zero_add, Nat.reduceAdd, Nat.reduceSub, reduceIte, reduceCtorEq, Int.reduceEq, Bool.false_eq_true, true_and, and_true, true_or, or_true, decide_eq_true_eq, row_of_num h, enuI]) (sizeLine_big (by rw [enuL_len, List.length_map]; have := row_few h; omega)) (fun d hd acc => by
    obtain ⟨i, hi⟩ := List.getElem?_of_mem hd
    rw [enuL_at, List.getElem?_map, Option.map_map] at hi
    obtain ⟨x, _, rfl⟩ := Option.map_eq_some_iff.mp hi
    refine ⟨[some (.str (numS w)), some (.int ((0 + i : Nat) : Int)), some (.int x)], rfl, ?_, fun _ => ⟨?_, rfl⟩⟩
    · simp only [Bd, seqS, setS, retS, retN, dropS, ifS, forS, putS, augS, nxS, bkS, ctS, SR.seq_nx, SR.seq_rt, SR.seq_exc, SR.seq_bk, SR.seq_ct, SR.turn_nx, SR.turn_ct, SR.turn_bk, SR.turn_rt, SR.turn_exc, R.bind_ok, R.bind_bad, R.bind_exc, R.bindN_ok, R.st_ok, R.st_exc,
 varE, cE, binF, tstF, chnF, andB, orB, notB, andV, orV, notV, ifE, nilF, consF, tupF, lstF, ownF, negF, noO, someO, slF, callF, appF, isiF, mthF, itF, itA, nmG, nilG, consG, tupG, yesB, wipeD,
 addD_ii, addD_ss, addD_ll, subD_ii, mulD_ii, mulD_li, mulD_si, fdivD_ii, modD_ii, powD_10_18, ltD_ii, leD_ii, gtD_ii, geD_ii, gtD_ss, ltD_ss, eqD_ii, eqD_ss, eqD_bb, neD_ii, neD_ss, isBD_bb, isND_non, isND_int, isND_str, notND_non, notND_int, notND_str, lenD_s, lenD_l, lenD_r, lenD_t, lenD_c, min2D_ii, max2D_ii, intD_i, intD_b, strD_i, sumD_l, sumD_c, sumD_t, maxD_c, tupleD_l, tupleD_t, tupleD_c, listD_l, listD_t,
 ixD_l, ixD_r, ixD_t, ixD_s, ixD_c, slD_s, slD_l, slD_r, putIx_c, appendD_c, extendD_cl, isTy_c, isTy_s, isTy_l, iaddD, atI_0, atI_1, atI_2, atI_3, atI_4, low_int, low_str, low_bl, low_non, anyI_l, anyI_r, anyI_t, anyI_s, rng1I_i, rng2I_ii, ixN5, set_concat, get_concat, take_concat, len_concat, notInD_cs, inD_cs, sindexD_s, intD_s, tyN_s, tyN_i, tyN_b, tyN_n, tyN_t, tyN_l, tyIs_t, zipI_tt,
 startD, List.map_cons, List.map_nil, List.length_cons, List.length_nil, List.cons_append, List.nil_append, List.getElem?_cons_zero, List.getElem?_cons_succ, List.set_cons_zero, List.set_cons_succ, List.replicate_succ, List.replicate_zero, Option.bind_some, if_true, if_false, Bool.true_and, Bool.false_and, Bool.and_true, Bool.not_true, Bool.not_false, decide_true, decide_false, eq_self, Nat.zero_add, Nat.reduceAdd, Nat.reduceSub, reduceIte, reduceCtorEq, Int.reduceEq, Bool.false_eq_true, true_and, and_true, true_or, or_true, decide_eq_true_eq]
      rfl
    · simp only [Bd, seqS, setS, retS, retN, dropS, ifS, forS, putS, augS, nxS, bkS, ctS, SR.seq_nx, SR.seq_rt, SR.seq_exc, SR.seq_bk, SR.seq_ct, SR.turn_nx, SR.turn_ct, SR.turn_bk, SR.turn_rt, SR.turn_exc, R.bind_ok, R.bind_bad, R.bind_exc, R.bindN_ok, R.st_ok, R.st_exc,
 varE, cE, binF, tstF, chnF, andB, orB, notB, andV, orV, notV, ifE, nilF, consF, tupF, lstF, ownF, negF, noO, someO, slF, callF, appF, isiF, mthF, itF, itA, nmG, nilG, consG, tupG, yesB, wipeD,
 addD_ii, addD_ss, addD_ll, subD_ii, mulD_ii, mulD_li, mulD_si, fdivD_ii, modD_ii, powD_10_18, ltD_ii, leD_ii, gtD_ii, geD_ii, gtD_ss, ltD_ss, eqD_ii, eqD_ss, eqD_bb, neD_ii, neD_ss, isBD_bb, isND_non, isND_int, isND_str, notND_non, notND_int, notND_str, lenD_s, lenD_l, lenD_r, lenD_t, lenD_c, min2D_ii, max2D_ii, intD_i, intD_b, strD_i, sumD_l, sumD_c, sumD_t, maxD_c, tupleD_l, tupleD_t, tupleD_c, listD_l, listD_t,
 ixD_l, ixD_r, ixD_t, ixD_s, ixD_c, slD_s, slD_l, slD_r, putIx_c, appendD_c, extendD_cl, isTy_c, isTy_s, isTy_l, iaddD, atI_0, atI_1, atI_2, atI_3, atI_4, low_int, low_str, low_bl, low_non, anyI_l, anyI_r, anyI_t, anyI_s, rng1I_i, rng2I_ii, ixN5, set_concat, get_concat, take_concat, len_concat, notInD_cs, inD_cs, sindexD_s, intD_s, tyN_s, tyN_i, tyN_b, tyN_n, tyN_t, tyN_l, tyIs_t, zipI_tt,
 startD, List.map_cons, List.map_nil, List.length_cons, List.length_nil, List.cons_append, List.nil_append, List.getElem?_cons_zero, List.getElem?_cons_succ, List.set_cons_zero, List.set_cons_succ, List.replicate_succ, List.replicate_zero, Option.bind_some, if_true, if_false, Bool.true_and, Bool.false_and, Bool.and_true, Bool.not_true, Bool.not_false, decide_true, decide_false, eq_self, Nat.zero_add, Nat.reduceAdd, Nat.reduceSub, reduceIte, reduceCtorEq, Int.reduceEq, Bool.false_eq_true, true_and, and_true, true_or, or_true, decide_eq_true_eq]
      rfl)
  rw [enu_ones] at c
  simp only [Bd, seqS, setS, retS, retN, dropS, ifS, forS, putS, augS, nxS, bkS, ctS, SR.seq_nx, SR.seq_rt, SR.seq_exc, SR.seq_bk, SR.seq_ct, SR.turn_nx, SR.turn_ct, SR.turn_bk, SR.turn_rt, SR.turn_exc, R.bind_ok, R.bind_bad, R.bind_exc, R.bindN_ok, R.st_ok, R.st_exc,
 varE, cE, binF, tstF, chnF, andB, orB, notB, andV, orV, notV, ifE, nilF, consF, tupF, lstF, ownF, negF, noO, someO, slF, callF, appF, isiF, mthF, itF, itA, nmG, nilG, consG, tupG, yesB, wipeD,
 addD_ii, addD_ss, addD_ll, subD_ii, mulD_ii, mulD_li, mulD_si, fdivD_ii, modD_ii, powD_10_18, ltD_ii, leD_ii, gtD_ii, geD_ii, gtD_ss, ltD_ss, eqD_ii, eqD_ss, eqD_bb, neD_ii, neD_ss, isBD_bb, isND_non, isND_int, isND_str, notND_non, notND_int, notND_str, lenD_s, lenD_l, lenD_r, lenD_t, lenD_c, min2D_ii, max2D_ii, intD_i, intD_b, strD_i, sumD_l, sumD_c, sumD_t, maxD_c, tupleD_l, tupleD_t, tupleD_c, listD_l, listD_t,
 ixD_l, ixD_r, ixD_t, ixD_s, ixD_c, slD_s, slD_l, slD_r, putIx_c, appendD_c, extendD_cl, isTy_c, isTy_s, isTy_l, iaddD, atI_0, atI_1, atI_2, atI_3, atI_4, low_int, low_str, low_bl, low_non, anyI_l, anyI_r, anyI_t, anyI_s, rng1I_i, rng2I_ii, ixN5, set_concat, get_concat, take_concat, len_concat, notInD_cs, inD_cs, sindexD_s, intD_s, tyN_s, tyN_i, tyN_b, tyN_n, tyN_t, tyN_l, tyIs_t, zipI_tt,
 startD, List.map_cons, List.map_nil, List.length_cons, List.length_nil, List.cons_append, List.nil_append, List.getElem?_cons_zero, List.getElem?_cons_succ, List.set_cons_zero, List.set_cons_succ, List.replicate_succ, List.replicate_zero, Option.bind_some, if_true, if_false, Bool.true_and, Bool.false_and, Bool.and_true, Bool.not_true, Bool.not_false, decide_true, decide_false, eq_self, Nat.zero_add, Nat.reduceAdd, Nat.reduceSub, reduceIte, reduceCtorEq, Int.reduceEq, Bool.false_eq_true, true_and, and_true, true_or, or_true, decide_eq_true_eq, c, leave_rt, fz_lst, fz_mapint, List.take_length]
  rfl

/-! ### patterns -/
/-- rows behind one another -/
def patN (w : List Nat) (n : Nat) : List Int := (List.range n).flatMap fun k : Nat => (offs w).map fun x => (k : Int) * (rowN w).length + x
theorem patN_succ (w : List Nat) (n : Nat) : patN w (n + 1) = patN w n ++ (offs w).map fun x => (n : Int) * (rowN w).length + x := by
  unfold patN; rw [List.range_succ, List.flatMap_append]; simp
theorem patN_lt {w : List Nat} {n : Nat} {x : Int} (hx : x ∈ patN w n) : 0 ≤ x ∧ x < (n : Int) * (rowN w).length := by
  obtain ⟨k, hk, hx⟩ := List.mem_flatMap.mp hx
  obtain ⟨y, hy, rfl⟩ := List.mem_map.mp hx
  have hk := List.mem_range.mp hk
  have := offs_in hy
  have h1 : (0 : Int) ≤ (k : Int) * (rowN w).length := Int.mul_nonneg (by omega) (by omega)
  have h2 : ((k : Int) + 1) * (rowN w).length ≤ (n : Int) * (rowN w).length := Int.mul_le_mul_of_nonneg_right (by omega) (by omega)
  rw [Int.add_mul, Int.one_mul] at h2
  omega
theorem patN_up (w : List Nat) : ∀ n, (patN w n).Pairwise (· < ·)
  | 0 => .nil
  | n + 1 => by
    rw [patN_succ]
    refine List.pairwise_append.mpr ⟨patN_up w n, List.pairwise_map.mpr ((ones_up _ 0).imp fun h => by omega), fun x hx y hy => ?_⟩
    obtain ⟨z, hz, rfl⟩ := List.mem_map.mp hy
    have := patN_lt hx
    have := offs_in hz
    omega
theorem patN_len (w : List Nat) (n : Nat) : (patN w n).length = n * (offs w).length := by
  induction n with
  | zero => simp [patN]
  | succ n ih => rw [patN_succ, List.length_append, ih, List.length_map, Nat.succ_mul]
theorem patN_rise {w : List Nat} (h : IsNum w) {n : Nat} (hn : n ≤ 60) : Rise (patN w n) := ⟨patN_up w n, fun x hx => (patN_lt hx).1, by
  rw [patN_len]
  have := Nat.mul_le_mul hn (offs_few h)
  omega⟩
theorem patN_one (w : List Nat) : patN w 1 = offs w := by
  rw [patN_succ]; unfold patN; simp
theorem patN_add (w : List Nat) (m e : Nat) : patN w (m + e) = patN w m ++ (patN w e).map fun x => x + (m : Int) * (rowN w).length := by
  induction e with
  | zero => simp [patN]
  | succ e ih =>
    rw [← Nat.add_assoc, patN_succ, ih, patN_succ w e, List.map_append, List.append_assoc, List.map_map]
    congr 2
    apply List.map_congr_left
    intro x _
    show ((m + e : Nat) : Int) * _ + x = (e : Int) * _ + x + (m : Int) * _
    rw [Int.natCast_add, Int.add_mul]; omega
theorem strokes_num {w : List Nat} (h : IsNum w) (S : Sto) : F_strokes_of [.str (numS w)] S = .ok (skO (offs w)) S := by
  unfold F_strokes_of fnF g_strokes_of
  have r : Rise (offs w) := by rw [← patN_one]; exact patN_rise h (by omega)
  have e := new_sorted (S := S) (S1 := S) (ρ := [some (.str (numS w))]) (fe := callF 1 F_row_offsets (consF (varE 0) nilF)) (by simp only [Bd, seqS, setS, retS, retN, dropS, ifS, forS, putS, augS, nxS, bkS, ctS, SR.seq_nx, SR.seq_rt, SR.seq_exc, SR.seq_bk, SR.seq_ct, SR.turn_nx, SR.turn_ct, SR.turn_bk, SR.turn_rt, SR.turn_exc, R.bind_ok, R.bind_bad, R.bind_exc, R.bindN_ok, R.st_ok, R.st_exc,
 varE, cE, binF, tstF, chnF, andB, orB, notB, andV, orV, notV, ifE, nilF, consF, tupF, lstF, ownF, negF, noO, someO, slF, callF, appF, isiF, mthF, itF, itA, nmG, nilG, consG, tupG, yesB, wipeD,
 addD_ii, addD_ss, addD_ll, subD_ii, mulD_ii, mulD_li, mulD_si, fdivD_ii, modD_ii, powD_10_18, ltD_ii, leD_ii, gtD_ii, geD_ii, gtD_ss, ltD_ss, eqD_ii, eqD_ss, eqD_bb, neD_ii, neD_ss, isBD_bb, isND_non, isND_int, isND_str, notND_non, notND_int, notND_str, lenD_s, lenD_l, lenD_r, lenD_t, lenD_c, min2D_ii, max2D_ii, intD_i, intD_b, strD_i, sumD_l, sumD_c, sumD_t, maxD_c, tupleD_l, tupleD_t, tupleD_c, listD_l, listD_t,
 ixD_l, ixD_r, ixD_t, ixD_s, ixD_c, slD_s, slD_l, slD_r, putIx_c, appendD_c, extendD_cl, isTy_c, isTy_s, isTy_l, iaddD, atI_0, atI_1, atI_2, atI_3, atI_4, low_int, low_str, low_bl, low_non, anyI_l, anyI_r, anyI_t, anyI_s, rng1I_i, rng2I_ii, ixN5, set_concat, get_concat, take_concat, len_concat, notInD_cs, inD_cs, sindexD_s, intD_s, tyN_s, tyN_i, tyN_b, tyN_n, tyN_t, tyN_l, tyIs_t, zipI_tt,
 startD, List.map_cons, List.map_nil, List.length_cons, List.length_nil, List.cons_append, List.nil_append, List.getElem?_cons_zero, List.getElem?_cons_succ, List.set_cons_zero, List.set_cons_succ, List.replicate_succ, List.replicate_zero, Option.bind_some, if_true, if_false, Bool.true_and, Bool.false_and, Bool.and_true, Bool.not_true, Bool.not_false, decide_true, decide_false, eq_self, Nat.zero_add, Nat.reduceAdd, Nat.reduceSub, reduceIte, reduceCtorEq, Int.reduceEq, Bool.false_eq_true, true_and, and_true, true_or, or_true, decide_eq_true_eq, row_offs h]) (row_l _) r
  simp only [Bd, seqS, setS, retS, retN, dropS, ifS, forS, putS, augS, nxS, bkS, ctS, SR.seq_nx, SR.seq_rt, SR.seq_exc, SR.seq_bk, SR.seq_ct, SR.turn_nx, SR.turn_ct, SR.turn_bk, SR.turn_rt, SR.turn_exc, R.bind_ok, R.bind_bad, R.bind_exc, R.bindN_ok, R.st_ok, R.st_exc,
 varE, cE, binF, tstF, chnF, andB, orB, notB, andV, orV, notV, ifE, nilF, consF, tupF, lstF, ownF, negF, noO, someO, slF, callF, appF, isiF, mthF, itF, itA, nmG, nilG, consG, tupG, yesB, wipeD,
 addD_ii, addD_ss, addD_ll, subD_ii, mulD_ii, mulD_li, mulD_si, fdivD_ii, modD_ii, powD_10_18, ltD_ii, leD_ii, gtD_ii, geD_ii, gtD_ss, ltD_ss, eqD_ii, eqD_ss, eqD_bb, neD_ii, neD_ss, isBD_bb, isND_non, isND_int, isND_str, notND_non, notND_int, notND_str, lenD_s, lenD_l, lenD_r, lenD_t, lenD_c, min2D_ii, max2D_ii, intD_i, intD_b, strD_i, sumD_l, sumD_c, sumD_t, maxD_c, tupleD_l, tupleD_t, tupleD_c, listD_l, listD_t,
 ixD_l, ixD_r, ixD_t, ixD_s, ixD_c, slD_s, slD_l, slD_r, putIx_c, appendD_c, extendD_cl, isTy_c, isTy_s, isTy_l, iaddD, atI_0, atI_1, atI_2, atI_3, atI_4, low_int, low_str, low_bl, low_non, anyI_l, anyI_r, anyI_t, anyI_s, rng1I_i, rng2I_ii, ixN5, set_concat, get_concat, take_concat, len_concat, notInD_cs, inD_cs, sindexD_s, intD_s, tyN_s, tyN_i, tyN_b, tyN_n, tyN_t, tyN_l, tyIs_t, zipI_tt,
 startD, List.map_cons, List.map_nil, List.length_cons, List.length_nil, List.cons_append, List.nil_append, List.getElem?_cons_zero, List.getElem?_cons_succ, List.set_cons_zero, List.set_cons_succ, List.replicate_succ, List.replicate_zero, Option.bind_some, if_true, if_false, Bool.true_and, Bool.false_and, Bool.and_true, Bool.not_true, Bool.not_false, decide_true, decide_false, eq_self, Nat.zero_add, Nat.reduceAdd, Nat.reduceSub, reduceIte, reduceCtorEq, Int.reduceEq, Bool.false_eq_true, true_and, and_true, true_or, or_true, decide_eq_true_eq, e, leave_rt, fz_sk, List.take_length]
theorem pattern_num {w : List Nat} (h : IsNum w) {n : Nat} (hn : n ≤ 60) (S : Sto) : F_pattern [.str (numS w), .int (n : Nat)] S = .ok (skO (patN w n)) S := by
  unfold F_pattern fnF g_pattern
  have br : -(2 ^ 62) ≤ ((n : Nat) : Int) ∧ ((n : Nat) : Int) < 2 ^ 62 := by omega
  have ro := row_offs h S
  have lo := length_of_num h S
  have lr : ((rowT w).length : Int) = (rowN w).length := by
    have := congrArg List.length (rowT_tks w); rw [List.length_map, tks_len] at this; rw [this]
  rw [lr] at lo
  have few := row_few h
  have of := offs_few h
  have c := comp2_map (vs := [4, 5]) (vs1 := [5]) (fi := itA rng1I (consF (varE 1) nilF)) (g := nmG 4) (t := yesB) (fi1 := itF anyI (varE 3)) (g1 := nmG 5) (t1 := yesB) (fe := binF addD (binF mulD (varE 4) (varE 2)) (varE 5)) (ρ := [some (.str (numS w)), some (.int (n : Nat)), some (.int ((rowN w).length : Nat)), some (.lst ((offs w).map .int)), none, none]) (S := S) (S1 := S) (ds := (List.range n).map fun k => D.int (0 + (k : Nat)))
    (fun _ => true) (fun _ => (offs w).map .int) (fun _ _ => true) (fun d e => match d, e with | .int k, .int x => .int (k * (rowN w).length + x) | _, _ => .non) (by simp only [Bd, seqS, setS, retS, retN, dropS, ifS, forS, putS, augS, nxS, bkS, ctS, SR.seq_nx, SR.seq_rt, SR.seq_exc, SR.seq_bk, SR.seq_ct, SR.turn_nx, SR.turn_ct, SR.turn_bk, SR.turn_rt, SR.turn_exc, R.bind_ok, R.bind_bad, R.bind_exc, R.bindN_ok, R.st_ok, R.st_exc,
 varE, cE, binF, tstF, chnF, andB, orB, notB, andV, orV, notV, ifE, nilF, consF, tupF, lstF, ownF, negF, noO, someO, slF, callF, appF, isiF, mthF, itF, itA, nmG, nilG, consG, tupG, yesB, wipeD,
 addD_ii, addD_ss, addD_ll, subD_ii, mulD_ii, mulD_li, mulD_si, fdivD_ii, modD_ii, powD_10_18, ltD_ii, leD_ii, gtD_ii, geD_ii, gtD_ss, ltD_ss, eqD_ii, eqD_ss, eqD_bb, neD_ii, neD_ss, isBD_bb, isND_non, isND_int, isND_str, notND_non, notND_int, notND_str, lenD_s, lenD_l, lenD_r, lenD_t, lenD_c, min2D_ii, max2D_ii, intD_i, intD_b, strD_i, sumD_l, sumD_c, sumD_t, maxD_c, tupleD_l, tupleD_t, tupleD_c, listD_l, listD_t,
 ixD_l, ixD_r, ixD_t, ixD_s, ixD_c, slD_s, slD_l, slD_r, putIx_c, appendD_c, extendD_cl, isTy_c, isTy_s, isTy_l, iaddD, atI_0, atI_1, atI_2, atI_3, atI_4, low_int, low_str, low_bl, low_non, anyI_l, anyI_r, anyI_t, anyI_s, rng1I_i, rng2I_ii, ixN5, set_concat, get_concat, take_concat, len_concat, notInD_cs, inD_cs, sindexD_s, intD_s, tyN_s, tyN_i, tyN_b, tyN_n, tyN_t, tyN_l, tyIs_t, zipI_tt,
 startD, List.map_cons, List.map_nil, List.length_cons, List.length_nil, List.cons_append, List.nil_append, List.getElem?_cons_zero, List.getElem?_cons_succ, List.set_cons_zero, List.set_cons_succ, List.replicate_succ, List.replicate_zero, Option.bind_some, if_true, if_false, Bool.true_and, Bool.false_and, Bool.and_true, Bool.not_true, Bool.not_false, decide_true, decide_false, eq_self, Nat.zero_add, Nat.reduceAdd, Nat.reduceSub, reduceIte, reduceCtorEq, Int.reduceEq, Bool.false_eq_true, true_and, and_true, true_or, or_true, decide_eq_true_eq, br, Int.toNat_natCast]) (sizeLine_big (by
      rw [List.filter_eq_self.mpr (fun _ _ => rfl), List.length_flatMap]
      have : ∀ l : List D, (l.map fun _ => ((offs w).map D.int).length).sum = l.length * (offs w).length := fun l => by
        induction l with
        | nil => simp
        | cons a l ih => rw [List.map_cons, List.sum_cons, ih, List.length_cons, Nat.succ_mul, List.length_map]; omega
      rw [this, List.length_map, List.length_range]
      have := Nat.mul_le_mul hn of
      omega)) (fun d hd acc => by
    obtain ⟨k, hk, rfl⟩ := List.mem_map.mp hd
    have hk := List.mem_range.mp hk
    refine ⟨[some (.str (numS w)), some (.int (n : Nat)), some (.int ((rowN w).length : Nat)), some (.lst ((offs w).map .int)), some (.int (0 + (k : Nat))), none], rfl, rfl, fun _ => ⟨by simp only [Bd, seqS, setS, retS, retN, dropS, ifS, forS, putS, augS, nxS, bkS, ctS, SR.seq_nx, SR.seq_rt, SR.seq_exc, SR.seq_bk, SR.seq_ct, SR.turn_nx, SR.turn_ct, SR.turn_bk, SR.turn_rt, SR.turn_exc, R.bind_ok, R.bind_bad, R.bind_exc, R.bindN_ok, R.st_ok, R.st_exc,
 varE, cE, binF, tstF, chnF, andB, orB, notB, andV, orV, notV, ifE, nilF, consF, tupF, lstF, ownF, negF, noO, someO, slF, callF, appF, isiF, mthF, itF, itA, nmG, nilG, consG, tupG, yesB, wipeD,
 addD_ii, addD_ss, addD_ll, subD_ii, mulD_ii, mulD_li, mulD_si, fdivD_ii, modD_ii, powD_10_18, ltD_ii, leD_ii, gtD_ii, geD_ii, gtD_ss, ltD_ss, eqD_ii, eqD_ss, eqD_bb, neD_ii, neD_ss, isBD_bb, isND_non, isND_int, isND_str, notND_non, notND_int, notND_str, lenD_s, lenD_l, lenD_r, lenD_t, lenD_c, min2D_ii, max2D_ii, intD_i, intD_b, strD_i, sumD_l, sumD_c, sumD_t, maxD_c, tupleD_l, tupleD_t, tupleD_c, listD_l, listD_t,
 ixD_l, ixD_r, ixD_t, ixD_s, ixD_c, slD_s, slD_l, slD_r, putIx_c, appendD_c, extendD_cl, isTy_c, isTy_s, isTy_l, iaddD, atI_0, atI_1, atI_2, atI_3, atI_4, low_int, low_str, low_bl, low_non, anyI_l, anyI_r, anyI_t, anyI_s, rng1I_i, rng2I_ii, ixN5, set_concat, get_concat, take_concat, len_concat, notInD_cs, inD_cs, sindexD_s, intD_s, tyN_s, tyN_i, tyN_b, tyN_n, tyN_t, tyN_l, tyIs_t, zipI_tt,
 startD, List.map_cons, List.map_nil, List.length_cons, List.length_nil, List.cons_append, List.nil_append, List.getElem?_cons_zero, List.getElem?_cons_succ, List.set_cons_zero, List.set_cons_succ, List.replicate_succ, List.replicate_zero, Option.bind_some, if_true, if_false, Bool.true_and, Bool.false_and, Bool.and_true, Bool.not_true, Bool.not_false, decide_true, decide_false, eq_self, Nat.zero_add, Nat.reduceAdd, Nat.reduceSub, reduceIte, reduceCtorEq, Int.reduceEq, Bool.false_eq_true, true_and, and_true, true_or, or_true, decide_eq_true_eq], fun e he acc => ?_⟩⟩
    obtain ⟨x, hx, rfl⟩ := List.mem_map.mp he
    have c2 : (-(2 ^ 64) < (0 + (k : Nat) : Int) ∧ (0 + (k : Nat) : Int) < 2 ^ 64) := by omega
    exact ⟨[some (.str (numS w)), some (.int (n : Nat)), some (.int ((rowN w).length : Nat)), some (.lst ((offs w).map .int)), some (.int (0 + (k : Nat))), some (.int x)], rfl, rfl, fun _ => ⟨by simp only [Bd, seqS, setS, retS, retN, dropS, ifS, forS, putS, augS, nxS, bkS, ctS, SR.seq_nx, SR.seq_rt, SR.seq_exc, SR.seq_bk, SR.seq_ct, SR.turn_nx, SR.turn_ct, SR.turn_bk, SR.turn_rt, SR.turn_exc, R.bind_ok, R.bind_bad, R.bind_exc, R.bindN_ok, R.st_ok, R.st_exc,
 varE, cE, binF, tstF, chnF, andB, orB, notB, andV, orV, notV, ifE, nilF, consF, tupF, lstF, ownF, negF, noO, someO, slF, callF, appF, isiF, mthF, itF, itA, nmG, nilG, consG, tupG, yesB, wipeD,
 addD_ii, addD_ss, addD_ll, subD_ii, mulD_ii, mulD_li, mulD_si, fdivD_ii, modD_ii, powD_10_18, ltD_ii, leD_ii, gtD_ii, geD_ii, gtD_ss, ltD_ss, eqD_ii, eqD_ss, eqD_bb, neD_ii, neD_ss, isBD_bb, isND_non, isND_int, isND_str, notND_non, notND_int, notND_str, lenD_s, lenD_l, lenD_r, lenD_t, lenD_c, min2D_ii, max2D_ii, intD_i, intD_b, strD_i, sumD_l, sumD_c, sumD_t, maxD_c, tupleD_l, tupleD_t, tupleD_c, listD_l, listD_t,
 ixD_l, ixD_r, ixD_t, ixD_s, ixD_c, slD_s, slD_l, slD_r, putIx_c, appendD_c, extendD_cl, isTy_c, isTy_s, isTy_l, iaddD, atI_0, atI_1, atI_2, atI_3, atI_4, low_int, low_str, low_bl, low_non, anyI_l, anyI_r, anyI_t, anyI_s, rng1I_i, rng2I_ii, ixN5, set_concat, get_concat, take_concat, len_concat, notInD_cs, inD_cs, sindexD_s, intD_s, tyN_s, tyN_i, tyN_b, tyN_n, tyN_t, tyN_l, tyIs_t, zipI_tt,
 startD, List.map_cons, List.map_nil, List.length_cons, List.length_nil, List.cons_append, List.nil_append, List.getElem?_cons_zero, List.getElem?_cons_succ, List.set_cons_zero, List.set_cons_succ, List.replicate_succ, List.replicate_zero, Option.bind_some, if_true, if_false, Bool.true_and, Bool.false_and, Bool.and_true, Bool.not_true, Bool.not_false, decide_true, decide_false, eq_self, Nat.zero_add, Nat.reduceAdd, Nat.reduceSub, reduceIte, reduceCtorEq, Int.reduceEq, Bool.false_eq_true, true_and, and_true, true_or, or_true, decide_eq_true_eq, mulD_ii, c2], rfl⟩⟩)
  have e : (((List.range n).map fun k => D.int (0 + (k : Nat))).filter fun _ => true).flatMap (fun d => (((offs w).map D.int).filter fun _ => true).map fun e => match d, e with | .int k, .int x => D.int (k * (rowN w).length + x) | _, _ => .non) = (patN w n).map D.int := by
    rw [List.filter_eq_self.mpr (fun _ _ => rfl), List.filter_eq_self.mpr (fun _ _ => rfl)]
    unfold patN
    rw [List.map_flatMap, List.flatMap_map]
    congr 1
    funext k
    rw [List.map_map, List.map_map]
    apply List.map_congr_left
    intro x _
    show D.int _ = D.int _
    rw [Int.zero_add]
  rw [e] at c
  have nw := new_sorted c (row_l _) (patN_rise h hn)
  simp only [Bd, seqS, setS, retS, retN, dropS, ifS, forS, putS, augS, nxS, bkS, ctS, SR.seq_nx, SR.seq_rt, SR.seq_exc, SR.seq_bk, SR.seq_ct, SR.turn_nx, SR.turn_ct, SR.turn_bk, SR.turn_rt, SR.turn_exc, R.bind_ok, R.bind_bad, R.bind_exc, R.bindN_ok, R.st_ok, R.st_exc,
 varE, cE, binF, tstF, chnF, andB, orB, notB, andV, orV, notV, ifE, nilF, consF, tupF, lstF, ownF, negF, noO, someO, slF, callF, appF, isiF, mthF, itF, itA, nmG, nilG, consG, tupG, yesB, wipeD,
 addD_ii, addD_ss, addD_ll, subD_ii, mulD_ii, mulD_li, mulD_si, fdivD_ii, modD_ii, powD_10_18, ltD_ii, leD_ii, gtD_ii, geD_ii, gtD_ss, ltD_ss, eqD_ii, eqD_ss, eqD_bb, neD_ii, neD_ss, isBD_bb, isND_non, isND_int, isND_str, notND_non, notND_int, notND_str, lenD_s, lenD_l, lenD_r, lenD_t, lenD_c, min2D_ii, max2D_ii, intD_i, intD_b, strD_i, sumD_l, sumD_c, sumD_t, maxD_c, tupleD_l, tupleD_t, tupleD_c, listD_l, listD_t,
 ixD_l, ixD_r, ixD_t, ixD_s, ixD_c, slD_s, slD_l, slD_r, putIx_c, appendD_c, extendD_cl, isTy_c, isTy_s, isTy_l, iaddD, atI_0, atI_1, atI_2, atI_3, atI_4, low_int, low_str, low_bl, low_non, anyI_l, anyI_r, anyI_t, anyI_s, rng1I_i, rng2I_ii, ixN5, set_concat, get_concat, take_concat, len_concat, notInD_cs, inD_cs, sindexD_s, intD_s, tyN_s, tyN_i, tyN_b, tyN_n, tyN_t, tyN_l, tyIs_t, zipI_tt,
 startD, List.map_cons, List.map_nil, List.length_cons, List.length_nil, List.cons_append, List.nil_append, List.getElem?_cons_zero, List.getElem?_cons_succ, List.set_cons_zero, List.set_cons_succ, List.replicate_succ, List.replicate_zero, Option.bind_some, if_true, if_false, Bool.true_and, Bool.false_and, Bool.and_true, Bool.not_true, Bool.not_false, decide_true, decide_false, eq_self, Nat.zero_add, Nat.reduceAdd, Nat.reduceSub, reduceIte, reduceCtorEq, Int.reduceEq, Bool.false_eq_true, true_and, and_true, true_or, or_true, decide_eq_true_eq, lo, ro, nw, leave_rt, fz_sk, List.take_length]
theorem and_sk {l m : List Int} {S : Sto} (hl : Rise l) : F_Strokes___and__ [skO l, skO m] S = .ok (skO (l.filter fun x => decide (x ∈ m))) S := by
  unfold F_Strokes___and__ fnF g_Strokes___and__
  have c := compF_map (vs := [2]) (fi := itF anyI (fldF ["Strokes"] "offsets" (varE 0))) (g := nmG 2) (t := tstF (binF (inDc false inD) (varE 2) (fldF ["Strokes"] "known" (varE 1)))) (fe := varE 2) (ρ := [some (skO l), some (skO m), none]) (S := S) (S1 := S) (ds := l.map .int) (fun d => match d with | .int i => decide (i ∈ m) | _ => false) id (by
    simp only [Bd, seqS, setS, retS, retN, dropS, ifS, forS, putS, augS, nxS, bkS, ctS, SR.seq_nx, SR.seq_rt, SR.seq_exc, SR.seq_bk, SR.seq_ct, SR.turn_nx, SR.turn_ct, SR.turn_bk, SR.turn_rt, SR.turn_exc, R.bind_ok, R.bind_bad, R.bind_exc, R.bindN_ok, R.st_ok, R.st_exc,
 varE, cE, binF, tstF, chnF, andB, orB, notB, andV, orV, notV, ifE, nilF, consF, tupF, lstF, ownF, negF, noO, someO, slF, callF, appF, isiF, mthF, itF, itA, nmG, nilG, consG, tupG, yesB, wipeD,
 addD_ii, addD_ss, addD_ll, subD_ii, mulD_ii, mulD_li, mulD_si, fdivD_ii, modD_ii, powD_10_18, ltD_ii, leD_ii, gtD_ii, geD_ii, gtD_ss, ltD_ss, eqD_ii, eqD_ss, eqD_bb, neD_ii, neD_ss, isBD_bb, isND_non, isND_int, isND_str, notND_non, notND_int, notND_str, lenD_s, lenD_l, lenD_r, lenD_t, lenD_c, min2D_ii, max2D_ii, intD_i, intD_b, strD_i, sumD_l, sumD_c, sumD_t, maxD_c, tupleD_l, tupleD_t, tupleD_c, listD_l, listD_t,
 ixD_l, ixD_r, ixD_t, ixD_s, ixD_c, slD_s, slD_l, slD_r, putIx_c, appendD_c, extendD_cl, isTy_c, isTy_s, isTy_l, iaddD, atI_0, atI_1, atI_2, atI_3, atI_4, low_int, low_str, low_bl, low_non, anyI_l, anyI_r, anyI_t, anyI_s, rng1I_i, rng2I_ii, ixN5, set_concat, get_concat, take_concat, len_concat, notInD_cs, inD_cs, sindexD_s, intD_s, tyN_s, tyN_i, tyN_b, tyN_n, tyN_t, tyN_l, tyIs_t, zipI_tt,
 startD, List.map_cons, List.map_nil, List.length_cons, List.length_nil, List.cons_append, List.nil_append, List.getElem?_cons_zero, List.getElem?_cons_succ, List.set_cons_zero, List.set_cons_succ, List.replicate_succ, List.replicate_zero, Option.bind_some, if_true, if_false, Bool.true_and, Bool.false_and, Bool.and_true, Bool.not_true, Bool.not_false, decide_true, decide_false, eq_self, Nat.zero_add, Nat.reduceAdd, Nat.reduceSub, reduceIte, reduceCtorEq, Int.reduceEq, Bool.false_eq_true, true_and, and_true, true_or, or_true, decide_eq_true_eq, fld_sk (l := l) (S := S) (S1 := S) (ρ := [some (skO l), some (skO m), none]) (fe := varE 0) rfl]) (sizeLine_big (by have := hl.few; simp; omega)) (fun d hd acc => by
    obtain ⟨i, _, rfl⟩ := List.mem_map.mp hd
    have kl : ((Str.ofString "known") == Str.ofString "offsets") = false := by decide
    exact ⟨[some (skO l), some (skO m), some (.int i)], rfl, by simp only [Bd, seqS, setS, retS, retN, dropS, ifS, forS, putS, augS, nxS, bkS, ctS, SR.seq_nx, SR.seq_rt, SR.seq_exc, SR.seq_bk, SR.seq_ct, SR.turn_nx, SR.turn_ct, SR.turn_bk, SR.turn_rt, SR.turn_exc, R.bind_ok, R.bind_bad, R.bind_exc, R.bindN_ok, R.st_ok, R.st_exc,
 varE, cE, binF, tstF, chnF, andB, orB, notB, andV, orV, notV, ifE, nilF, consF, tupF, lstF, ownF, negF, noO, someO, slF, callF, appF, isiF, mthF, itF, itA, nmG, nilG, consG, tupG, yesB, wipeD,
 addD_ii, addD_ss, addD_ll, subD_ii, mulD_ii, mulD_li, mulD_si, fdivD_ii, modD_ii, powD_10_18, ltD_ii, leD_ii, gtD_ii, geD_ii, gtD_ss, ltD_ss, eqD_ii, eqD_ss, eqD_bb, neD_ii, neD_ss, isBD_bb, isND_non, isND_int, isND_str, notND_non, notND_int, notND_str, lenD_s, lenD_l, lenD_r, lenD_t, lenD_c, min2D_ii, max2D_ii, intD_i, intD_b, strD_i, sumD_l, sumD_c, sumD_t, maxD_c, tupleD_l, tupleD_t, tupleD_c, listD_l, listD_t,
 ixD_l, ixD_r, ixD_t, ixD_s, ixD_c, slD_s, slD_l, slD_r, putIx_c, appendD_c, extendD_cl, isTy_c, isTy_s, isTy_l, iaddD, atI_0, atI_1, atI_2, atI_3, atI_4, low_int, low_str, low_bl, low_non, anyI_l, anyI_r, anyI_t, anyI_s, rng1I_i, rng2I_ii, ixN5, set_concat, get_concat, take_concat, len_concat, notInD_cs, inD_cs, sindexD_s, intD_s, tyN_s, tyN_i, tyN_b, tyN_n, tyN_t, tyN_l, tyIs_t, zipI_tt,
 startD, List.map_cons, List.map_nil, List.length_cons, List.length_nil, List.cons_append, List.nil_append, List.getElem?_cons_zero, List.getElem?_cons_succ, List.set_cons_zero, List.set_cons_succ, List.replicate_succ, List.replicate_zero, Option.bind_some, if_true, if_false, Bool.true_and, Bool.false_and, Bool.and_true, Bool.not_true, Bool.not_false, decide_true, decide_false, eq_self, Nat.zero_add, Nat.reduceAdd, Nat.reduceSub, reduceIte, reduceCtorEq, Int.reduceEq, Bool.false_eq_true, true_and, and_true, true_or, or_true, decide_eq_true_eq, fldF, fld_off, List.mem_singleton, List.zip_cons_cons, List.zip_nil_left, List.lookup, kl, beq_self_eq_true, inDc, asDc_dic, keyD, atK_known], fun _ => ⟨by simp only [Bd, seqS, setS, retS, retN, dropS, ifS, forS, putS, augS, nxS, bkS, ctS, SR.seq_nx, SR.seq_rt, SR.seq_exc, SR.seq_bk, SR.seq_ct, SR.turn_nx, SR.turn_ct, SR.turn_bk, SR.turn_rt, SR.turn_exc, R.bind_ok, R.bind_bad, R.bind_exc, R.bindN_ok, R.st_ok, R.st_exc,
 varE, cE, binF, tstF, chnF, andB, orB, notB, andV, orV, notV, ifE, nilF, consF, tupF, lstF, ownF, negF, noO, someO, slF, callF, appF, isiF, mthF, itF, itA, nmG, nilG, consG, tupG, yesB, wipeD,
 addD_ii, addD_ss, addD_ll, subD_ii, mulD_ii, mulD_li, mulD_si, fdivD_ii, modD_ii, powD_10_18, ltD_ii, leD_ii, gtD_ii, geD_ii, gtD_ss, ltD_ss, eqD_ii, eqD_ss, eqD_bb, neD_ii, neD_ss, isBD_bb, isND_non, isND_int, isND_str, notND_non, notND_int, notND_str, lenD_s, lenD_l, lenD_r, lenD_t, lenD_c, min2D_ii, max2D_ii, intD_i, intD_b, strD_i, sumD_l, sumD_c, sumD_t, maxD_c, tupleD_l, tupleD_t, tupleD_c, listD_l, listD_t,
 ixD_l, ixD_r, ixD_t, ixD_s, ixD_c, slD_s, slD_l, slD_r, putIx_c, appendD_c, extendD_cl, isTy_c, isTy_s, isTy_l, iaddD, atI_0, atI_1, atI_2, atI_3, atI_4, low_int, low_str, low_bl, low_non, anyI_l, anyI_r, anyI_t, anyI_s, rng1I_i, rng2I_ii, ixN5, set_concat, get_concat, take_concat, len_concat, notInD_cs, inD_cs, sindexD_s, intD_s, tyN_s, tyN_i, tyN_b, tyN_n, tyN_t, tyN_l, tyIs_t, zipI_tt,
 startD, List.map_cons, List.map_nil, List.length_cons, List.length_nil, List.cons_append, List.nil_append, List.getElem?_cons_zero, List.getElem?_cons_succ, List.set_cons_zero, List.set_cons_succ, List.replicate_succ, List.replicate_zero, Option.bind_some, if_true, if_false, Bool.true_and, Bool.false_and, Bool.and_true, Bool.not_true, Bool.not_false, decide_true, decide_false, eq_self, Nat.zero_add, Nat.reduceAdd, Nat.reduceSub, reduceIte, reduceCtorEq, Int.reduceEq, Bool.false_eq_true, true_and, and_true, true_or, or_true, decide_eq_true_eq, id], rfl⟩⟩)
  rw [filter_ints _ (fun x => decide (x ∈ m)) (fun _ => rfl)] at c
  have e := new_sorted c (row_l _) (hl.filter fun x => decide (x ∈ m))
  simp only [Bd, seqS, setS, retS, retN, dropS, ifS, forS, putS, augS, nxS, bkS, ctS, SR.seq_nx, SR.seq_rt, SR.seq_exc, SR.seq_bk, SR.seq_ct, SR.turn_nx, SR.turn_ct, SR.turn_bk, SR.turn_rt, SR.turn_exc, R.bind_ok, R.bind_bad, R.bind_exc, R.bindN_ok, R.st_ok, R.st_exc,
 varE, cE, binF, tstF, chnF, andB, orB, notB, andV, orV, notV, ifE, nilF, consF, tupF, lstF, ownF, negF, noO, someO, slF, callF, appF, isiF, mthF, itF, itA, nmG, nilG, consG, tupG, yesB, wipeD,
 addD_ii, addD_ss, addD_ll, subD_ii, mulD_ii, mulD_li, mulD_si, fdivD_ii, modD_ii, powD_10_18, ltD_ii, leD_ii, gtD_ii, geD_ii, gtD_ss, ltD_ss, eqD_ii, eqD_ss, eqD_bb, neD_ii, neD_ss, isBD_bb, isND_non, isND_int, isND_str, notND_non, notND_int, notND_str, lenD_s, lenD_l, lenD_r, lenD_t, lenD_c, min2D_ii, max2D_ii, intD_i, intD_b, strD_i, sumD_l, sumD_c, sumD_t, maxD_c, tupleD_l, tupleD_t, tupleD_c, listD_l, listD_t,
 ixD_l, ixD_r, ixD_t, ixD_s, ixD_c, slD_s, slD_l, slD_r, putIx_c, appendD_c, extendD_cl, isTy_c, isTy_s, isTy_l, iaddD, atI_0, atI_1, atI_2, atI_3, atI_4, low_int, low_str, low_bl, low_non, anyI_l, anyI_r, anyI_t, anyI_s, rng1I_i, rng2I_ii, ixN5, set_concat, get_concat, take_concat, len_concat, notInD_cs, inD_cs, sindexD_s, intD_s, tyN_s, tyN_i, tyN_b, tyN_n, tyN_t, tyN_l, tyIs_t, zipI_tt,
 startD, List.map_cons, List.map_nil, List.length_cons, List.length_nil, List.cons_append, List.nil_append, List.getElem?_cons_zero, List.getElem?_cons_succ, List.set_cons_zero, List.set_cons_succ, List.replicate_succ, List.replicate_zero, Option.bind_some, if_true, if_false, Bool.true_and, Bool.false_and, Bool.and_true, Bool.not_true, Bool.not_false, decide_true, decide_false, eq_self, Nat.zero_add, Nat.reduceAdd, Nat.reduceSub, reduceIte, reduceCtorEq, Int.reduceEq, Bool.false_eq_true, true_and, and_true, true_or, or_true, decide_eq_true_eq, e, leave_rt, fz_sk, List.take_length]
theorem op_andS {l m : List Int} {S : Sto} {g : D → D → Sto → R D} (hl : Rise l) : opO ([("Strokes", F_Strokes___and__)] : List (Str × DFun)) g (skO l) (skO m) S = .ok (skO (l.filter fun x => decide (x ∈ m))) S := by
  rw [op_sk okR_sk, and_sk hl]
section
variable {d e : D} {S : Sto}
theorem offs_no (h : NoN d) : F_row_offsets [d] S = .exc "BadNumber" ["number"] [d] S := by
  unfold F_row_offsets fnF g_row_offsets compG
  simp only [Bd, seqS, setS, retS, retN, dropS, ifS, forS, putS, augS, nxS, bkS, ctS, SR.seq_nx, SR.seq_rt, SR.seq_exc, SR.seq_bk, SR.seq_ct, SR.turn_nx, SR.turn_ct, SR.turn_bk, SR.turn_rt, SR.turn_exc, R.bind_ok, R.bind_bad, R.bind_exc, R.bindN_ok, R.st_ok, R.st_exc,
 varE, cE, binF, tstF, chnF, andB, orB, notB, andV, orV, notV, ifE, nilF, consF, tupF, lstF, ownF, negF, noO, someO, slF, callF, appF, isiF, mthF, itF, itA, nmG, nilG, consG, tupG, yesB, wipeD,
 addD_ii, addD_ss, addD_ll, subD_ii, mulD_ii, mulD_li, mulD_si, fdivD_ii, modD_ii, powD_10_18, ltD_ii, leD_ii, gtD_ii, geD_ii, gtD_ss, ltD_ss, eqD_ii, eqD_ss, eqD_bb, neD_ii, neD_ss, isBD_bb, isND_non, isND_int, isND_str, notND_non, notND_int, notND_str, lenD_s, lenD_l, lenD_r, lenD_t, lenD_c, min2D_ii, max2D_ii, intD_i, intD_b, strD_i, sumD_l, sumD_c, sumD_t, maxD_c, tupleD_l, tupleD_t, tupleD_c, listD_l, listD_t,
 ixD_l, ixD_r, ixD_t, ixD_s, ixD_c, slD_s, slD_l, slD_r, putIx_c, appendD_c, extendD_cl, isTy_c, isTy_s, isTy_l, iaddD, atI_0, atI_1, atI_2, atI_3, atI_4, low_int, low_str, low_bl, low_non, anyI_l, anyI_r, anyI_t, anyI_s, rng1I_i, rng2I_ii, ixN5, set_concat, get_concat, take_concat, len_concat, notInD_cs, inD_cs, sindexD_s, intD_s, tyN_s, tyN_i, tyN_b, tyN_n, tyN_t, tyN_l, tyIs_t, zipI_tt,
 startD, List.map_cons, List.map_nil, List.length_cons, List.length_nil, List.cons_append, List.nil_append, List.getElem?_cons_zero, List.getElem?_cons_succ, List.set_cons_zero, List.set_cons_succ, List.replicate_succ, List.replicate_zero, Option.bind_some, if_true, if_false, Bool.true_and, Bool.false_and, Bool.and_true, Bool.not_true, Bool.not_false, decide_true, decide_false, eq_self, Nat.zero_add, Nat.reduceAdd, Nat.reduceSub, reduceIte, reduceCtorEq, Int.reduceEq, Bool.false_eq_true, true_and, and_true, true_or, or_true, decide_eq_true_eq, row_no h, leave_exc, h.fr, List.take_length]
theorem strokes_no (h : NoN d) : F_strokes_of [d] S = .exc "BadNumber" ["number"] [d] S := by
  unfold F_strokes_of fnF g_strokes_of makeF argsF
  simp only [Bd, seqS, setS, retS, retN, dropS, ifS, forS, putS, augS, nxS, bkS, ctS, SR.seq_nx, SR.seq_rt, SR.seq_exc, SR.seq_bk, SR.seq_ct, SR.turn_nx, SR.turn_ct, SR.turn_bk, SR.turn_rt, SR.turn_exc, R.bind_ok, R.bind_bad, R.bind_exc, R.bindN_ok, R.st_ok, R.st_exc,
 varE, cE, binF, tstF, chnF, andB, orB, notB, andV, orV, notV, ifE, nilF, consF, tupF, lstF, ownF, negF, noO, someO, slF, callF, appF, isiF, mthF, itF, itA, nmG, nilG, consG, tupG, yesB, wipeD,
 addD_ii, addD_ss, addD_ll, subD_ii, mulD_ii, mulD_li, mulD_si, fdivD_ii, modD_ii, powD_10_18, ltD_ii, leD_ii, gtD_ii, geD_ii, gtD_ss, ltD_ss, eqD_ii, eqD_ss, eqD_bb, neD_ii, neD_ss, isBD_bb, isND_non, isND_int, isND_str, notND_non, notND_int, notND_str, lenD_s, lenD_l, lenD_r, lenD_t, lenD_c, min2D_ii, max2D_ii, intD_i, intD_b, strD_i, sumD_l, sumD_c, sumD_t, maxD_c, tupleD_l, tupleD_t, tupleD_c, listD_l, listD_t,
 ixD_l, ixD_r, ixD_t, ixD_s, ixD_c, slD_s, slD_l, slD_r, putIx_c, appendD_c, extendD_cl, isTy_c, isTy_s, isTy_l, iaddD, atI_0, atI_1, atI_2, atI_3, atI_4, low_int, low_str, low_bl, low_non, anyI_l, anyI_r, anyI_t, anyI_s, rng1I_i, rng2I_ii, ixN5, set_concat, get_concat, take_concat, len_concat, notInD_cs, inD_cs, sindexD_s, intD_s, tyN_s, tyN_i, tyN_b, tyN_n, tyN_t, tyN_l, tyIs_t, zipI_tt,
 startD, List.map_cons, List.map_nil, List.length_cons, List.length_nil, List.cons_append, List.nil_append, List.getElem?_cons_zero, List.getElem?_cons_succ, List.set_cons_zero, List.set_cons_succ, List.replicate_succ, List.replicate_zero, Option.bind_some, if_true, if_false, Bool.true_and, Bool.false_and, Bool.and_true, Bool.not_true, Bool.not_false, decide_true, decide_false, eq_self, Nat.zero_add, Nat.reduceAdd, Nat.reduceSub, reduceIte, reduceCtorEq, Int.reduceEq, Bool.false_eq_true, true_and, and_true, true_or, or_true, decide_eq_true_eq, offs_no h, leave_exc, h.fr, List.take_length]
theorem pattern_no (h : NoN d) : F_pattern [d, e] S = .exc "BadNumber" ["number"] [d] S := by
  unfold F_pattern fnF g_pattern
  simp only [Bd, seqS, setS, retS, retN, dropS, ifS, forS, putS, augS, nxS, bkS, ctS, SR.seq_nx, SR.seq_rt, SR.seq_exc, SR.seq_bk, SR.seq_ct, SR.turn_nx, SR.turn_ct, SR.turn_bk, SR.turn_rt, SR.turn_exc, R.bind_ok, R.bind_bad, R.bind_exc, R.bindN_ok, R.st_ok, R.st_exc,
 varE, cE, binF, tstF, chnF, andB, orB, notB, andV, orV, notV, ifE, nilF, consF, tupF, lstF, ownF, negF, noO, someO, slF, callF, appF, isiF, mthF, itF, itA, nmG, nilG, consG, tupG, yesB, wipeD,
 addD_ii, addD_ss, addD_ll, subD_ii, mulD_ii, mulD_li, mulD_si, fdivD_ii, modD_ii, powD_10_18, ltD_ii, leD_ii, gtD_ii, geD_ii, gtD_ss, ltD_ss, eqD_ii, eqD_ss, eqD_bb, neD_ii, neD_ss, isBD_bb, isND_non, isND_int, isND_str, notND_non, notND_int, notND_str, lenD_s, lenD_l, lenD_r, lenD_t, lenD_c, min2D_ii, max2D_ii, intD_i, intD_b, strD_i, sumD_l, sumD_c, sumD_t, maxD_c, tupleD_l, tupleD_t, tupleD_c, listD_l, listD_t,
 ixD_l, ixD_r, ixD_t, ixD_s, ixD_c, slD_s, slD_l, slD_r, putIx_c, appendD_c, extendD_cl, isTy_c, isTy_s, isTy_l, iaddD, atI_0, atI_1, atI_2, atI_3, atI_4, low_int, low_str, low_bl, low_non, anyI_l, anyI_r, anyI_t, anyI_s, rng1I_i, rng2I_ii, ixN5, set_concat, get_concat, take_concat, len_concat, notInD_cs, inD_cs, sindexD_s, intD_s, tyN_s, tyN_i, tyN_b, tyN_n, tyN_t, tyN_l, tyIs_t, zipI_tt,
 startD, List.map_cons, List.map_nil, List.length_cons, List.length_nil, List.cons_append, List.nil_append, List.getElem?_cons_zero, List.getElem?_cons_succ, List.set_cons_zero, List.set_cons_succ, List.replicate_succ, List.replicate_zero, Option.bind_some, if_true, if_false, Bool.true_and, Bool.false_and, Bool.and_true, Bool.not_true, Bool.not_false, decide_true, decide_false, eq_self, Nat.zero_add, Nat.reduceAdd, Nat.reduceSub, reduceIte, reduceCtorEq, Int.reduceEq, Bool.false_eq_true, true_and, and_true, true_or, or_true, decide_eq_true_eq, length_no h, leave_exc, h.fr, List.take_length]
end
theorem int_back (l : List Int) (h : ∀ x ∈ l, 0 ≤ x) (f : Int → Int) : (l.map fun x => f ((x.toNat : Nat) : Int)) = l.map f := List.map_congr_left fun x hx => by rw [Int.toNat_of_nonneg (h x hx)]
/-- [f(at) for at in range(len(row)) if row[at] == 1] -/
theorem comp_row {w : List Nat} (hw : IsNum w) {vs : List Nat} {r j : Nat} {ρ : Nv} {S : Sto} {fe : EF} (f : Int → Int) (h1 : ρ[r]? = some (some (.lst ((rowN w).map .int)))) (h2 : (wipeD ρ vs)[r]? = some (some (.lst ((rowN w).map .int)))) (hj : j < (wipeD ρ vs).length) (hrj : j ≠ r)
    (he : ∀ (i : Nat) (acc : List D), i < (rowN w).length → fe ((wipeD ρ vs).set j (some (.int (0 + (i : Nat))))) (S ++ [.lst acc]) = .ok (.int (f (i : Nat))) (S ++ [.lst acc])) :
    compG finF vs (itA rng1I (consF (appF lenD (consF (varE r) nilF)) nilF)) (nmG j) (tstF (binF eqD (binF ixD (varE r) (varE j)) (cE (.int 1)))) fe ρ S = .ok (.lst (((offs w).map f).map .int)) S := by
  have few := row_few hw
  have br : -(2 ^ 62) ≤ (((rowN w).length : Nat) : Int) ∧ (((rowN w).length : Nat) : Int) < 2 ^ 62 := by omega
  have hv : varE r ρ S = .ok (.lst ((rowN w).map .int)) S := by unfold varE; rw [h1]
  have hi : itA rng1I (consF (appF lenD (consF (varE r) nilF)) nilF) ρ S = .ok ((List.range (rowN w).length).map fun k => D.int (0 + (k : Nat))) S := by
    simp only [itA, consF, appF, nilF, hv, R.bind_ok, lenD_l, List.length_map, rng1I_i, Bd, br, true_and, if_true, Int.toNat_natCast]
  have c := compF_map (vs := vs) (g := nmG j) (t := tstF (binF eqD (binF ixD (varE r) (varE j)) (cE (.int 1)))) (fe := fe) (fun d => match d with | .int i => decide ((rowN w)[i.toNat]? = some 1) | _ => false) (fun d => match d with | .int i => .int (f i) | d => d) hi (sizeLine_big (by simp; omega)) (fun d hd acc => by
    obtain ⟨i, hi, rfl⟩ := List.mem_map.mp hd
    have hi := List.mem_range.mp hi
    refine ⟨(wipeD ρ vs).set j (some (.int (0 + (i : Nat)))), rfl, ?_, fun _ => ⟨?_, rfl⟩⟩
    · have v1 : varE r ((wipeD ρ vs).set j (some (.int (0 + (i : Nat))))) (S ++ [.lst acc]) = .ok (.lst ((rowN w).map .int)) (S ++ [.lst acc]) := by unfold varE; rw [List.getElem?_set_ne hrj, h2]
      have v2 : varE j ((wipeD ρ vs).set j (some (.int (0 + (i : Nat))))) (S ++ [.lst acc]) = .ok (.int (0 + (i : Nat))) (S ++ [.lst acc]) := by unfold varE; rw [List.getElem?_set_self hj]
      have at_ : atI ((rowN w).map D.int) (0 + (i : Nat) : Int) = some (.int ((rowN w)[i]'hi)) := by rw [Int.zero_add]; exact atI_nat (by rw [List.getElem?_map, List.getElem?_eq_getElem hi]; rfl)
      simp only [tstF, binF, cE, v1, v2, R.bind_ok, ixD_l, at_, eqD_ii]
      rw [Int.zero_add, Int.toNat_natCast, List.getElem?_eq_getElem hi]
      simp
    · rw [he i acc hi]
      show R.ok (D.int _) _ = R.ok (D.int _) _
      rw [Int.zero_add])
  rw [c]
  congr 2
  have ro := range_ones (rowN w) 0 [] rfl (fun k => decide ((rowN w)[k]? = some 1)) (fun k => f (k : Nat)) fun k => rfl
  rw [Nat.zero_add, List.drop_zero] at ro
  have ib := int_back (offs w) (fun x hx => (offs_in hx).1) f
  unfold offs at ib ⊢
  rw [← ib, ← ro, List.filter_map, List.map_map, List.map_map]
  have q : ((fun d => match d with | .int i => decide ((rowN w)[i.toNat]? = some 1) | _ => false) ∘ fun k : Nat => D.int (0 + (k : Nat))) = fun k : Nat => decide ((rowN w)[k]? = some 1) := by
    funext k
    show decide ((rowN w)[(0 + (k : Nat) : Int).toNat]? = some 1) = _
    rw [Int.zero_add, Int.toNat_natCast]
  rw [q]
  apply List.map_congr_left
  intro k _
  show D.int _ = D.int _
  rw [Int.zero_add]
end Zd

set_option Elab.async false
set_option linter.all false
set_option maxRecDepth 100000
set_option maxHeartbeats 4000000
namespace Pr
open PySem PySem.Spec L2 Zd
open PyProof.Rows hiding St
def top (i : Nat) : Stmt := PySem.Challenge.pw_wheelchorus_k05_patterns_tick_by_tick.main.body.getD i (.Pass ⟨0, 0, 0, 0⟩)
/-- what the module's names hold -/
structure Txt (K : PySem.W.Frag) (mg : Str → Option Value) : Prop where
  b_bool : mg "bool" = none
  b_enumerate : mg "enumerate" = none
  b_int : mg "int" = none
  b_isinstance : mg "isinstance" = none
  b_iter : mg "iter" = none
  b_len : mg "len" = none
  b_list : mg "list" = none
  b_min : mg "min" = none
  b_range : mg "range" = none
  b_repr : mg "repr" = none
  b_set : mg "set" = none
  b_sorted : mg "sorted" = none
  b_str : mg "str" = none
  b_sum : mg "sum" = none
  b_tuple : mg "tuple" = none
  c_DIGITS : ∃ u, mg "DIGITS" = some u ∧ RelV (.str "123456789") u
  c_MOST_DIGITS : ∃ u, mg "MOST_DIGITS" = some u ∧ RelV (.int 4) u
  c_MOST_STROKES : ∃ u, mg "MOST_STROKES" = some u ∧ RelV (.int 24) u
  n_BadNumber : ∃ H, mg "BadNumber" = some (.ref H) ∧ ∀ (c : Str) (b : Bool) (C : Addr), ([("BadOffset", false), ("BadNumber", true)] : List (Str × Bool)).lookup c = some b → mg c = some (.ref C) → PySem.W.exmOne K (.ref C) (.ref H) = some b
  f_number : ∀ (c : Str) (C : Addr), c ∈ (["BadNumber"] : List Str) → mg c = some (.ref C) → XfC K C ∧ PySem.W.findIn K (.ref C) "number" = some none
  bs_WheelError : ∃ B, mg "WheelError" = some (.ref B) ∧ Bas K B
  at_known_Strokes : ∀ (c : Str) (C : Addr), c ∈ (["Strokes"] : List Str) → mg c = some (.ref C) → Cls K C ∧ NoAttr K C "known"
  at_offsets_Strokes : ∀ (c : Str) (C : Addr), c ∈ (["Strokes"] : List Str) → mg c = some (.ref C) → Cls K C ∧ NoAttr K C "offsets"
  io_Strokes__Strokes : ∃ CC, mg "Strokes" = some (.ref CC) ∧ (∀ (c : Str) (b : Bool) (C : Addr), ([("Strokes", true)] : List (Str × Bool)).lookup c = some b → mg c = some (.ref C) → InsC K C ∧ PySem.W.kitOne K (.ref C) (.ref CC) = some b) ∧ ∀ t ∈ ["NoneType", "bool", "int", "str", "tuple", "list", "dict"], PySem.W.kitOne K (.type t) (.ref CC) = some false

/-! is_whole: 0 thing -/
abbrev st_is_whole : Stmt := top 14
theorem sc_is_whole : FnScope ["thing"] ["thing"] (defScope st_is_whole) := ⟨rfl, rfl, rfl, by decide +kernel, rfl, by decide +kernel, by decide +kernel⟩

/-! check_offset: 0 thing -/
abbrev st_check_offset : Stmt := top 16
theorem sc_check_offset : FnScope ["thing"] ["thing"] (defScope st_check_offset) := ⟨rfl, rfl, rfl, by decide +kernel, rfl, by decide +kernel, by decide +kernel⟩

/-! Strokes___init__: 0 self, 1 offsets, 2 offset -/
abbrev st_Strokes___init__ : Stmt := inClass (top 17) 0
theorem sc_Strokes___init__ : FnScope ["self", "offsets", "offset"] ["self", "offsets"] (defScope st_Strokes___init__) := ⟨rfl, rfl, rfl, by decide +kernel, rfl, by decide +kernel, by decide +kernel⟩

/-! Strokes___and__: 0 self, 1 other, 2 offset -/
abbrev st_Strokes___and__ : Stmt := inClass (top 17) 6
theorem sc_Strokes___and__ : FnScope ["self", "other", "offset"] ["self", "other"] (defScope st_Strokes___and__) := ⟨rfl, rfl, rfl, by decide +kernel, rfl, by decide +kernel, by decide +kernel⟩

/-! Strokes___len__: 0 self -/
abbrev st_Strokes___len__ : Stmt := inClass (top 17) 2
theorem sc_Strokes___len__ : FnScope ["self"] ["self"] (defScope st_Strokes___len__) := ⟨rfl, rfl, rfl, by decide +kernel, rfl, by decide +kernel, by decide +kernel⟩

/-! Strokes___or__: 0 self, 1 other -/
abbrev st_Strokes___or__ : Stmt := inClass (top 17) 5
theorem sc_Strokes___or__ : FnScope ["self", "other"] ["self", "other"] (defScope st_Strokes___or__) := ⟨rfl, rfl, rfl, by decide +kernel, rfl, by decide +kernel, by decide +kernel⟩

/-! is_number: 0 thing, 1 total, 2 sign -/
abbrev st_is_number : Stmt := top 9
theorem sc_is_number : FnScope ["thing", "total", "sign"] ["thing"] (defScope st_is_number) := ⟨rfl, rfl, rfl, by decide +kernel, rfl, by decide +kernel, by decide +kernel⟩

/-! check_number: 0 thing -/
abbrev st_check_number : Stmt := top 10
theorem sc_check_number : FnScope ["thing"] ["thing"] (defScope st_check_number) := ⟨rfl, rfl, rfl, by decide +kernel, rfl, by decide +kernel, by decide +kernel⟩

/-! blocks: 0 number, 1 sign -/
abbrev st_blocks : Stmt := top 11
theorem sc_blocks : FnScope ["number", "sign"] ["number"] (defScope st_blocks) := ⟨rfl, rfl, rfl, by decide +kernel, rfl, by decide +kernel, by decide +kernel⟩

/-! row_of: 0 number, 1 row, 2 size -/
abbrev st_row_of : Stmt := top 12
theorem sc_row_of : FnScope ["number", "row", "size"] ["number"] (defScope st_row_of) := ⟨rfl, rfl, rfl, by decide +kernel, rfl, by decide +kernel, by decide +kernel⟩

/-! row_offsets: 0 number, 1 offset, 2 sign -/
abbrev st_row_offsets : Stmt := top 18
theorem sc_row_offsets : FnScope ["number", "offset", "sign"] ["number"] (defScope st_row_offsets) := ⟨rfl, rfl, rfl, by decide +kernel, rfl, by decide +kernel, by decide +kernel⟩

/-! length_of: 0 number, 1 sizes -/
abbrev st_length_of : Stmt := top 13
theorem sc_length_of : FnScope ["number", "sizes"] ["number"] (defScope st_length_of) := ⟨rfl, rfl, rfl, by decide +kernel, rfl, by decide +kernel, by decide +kernel⟩

/-! pattern: 0 number, 1 times, 2 length, 3 offsets, 4 again, 5 offset -/
abbrev st_pattern : Stmt := top 20
theorem sc_pattern : FnScope ["number", "times", "length", "offsets", "again", "offset"] ["number", "times"] (defScope st_pattern) := ⟨rfl, rfl, rfl, by decide +kernel, rfl, by decide +kernel, by decide +kernel⟩

/-! Strokes___eq__: 0 self, 1 other -/
abbrev st_Strokes___eq__ : Stmt := inClass (top 17) 4
theorem sc_Strokes___eq__ : FnScope ["self", "other"] ["self", "other"] (defScope st_Strokes___eq__) := ⟨rfl, rfl, rfl, by decide +kernel, rfl, by decide +kernel, by decide +kernel⟩

/-! Strokes___rshift__: 0 self, 1 ticks, 2 offset -/
abbrev st_Strokes___rshift__ : Stmt := inClass (top 17) 8
theorem sc_Strokes___rshift__ : FnScope ["self", "ticks", "offset"] ["self", "ticks"] (defScope st_Strokes___rshift__) := ⟨rfl, rfl, rfl, by decide +kernel, rfl, by decide +kernel, by decide +kernel⟩

/-! strokes_of: 0 number -/
abbrev st_strokes_of : Stmt := top 19
theorem sc_strokes_of : FnScope ["number"] ["number"] (defScope st_strokes_of) := ⟨rfl, rfl, rfl, by decide +kernel, rfl, by decide +kernel, by decide +kernel⟩

/-! _law_row: 0 number, 1 row, 2 sign -/
abbrev st__law_row : Stmt := top 25
theorem sc__law_row : FnScope ["number", "row", "sign"] ["number"] (defScope st__law_row) := ⟨rfl, rfl, rfl, by decide +kernel, rfl, by decide +kernel, by decide +kernel⟩

/-! _law_asked: 0 number, 1 many, 2 extra, 3 row, 4 due, 5 k, 6 told, 7 single, 8 more, 9 at -/
abbrev st__law_asked : Stmt := top 27
noncomputable def g__law_asked : SF := (seqS (setS 3 (callF 1 F__law_row (consF (varE 0) nilF)))
  (seqS (setS 4 (lstF nilF))
  (seqS (forS (itA rng1I (consF (varE 1) nilF)) (nmG 5) (setS 4 (binF addD (varE 4) (compG finF [9] (itA rng1I (consF (appF lenD (consF (varE 3) nilF)) nilF)) (nmG 9) (tstF (binF eqD (binF ixD (varE 3) (varE 9)) (cE (.int 1)))) (binF addD (binF mulD (varE 5) (appF lenD (consF (varE 3) nilF))) (varE 9))))))
  (seqS (setS 6 (callKF 1 1 2 (fun ds es => ds ++ es) F_pattern (consF (varE 0) nilF) (consF (varE 1) nilF)))
  (seqS (ifS (orB (notB (tstF (isOF ([("Strokes", true)] : List (Str × Bool)) (varE 6)))) (tstF (binF neD (appF (listO ([("Strokes", "offsets", F_Strokes___len__)] : List (Str × Str × DFun)) listD) (consF (varE 6) nilF)) (varE 4)))) (retS (cE (.bl false))) nxS)
  (seqS (ifS (tstF (binF (neO ([("Strokes", F_Strokes___eq__)] : List (Str × DFun)) neD) (callKF 2 0 2 (fun ds _ => ds ++ []) F_pattern (consF (varE 0) (consF (varE 1) nilF)) nilF) (varE 6))) (retS (cE (.bl false))) nxS)
  (seqS (setS 7 (callF 1 F_strokes_of (consF (varE 0) nilF)))
  (seqS (ifS (orB (notB (tstF (isOF ([("Strokes", true)] : List (Str × Bool)) (varE 7)))) (tstF (binF neD (appF (listO ([("Strokes", "offsets", F_Strokes___len__)] : List (Str × Str × DFun)) listD) (consF (varE 7) nilF)) (compG finF [9] (itA rng1I (consF (appF lenD (consF (varE 3) nilF)) nilF)) (nmG 9) (tstF (binF eqD (binF ixD (varE 3) (varE 9)) (cE (.int 1)))) (varE 9))))) (retS (cE (.bl false))) nxS)
  (seqS (ifS (orB (tstF (binF (neO ([("Strokes", F_Strokes___eq__)] : List (Str × DFun)) neD) (callKF 1 0 2 (fun ds _ => ds ++ [.int 1]) F_pattern (consF (varE 0) nilF) nilF) (varE 7))) (tstF (binF (neO ([("Strokes", F_Strokes___eq__)] : List (Str × DFun)) neD) (callKF 1 1 2 (fun ds es => ds ++ es) F_pattern (consF (varE 0) nilF) (consF (cE (.int 1)) nilF)) (varE 7)))) (retS (cE (.bl false))) nxS)
  (seqS (setS 8 (binF (opO ([("Strokes", F_Strokes___rshift__)] : List (Str × DFun)) badO) (callKF 1 1 2 (fun ds es => ds ++ es) F_pattern (consF (varE 0) nilF) (consF (varE 2) nilF)) (binF mulD (varE 1) (appF lenD (consF (varE 3) nilF)))))
  (seqS (ifS (andB (tstF (binF leD (binF addD (varE 1) (varE 2)) (cE (.int 20)))) (tstF (binF (neO ([("Strokes", F_Strokes___eq__)] : List (Str × DFun)) neD) (binF (opO ([("Strokes", F_Strokes___or__)] : List (Str × DFun)) badO) (varE 6) (varE 8)) (callKF 1 1 2 (fun ds es => ds ++ es) F_pattern (consF (varE 0) nilF) (consF (binF addD (varE 1) (varE 2)) nilF))))) (retS (cE (.bl false))) nxS)
  (retS (binF eqD (appF (listO ([("Strokes", "offsets", F_Strokes___len__)] : List (Str × Str × DFun)) listD) (consF (binF (opO ([("Strokes", F_Strokes___and__)] : List (Str × DFun)) badO) (varE 6) (varE 8)) nilF)) (lstF nilF))))))))))))))
noncomputable def F__law_asked : DFun := fnF 10 g__law_asked
theorem sc__law_asked : FnScope ["number", "many", "extra", "row", "due", "k", "told", "single", "more", "at"] ["number", "many", "extra"] (defScope st__law_asked) := ⟨rfl, rfl, rfl, by decide +kernel, rfl, by decide +kernel, by decide +kernel⟩

/-! _law_refused: 0 odd, 1 many, 2 told, 3 e -/
abbrev st__law_refused : Stmt := top 28
noncomputable def g__law_refused : SF := (seqS (setS 2 (ownF nilF))
  (seqS (tryS [("BadOffset", false), ("BadNumber", true)] 3 (dropS (callF 1 F_strokes_of (consF (varE 0) nilF))) (dropS (mthF "list" appendD (varE 2) (consF (appF reprD (consF (xfF ["BadNumber"] "number" (varE 3)) nilF)) nilF))))
  (seqS (tryS [("BadOffset", false), ("BadNumber", true)] 3 (dropS (callKF 1 1 2 (fun ds es => ds ++ es) F_pattern (consF (varE 0) nilF) (consF (varE 1) nilF))) (dropS (mthF "list" appendD (varE 2) (consF (appF reprD (consF (xfF ["BadNumber"] "number" (varE 3)) nilF)) nilF))))
  (seqS (tryS [("BadOffset", false), ("BadNumber", true)] 3 (dropS (callKF 1 0 2 (fun ds _ => ds ++ [.int 1]) F_pattern (consF (varE 0) nilF) nilF)) (dropS (mthF "list" appendD (varE 2) (consF (appF reprD (consF (xfF ["BadNumber"] "number" (varE 3)) nilF)) nilF))))
  (retS (varE 2))))))
noncomputable def F__law_refused : DFun := fnF 4 g__law_refused
theorem sc__law_refused : FnScope ["odd", "many", "told", "e"] ["odd", "many"] (defScope st__law_refused) := ⟨rfl, rfl, rfl, by decide +kernel, rfl, by decide +kernel, by decide +kernel⟩

/-! _law_draw: 0 bag, 1 limit, 2 digit -/
abbrev st__law_draw : Stmt := top 23
theorem sc__law_draw : FnScope ["bag", "limit", "digit"] ["bag", "limit"] (defScope st__law_draw) := ⟨rfl, rfl, rfl, by decide +kernel, rfl, by decide +kernel, by decide +kernel⟩

/-! _law_times: 0 bag -/
abbrev st__law_times : Stmt := top 26
noncomputable def g__law_times : SF := (retS (callF 2 F__law_draw (consF (varE 0) (consF (binF ixD (lstF (consF (cE (.int 4)) (consF (cE (.int 4)) (consF (cE (.int 21)) nilF)))) (callF 2 F__law_draw (consF (varE 0) (consF (cE (.int 3)) nilF)))) nilF))))
noncomputable def F__law_times : DFun := fnF 1 g__law_times
theorem sc__law_times : FnScope ["bag"] ["bag"] (defScope st__law_times) := ⟨rfl, rfl, rfl, by decide +kernel, rfl, by decide +kernel, by decide +kernel⟩

/-! _law_number: 0 bag, 1 many, 2 way, 3 top, 4 word, 5 left, 6 k, 7 digit -/
abbrev st__law_number : Stmt := top 24
theorem sc__law_number : FnScope ["bag", "many", "way", "top", "word", "left", "k", "digit"] ["bag"] (defScope st__law_number) := ⟨rfl, rfl, rfl, by decide +kernel, rfl, by decide +kernel, by decide +kernel⟩

/-! _law_bag: 0 script, 1 cells, 2 cell -/
abbrev st__law_bag : Stmt := top 22
theorem sc__law_bag : FnScope ["script", "cells", "cell"] ["script"] (defScope st__law_bag) := ⟨rfl, rfl, rfl, by decide +kernel, rfl, by decide +kernel, by decide +kernel⟩

/-! law: 0 script, 1 bag, 2 one, 3 other, 4 first, 5 second, 6 third, 7 odd -/
abbrev st_law : Stmt := top 29
noncomputable def g_law : SF := (seqS (setS 1 (callF 1 F__law_bag (consF (varE 0) nilF)))
  (seqS (setS 2 (callF 1 F__law_number (consF (varE 1) nilF)))
  (seqS (setS 3 (callF 1 F__law_number (consF (varE 1) nilF)))
  (seqS (setS 4 (callF 1 F__law_times (consF (varE 1) nilF)))
  (seqS (setS 5 (callF 1 F__law_times (consF (varE 1) nilF)))
  (seqS (setS 6 (callF 1 F__law_times (consF (varE 1) nilF)))
  (seqS (setS 7 (binF ixD (lstF (consF (cE (.str "")) (consF (cE (.str "0")) (consF (cE (.str "55555")) (consF (cE (.str "9996")) (consF (cE .non) (consF (cE (.int 24)) (consF (cE (.str "2 4")) (consF (lstF (consF (varE 2) nilF)) (consF (cE (.bl true)) nilF)))))))))) (callF 2 F__law_draw (consF (varE 1) (consF (cE (.int 9)) nilF)))))
  (seqS (ifS (tstF (binF neD (callF 2 F__law_refused (consF (varE 7) (consF (varE 6) nilF))) (lstF (consF (appF reprD (consF (varE 7) nilF)) (consF (appF reprD (consF (varE 7) nilF)) (consF (appF reprD (consF (varE 7) nilF)) nilF)))))) (retS (cE (.bl false))) nxS)
  (retS (andV (callF 3 F__law_asked (consF (varE 2) (consF (varE 4) (consF (varE 5) nilF)))) (callF 3 F__law_asked (consF (varE 3) (consF (varE 6) (consF (varE 4) nilF))))))))))))))
noncomputable def F_law : DFun := fnF 8 g_law
theorem sc_law : FnScope ["script", "bag", "one", "other", "first", "second", "third", "odd"] ["script"] (defScope st_law) := ⟨rfl, rfl, rfl, by decide +kernel, rfl, by decide +kernel, by decide +kernel⟩

abbrev st_Strokes___iter__ : Stmt := inClass (top 17) 1
theorem sc_Strokes___iter__ : FnScope ["self"] ["self"] (defScope st_Strokes___iter__) := ⟨rfl, rfl, rfl, by decide +kernel, rfl, by decide +kernel, by decide +kernel⟩

abbrev st_BadOffset : Stmt := inClass (top 4) 0
theorem sc_BadOffset : FnScope ["self", "offset"] ["self", "offset"] (defScope st_BadOffset) := ⟨rfl, rfl, rfl, by decide +kernel, rfl, by decide +kernel, by decide +kernel⟩
theorem xi_BadOffset {P : Program} {w : World} {K : PySem.W.Frag} {mg : Str → Option Value} {base : Heap} (T : Txt K mg) {f : Addr} {fd : FuncData} (F : Fun K "__init__" "BadOffset.__init__" st_BadOffset f fd) :
    FnOk P w K mg base (L2.CX P w) 1 f fd ["self", "offset"] (spXi K ["offset"]) :=
  F.okX sc_BadOffset (fun vs H Q E h => xi_len h) fun cdv A outer s H vs Q E hr h => ⟨_, (pss_cons (ps_expr (pe_baseinit rfl T.bs_WheelError.choose_spec.1 T.bs_WheelError.choose_spec.2 (pa_cons (pe_var (i := 0) rfl (by first | exact Or.inl rfl | exact Or.inr (Or.inl rfl) | exact Or.inr (Or.inr rfl))) (pa_cons pe_str pa_nil)))) (pss_one (ps_ost (pe_var (i := 0) rfl (by first | exact Or.inl rfl | exact Or.inr (Or.inl rfl) | exact Or.inr (Or.inr rfl))) (pe_var (i := 1) rfl (by first | exact Or.inl rfl | exact Or.inr (Or.inl rfl) | exact Or.inr (Or.inr rfl)))))), sh_b1 h⟩
abbrev st_BadNumber : Stmt := inClass (top 3) 0
theorem sc_BadNumber : FnScope ["self", "number"] ["self", "number"] (defScope st_BadNumber) := ⟨rfl, rfl, rfl, by decide +kernel, rfl, by decide +kernel, by decide +kernel⟩
theorem xi_BadNumber {P : Program} {w : World} {K : PySem.W.Frag} {mg : Str → Option Value} {base : Heap} (T : Txt K mg) {f : Addr} {fd : FuncData} (F : Fun K "__init__" "BadNumber.__init__" st_BadNumber f fd) :
    FnOk P w K mg base (L2.CX P w) 1 f fd ["self", "number"] (spXi K ["number"]) :=
  F.okX sc_BadNumber (fun vs H Q E h => xi_len h) fun cdv A outer s H vs Q E hr h => ⟨_, (pss_cons (ps_expr (pe_baseinit rfl T.bs_WheelError.choose_spec.1 T.bs_WheelError.choose_spec.2 (pa_cons (pe_var (i := 0) rfl (by first | exact Or.inl rfl | exact Or.inr (Or.inl rfl) | exact Or.inr (Or.inr rfl))) (pa_cons pe_str pa_nil)))) (pss_one (ps_ost (pe_var (i := 0) rfl (by first | exact Or.inl rfl | exact Or.inr (Or.inl rfl) | exact Or.inr (Or.inr rfl))) (pe_var (i := 1) rfl (by first | exact Or.inl rfl | exact Or.inr (Or.inl rfl) | exact Or.inr (Or.inr rfl)))))), sh_b1 h⟩
theorem fn_is_whole {P : Program} {w : World} {K : PySem.W.Frag} {mg : Str → Option Value} {base : Heap} (T : Txt K mg) {dvs : List V} {kws : List (Str × V)} {f : Addr} {fd : FuncData} (F : FunX K "is_whole" "is_whole" st_is_whole dvs kws f fd) :
    FnG P w K mg base 1 f fd ["thing"] (spD ⟨K, mg, none⟩ F_is_whole 1) :=
  have sc := sc_is_whole
  fn_okX (ps := ["thing"]) F sc (.inl rfl) fun cdv A outer s H E hr tk po gd => by
    unfold g_is_whole
    exact (dss_one (ds_ret (d_andV (d_isi rfl T.b_isinstance (dv 0) rfl T.b_int PyProof.Rows.boot_int) (d_one (d_notV (d_isi rfl T.b_isinstance (dv 0) rfl T.b_bool PyProof.Rows.boot_bool))))))

theorem fn_check_offset {P : Program} {w : World} {K : PySem.W.Frag} {mg : Str → Option Value} {base : Heap} (T : Txt K mg) {dvs : List V} {kws : List (Str × V)} {f : Addr} {fd : FuncData} (F : FunX K "check_offset" "check_offset" st_check_offset dvs kws f fd) (h_is_whole : KG P w K mg base "is_whole" 1 F_is_whole 1) (x_BadOffset : XK' P w K mg base "BadOffset" ["offset"] 1) :
    FnG P w K mg base 3 f fd ["thing"] (spD ⟨K, mg, none⟩ F_check_offset 1) :=
  have sc := sc_check_offset
  fn_okX (ps := ["thing"]) F sc (.inl rfl) fun cdv A outer s H E hr tk po gd => by
    unfold g_check_offset
    exact (dss_one (ds_if (dw_t (dw_or (d_not (d_val (d_callG h_is_whole (hr.mono (by decide)) (by exact gd) tk rfl (da_cons (dv 0) da_nil)))) (dw_or1 (d_cmpT op_ltD s_lt (dv 0) d_int (nomark _))))) (dss_one (ds_raise rfl x_BadOffset (hr.mono (by decide)) tk rfl (da_cons (dv 0) da_nil))) dss_nil))

theorem fn_Strokes___init__ {P : Program} {w : World} {K : PySem.W.Frag} {mg : Str → Option Value} {base : Heap} (T : Txt K mg) {dvs : List V} {kws : List (Str × V)} {f : Addr} {fd : FuncData} (F : FunX K "__init__" "Strokes.__init__" st_Strokes___init__ dvs kws f fd) (h_check_offset : KG P w K mg base "check_offset" 1 F_check_offset 3) :
    FnG P w K mg base 4 f fd ["self", "offsets"] (spD ⟨K, mg, none⟩ F_Strokes___init__ 2) :=
  have sc := sc_Strokes___init__
  fn_okX (ps := ["self", "offsets"]) F sc (.inl rfl) fun cdv A outer s H E hr tk po gd => by
    unfold g_Strokes___init__
    exact (dss_cons (ds_for po rfl (di_any (dv 1)) (dg_name (i := 2) sc.nd rfl (by first | exact Or.inl rfl | exact Or.inr rfl)) (dss_one (ds_expr (d_callG h_check_offset (hr.mono (by decide)) (by exact gd) tk rfl (da_cons (dv 2) da_nil)))))
  (dss_cons (ds_fst T.at_offsets_Strokes (dv 0) (d_callTy call_tuple_of s_tuple rfl T.b_tuple PyProof.Rows.boot_tuple (da_cons (d_sset rfl rfl T.b_sorted rfl T.b_set (dv 1)) da_nil)))
  (dss_one (ds_fst T.at_known_Strokes (dv 0) (d_dcomp (own := [("offset", 2)]) (is := [2]) (fin_Dc _) rfl sc.nd (di_any (d_fld T.at_offsets_Strokes (dv 0))) (blkOk_by (N := ["self", "offsets", "offset"]) (sc := defScope st_Strokes___init__) (by decide +kernel)) (by decide) (fun _ _ _ _ _ => (dg_name (i := 2) sc.nd rfl (by first | exact Or.inl rfl | exact Or.inr rfl))) (fun _ _ _ _ _ => dts_nil) (fun _ _ _ _ _ => (dv 2)) (fun _ _ _ _ _ => d_bl))))))

theorem fn_Strokes___and__ {P : Program} {w : World} {K : PySem.W.Frag} {mg : Str → Option Value} {base : Heap} (T : Txt K mg) {dvs : List V} {kws : List (Str × V)} {f : Addr} {fd : FuncData} (F : FunX K "__and__" "Strokes.__and__" st_Strokes___and__ dvs kws f fd) (m_Strokes_s1 : KC P w K mg base "Strokes" 1 [] (fun ds _ => ds ++ []) 2 F_Strokes___init__ 4) :
    FnG P w K mg base 6 f fd ["self", "other"] (spD ⟨K, mg, none⟩ F_Strokes___and__ 2) :=
  have sc := sc_Strokes___and__
  fn_okX (ps := ["self", "other"]) F sc (.inl rfl) fun cdv A outer s H E hr tk po gd => by
    unfold g_Strokes___and__
    exact (dss_one (ds_ret (d_make m_Strokes_s1 (hr.mono (by decide)) (by exact gd) tk rfl (da_cons (d_comp (own := [("offset", 2)]) (is := [2]) (fin_F _) rfl sc.nd (di_any (d_fld T.at_offsets_Strokes (dv 0))) (blkOk_by (N := ["self", "other", "offset"]) (sc := defScope st_Strokes___and__) (by decide +kernel)) (by decide) (fun _ _ _ _ _ => (dg_name (i := 2) sc.nd rfl (by first | exact Or.inl rfl | exact Or.inr rfl))) (fun _ _ _ _ _ => (dts_one (d_cmpTS (in_Dc (neg := false) (have q := hu_of hr; q) (ops_of op_inD s_in)) (dv 2) (d_fld T.at_known_Strokes (dv 1)) (by rfl)))) (fun _ _ _ _ _ => (dv 2))) da_nil) dk_nil)))

theorem fn_Strokes___len__ {P : Program} {w : World} {K : PySem.W.Frag} {mg : Str → Option Value} {base : Heap} (T : Txt K mg) {dvs : List V} {kws : List (Str × V)} {f : Addr} {fd : FuncData} (F : FunX K "__len__" "Strokes.__len__" st_Strokes___len__ dvs kws f fd) :
    FnG P w K mg base 1 f fd ["self"] (spD ⟨K, mg, none⟩ F_Strokes___len__ 1) :=
  have sc := sc_Strokes___len__
  fn_okX (ps := ["self"]) F sc (.inl rfl) fun cdv A outer s H E hr tk po gd => by
    unfold g_Strokes___len__
    exact (dss_one (ds_ret (d_callB call_len s_len rfl T.b_len PySem.boot_len (da_cons (d_fld T.at_offsets_Strokes (dv 0)) da_nil))))

theorem fn_Strokes___or__ {P : Program} {w : World} {K : PySem.W.Frag} {mg : Str → Option Value} {base : Heap} (T : Txt K mg) {dvs : List V} {kws : List (Str × V)} {f : Addr} {fd : FuncData} (F : FunX K "__or__" "Strokes.__or__" st_Strokes___or__ dvs kws f fd) (m_Strokes_s1 : KC P w K mg base "Strokes" 1 [] (fun ds _ => ds ++ []) 2 F_Strokes___init__ 4) :
    FnG P w K mg base 6 f fd ["self", "other"] (spD ⟨K, mg, none⟩ F_Strokes___or__ 2) :=
  have sc := sc_Strokes___or__
  fn_okX (ps := ["self", "other"]) F sc (.inl rfl) fun cdv A outer s H E hr tk po gd => by
    unfold g_Strokes___or__
    exact (dss_one (ds_ret (d_make m_Strokes_s1 (hr.mono (by decide)) (by exact gd) tk rfl (da_cons (d_op op_addD s_add (d_fld T.at_offsets_Strokes (dv 0)) (d_fld T.at_offsets_Strokes (dv 1))) da_nil) dk_nil)))

theorem fn_is_number {P : Program} {w : World} {K : PySem.W.Frag} {mg : Str → Option Value} {base : Heap} (T : Txt K mg) {dvs : List V} {kws : List (Str × V)} {f : Addr} {fd : FuncData} (F : FunX K "is_number" "is_number" st_is_number dvs kws f fd) :
    FnG P w K mg base 1 f fd ["thing"] (spD ⟨K, mg, none⟩ F_is_number 1) :=
  have sc := sc_is_number
  fn_okX (ps := ["thing"]) F sc (.inl rfl) fun cdv A outer s H E hr tk po gd => by
    unfold g_is_number
    exact (dss_cons (ds_if (dw_t (dw_or (d_not (d_val (d_isi rfl T.b_isinstance (dv 0) rfl T.b_str PyProof.Rows.boot_str))) (dw_or1 (d_not (d_chnT op_leD op_leD s_le s_le d_int (d_callB call_len s_len rfl T.b_len PySem.boot_len (da_cons (dv 0) da_nil)) (d_globE T.c_MOST_DIGITS rfl fun _ _ _ => .int _)))))) (dss_one (ds_ret d_bl)) dss_nil)
  (dss_cons (ds_set (i := 1) sc.nd rfl (by first | exact Or.inl rfl | exact Or.inr rfl) d_int)
  (dss_cons (ds_for po rfl (di_any (dv 0)) (dg_name (i := 2) sc.nd rfl (by first | exact Or.inl rfl | exact Or.inr rfl)) (dss_cons (ds_if (d_cmpT op_notInD s_notIn (dv 2) (d_globE T.c_DIGITS rfl fun _ _ _ => .str _) (by rfl)) (dss_one (ds_ret d_bl)) dss_nil)
  (dss_one (ds_aug (i := 1) sc.nd rfl (by first | exact Or.inl rfl | exact Or.inr rfl) (d_op op_addD s_add (d_sindex rfl tk (d_globE T.c_DIGITS rfl fun _ _ _ => .str _) (da_cons (dv 2) da_nil)) d_int) op_iaddD s_iadd))))
  (dss_one (ds_ret (d_cmp op_leD s_le (dv 1) (d_globE T.c_MOST_STROKES rfl fun _ _ _ => .int _) (nomark _)))))))

theorem fn_check_number {P : Program} {w : World} {K : PySem.W.Frag} {mg : Str → Option Value} {base : Heap} (T : Txt K mg) {dvs : List V} {kws : List (Str × V)} {f : Addr} {fd : FuncData} (F : FunX K "check_number" "check_number" st_check_number dvs kws f fd) (h_is_number : KG P w K mg base "is_number" 1 F_is_number 1) (x_BadNumber : XK' P w K mg base "BadNumber" ["number"] 1) :
    FnG P w K mg base 3 f fd ["thing"] (spD ⟨K, mg, none⟩ F_check_number 1) :=
  have sc := sc_check_number
  fn_okX (ps := ["thing"]) F sc (.inl rfl) fun cdv A outer s H E hr tk po gd => by
    unfold g_check_number
    exact (dss_one (ds_if (d_not (d_val (d_callG h_is_number (hr.mono (by decide)) (by exact gd) tk rfl (da_cons (dv 0) da_nil)))) (dss_one (ds_raise rfl x_BadNumber (hr.mono (by decide)) tk rfl (da_cons (dv 0) da_nil))) dss_nil))

theorem fn_blocks {P : Program} {w : World} {K : PySem.W.Frag} {mg : Str → Option Value} {base : Heap} (T : Txt K mg) {dvs : List V} {kws : List (Str × V)} {f : Addr} {fd : FuncData} (F : FunX K "blocks" "blocks" st_blocks dvs kws f fd) (h_check_number : KG P w K mg base "check_number" 1 F_check_number 3) :
    FnG P w K mg base 4 f fd ["number"] (spD ⟨K, mg, none⟩ F_blocks 1) :=
  have sc := sc_blocks
  fn_okX (ps := ["number"]) F sc (.inl rfl) fun cdv A outer s H E hr tk po gd => by
    unfold g_blocks
    exact (dss_cons (ds_expr (d_callG h_check_number (hr.mono (by decide)) (by exact gd) tk rfl (da_cons (dv 0) da_nil)))
  (dss_one (ds_ret (d_callTy call_tuple_of s_tuple rfl T.b_tuple PyProof.Rows.boot_tuple (da_cons (d_comp (own := [("sign", 1)]) (is := [1]) (fin_F _) rfl sc.nd (di_any (dv 0)) (blkOk_by (N := ["number", "sign"]) (sc := defScope st_blocks) (by decide +kernel)) (by decide) (fun _ _ _ _ _ => (dg_name (i := 1) sc.nd rfl (by first | exact Or.inl rfl | exact Or.inr rfl))) (fun _ _ _ _ _ => dts_nil) (fun _ _ _ _ _ => (d_callTy call_intD s_int rfl T.b_int PyProof.Rows.boot_int (da_cons (dv 1) da_nil)))) da_nil)))))

theorem fn_row_of {P : Program} {w : World} {K : PySem.W.Frag} {mg : Str → Option Value} {base : Heap} (T : Txt K mg) {dvs : List V} {kws : List (Str × V)} {f : Addr} {fd : FuncData} (F : FunX K "row_of" "row_of" st_row_of dvs kws f fd) (h_blocks : KG P w K mg base "blocks" 1 F_blocks 4) :
    FnG P w K mg base 5 f fd ["number"] (spD ⟨K, mg, none⟩ F_row_of 1) :=
  have sc := sc_row_of
  fn_okX (ps := ["number"]) F sc (.inl rfl) fun cdv A outer s H E hr tk po gd => by
    unfold g_row_of
    exact (dss_cons (ds_set (i := 1) sc.nd rfl (by first | exact Or.inl rfl | exact Or.inr rfl) (d_own da_nil))
  (dss_cons (ds_for po rfl (di_any (d_callG h_blocks (hr.mono (by decide)) (by exact gd) tk rfl (da_cons (dv 0) da_nil))) (dg_name (i := 2) sc.nd rfl (by first | exact Or.inl rfl | exact Or.inr rfl)) (dss_cons (ds_expr (d_bm PySem.F.plainAttrs_list PySem.F.slot_list_extend PySem.F.type_list_extend mt_extend s_extend (dv 1) (da_cons (d_op op_mulD s_mul (d_lst (da_cons d_int (da_cons d_int da_nil))) (dv 2)) da_nil)))
  (dss_one (ds_expr (d_bm PySem.F.plainAttrs_list PySem.F.slot_list_extend PySem.F.type_list_extend mt_extend s_extend (dv 1) (da_cons (d_lst (da_cons d_int (da_cons d_int da_nil))) da_nil))))))
  (dss_cons (ds_expr (d_bm PySem.F.plainAttrs_list PySem.F.slot_list_extend PySem.F.type_list_extend mt_extend s_extend (dv 1) (da_cons (d_lst (da_cons d_int (da_cons d_int da_nil))) da_nil)))
  (dss_one (ds_ret (d_callTy call_tuple_of s_tuple rfl T.b_tuple PyProof.Rows.boot_tuple (da_cons (dv 1) da_nil)))))))

theorem fn_row_offsets {P : Program} {w : World} {K : PySem.W.Frag} {mg : Str → Option Value} {base : Heap} (T : Txt K mg) {dvs : List V} {kws : List (Str × V)} {f : Addr} {fd : FuncData} (F : FunX K "row_offsets" "row_offsets" st_row_offsets dvs kws f fd) (h_row_of : KG P w K mg base "row_of" 1 F_row_of 5) :
    FnG P w K mg base 6 f fd ["number"] (spD ⟨K, mg, none⟩ F_row_offsets 1) :=
  have sc := sc_row_offsets
  fn_okX (ps := ["number"]) F sc (.inl rfl) fun cdv A outer s H E hr tk po gd => by
    unfold g_row_offsets
    exact (dss_one (ds_ret (d_comp (own := [("offset", 1), ("sign", 2)]) (is := [1, 2]) (fin_F _) rfl sc.nd (di_enum rfl T.b_enumerate (da_cons (d_callG h_row_of (hr.mono (by decide)) (by exact gd) tk rfl (da_cons (dv 0) da_nil)) da_nil)) (blkOk_by (N := ["number", "offset", "sign"]) (sc := defScope st_row_offsets) (by decide +kernel)) (by decide) (fun _ _ _ _ _ => (dg_tup rfl (dgs_cons (dg_name (i := 1) sc.nd rfl (by first | exact Or.inl rfl | exact Or.inr rfl)) (dgs_cons (dg_name (i := 2) sc.nd rfl (by first | exact Or.inl rfl | exact Or.inr rfl)) dgs_nil)))) (fun _ _ _ _ _ => (dts_one (d_cmpT (op_eqA hr.units) s_eq (dv 2) d_int (nomark _)))) (fun _ _ _ _ _ => (dv 1)))))

theorem fn_length_of {P : Program} {w : World} {K : PySem.W.Frag} {mg : Str → Option Value} {base : Heap} (T : Txt K mg) {dvs : List V} {kws : List (Str × V)} {f : Addr} {fd : FuncData} (F : FunX K "length_of" "length_of" st_length_of dvs kws f fd) (h_blocks : KG P w K mg base "blocks" 1 F_blocks 4) :
    FnG P w K mg base 5 f fd ["number"] (spD ⟨K, mg, none⟩ F_length_of 1) :=
  have sc := sc_length_of
  fn_okX (ps := ["number"]) F sc (.inl rfl) fun cdv A outer s H E hr tk po gd => by
    unfold g_length_of
    exact (dss_cons (ds_set (i := 1) sc.nd rfl (by first | exact Or.inl rfl | exact Or.inr rfl) (d_callG h_blocks (hr.mono (by decide)) (by exact gd) tk rfl (da_cons (dv 0) da_nil)))
  (dss_one (ds_ret (d_op op_mulD s_mul d_int (d_op op_addD s_add (d_op op_addD s_add (d_callB (call_sumA rfl) s_sum rfl T.b_sum PyProof.Rows.boot_sum (da_cons (dv 1) da_nil)) (d_callB call_len s_len rfl T.b_len PySem.boot_len (da_cons (dv 1) da_nil))) d_int)))))

theorem fn_pattern {P : Program} {w : World} {K : PySem.W.Frag} {mg : Str → Option Value} {base : Heap} (T : Txt K mg) {dvs : List V} {kws : List (Str × V)} {f : Addr} {fd : FuncData} (F : FunX K "pattern" "pattern" st_pattern dvs kws f fd) (m_Strokes_s1 : KC P w K mg base "Strokes" 1 [] (fun ds _ => ds ++ []) 2 F_Strokes___init__ 4) (h_row_offsets : KG P w K mg base "row_offsets" 1 F_row_offsets 6) (h_length_of : KG P w K mg base "length_of" 1 F_length_of 5) :
    FnG P w K mg base 7 f fd ["number", "times"] (spD ⟨K, mg, none⟩ F_pattern 2) :=
  have sc := sc_pattern
  fn_okX (ps := ["number", "times"]) F sc (.inl rfl) fun cdv A outer s H E hr tk po gd => by
    unfold g_pattern
    exact (dss_cons (ds_set (i := 2) sc.nd rfl (by first | exact Or.inl rfl | exact Or.inr rfl) (d_callG h_length_of (hr.mono (by decide)) (by exact gd) tk rfl (da_cons (dv 0) da_nil)))
  (dss_cons (ds_set (i := 3) sc.nd rfl (by first | exact Or.inl rfl | exact Or.inr rfl) (d_callG h_row_offsets (hr.mono (by decide)) (by exact gd) tk rfl (da_cons (dv 0) da_nil)))
  (dss_one (ds_ret (d_make m_Strokes_s1 (hr.mono (by decide)) (by exact gd) tk rfl (da_cons (d_comp2 (own := [("again", 4), ("offset", 5)]) (is := [4]) (is1 := [5]) (fin_F _) rfl sc.nd (di_range1 rfl T.b_range (da_cons (dv 1) da_nil)) (blkOk_by (N := ["number", "times", "length", "offsets", "again", "offset"]) (sc := defScope st_pattern) (by decide +kernel)) (by decide) (by decide) (by decide) (fun _ _ _ _ _ => (dg_name (i := 4) sc.nd rfl (by first | exact Or.inl rfl | exact Or.inr rfl))) (fun _ _ _ _ _ => dts_nil) (fun _ _ _ _ _ => (di_any (dv 3))) (fun _ _ _ _ _ => (dg_name (i := 5) sc.nd rfl (by first | exact Or.inl rfl | exact Or.inr rfl))) (fun _ _ _ _ _ => dts_nil) (fun _ _ _ _ _ => (d_op op_addD s_add (d_op op_mulD s_mul (dv 4) (dv 2)) (dv 5)))) da_nil) dk_nil)))))

theorem fn_Strokes___eq__ {P : Program} {w : World} {K : PySem.W.Frag} {mg : Str → Option Value} {base : Heap} (T : Txt K mg) {dvs : List V} {kws : List (Str × V)} {f : Addr} {fd : FuncData} (F : FunX K "__eq__" "Strokes.__eq__" st_Strokes___eq__ dvs kws f fd) :
    FnG P w K mg base 1 f fd ["self", "other"] (spD ⟨K, mg, none⟩ F_Strokes___eq__ 2) :=
  have sc := sc_Strokes___eq__
  fn_okX (ps := ["self", "other"]) F sc (.inl rfl) fun cdv A outer s H E hr tk po gd => by
    unfold g_Strokes___eq__
    exact (dss_one (ds_ret (d_andV (d_isO T.io_Strokes__Strokes.choose_spec.1 rfl T.io_Strokes__Strokes.choose_spec.2.1 T.io_Strokes__Strokes.choose_spec.2.2 rfl T.b_isinstance (dv 1)) (d_one (d_cmp (op_eqA hr.units) s_eq (d_fld T.at_offsets_Strokes (dv 0)) (d_fld T.at_offsets_Strokes (dv 1)) (nomark _))))))

theorem fn_Strokes___rshift__ {P : Program} {w : World} {K : PySem.W.Frag} {mg : Str → Option Value} {base : Heap} (T : Txt K mg) {dvs : List V} {kws : List (Str × V)} {f : Addr} {fd : FuncData} (F : FunX K "__rshift__" "Strokes.__rshift__" st_Strokes___rshift__ dvs kws f fd) (m_Strokes_s1 : KC P w K mg base "Strokes" 1 [] (fun ds _ => ds ++ []) 2 F_Strokes___init__ 4) (h_check_offset : KG P w K mg base "check_offset" 1 F_check_offset 3) :
    FnG P w K mg base 6 f fd ["self", "ticks"] (spD ⟨K, mg, none⟩ F_Strokes___rshift__ 2) :=
  have sc := sc_Strokes___rshift__
  fn_okX (ps := ["self", "ticks"]) F sc (.inl rfl) fun cdv A outer s H E hr tk po gd => by
    unfold g_Strokes___rshift__
    exact (dss_cons (ds_expr (d_callG h_check_offset (hr.mono (by decide)) (by exact gd) tk rfl (da_cons (dv 1) da_nil)))
  (dss_one (ds_ret (d_make m_Strokes_s1 (hr.mono (by decide)) (by exact gd) tk rfl (da_cons (d_comp (own := [("offset", 2)]) (is := [2]) (fin_F _) rfl sc.nd (di_any (d_fld T.at_offsets_Strokes (dv 0))) (blkOk_by (N := ["self", "ticks", "offset"]) (sc := defScope st_Strokes___rshift__) (by decide +kernel)) (by decide) (fun _ _ _ _ _ => (dg_name (i := 2) sc.nd rfl (by first | exact Or.inl rfl | exact Or.inr rfl))) (fun _ _ _ _ _ => dts_nil) (fun _ _ _ _ _ => (d_op op_addD s_add (dv 2) (dv 1)))) da_nil) dk_nil))))

theorem fn_strokes_of {P : Program} {w : World} {K : PySem.W.Frag} {mg : Str → Option Value} {base : Heap} (T : Txt K mg) {dvs : List V} {kws : List (Str × V)} {f : Addr} {fd : FuncData} (F : FunX K "strokes_of" "strokes_of" st_strokes_of dvs kws f fd) (h_row_offsets : KG P w K mg base "row_offsets" 1 F_row_offsets 6) (m_Strokes_s1 : KC P w K mg base "Strokes" 1 [] (fun ds _ => ds ++ []) 2 F_Strokes___init__ 4) :
    FnG P w K mg base 7 f fd ["number"] (spD ⟨K, mg, none⟩ F_strokes_of 1) :=
  have sc := sc_strokes_of
  fn_okX (ps := ["number"]) F sc (.inl rfl) fun cdv A outer s H E hr tk po gd => by
    unfold g_strokes_of
    exact (dss_one (ds_ret (d_make m_Strokes_s1 (hr.mono (by decide)) (by exact gd) tk rfl (da_cons (d_callG h_row_offsets (hr.mono (by decide)) (by exact gd) tk rfl (da_cons (dv 0) da_nil)) da_nil) dk_nil)))

theorem fn__law_row {P : Program} {w : World} {K : PySem.W.Frag} {mg : Str → Option Value} {base : Heap} (T : Txt K mg) {dvs : List V} {kws : List (Str × V)} {f : Addr} {fd : FuncData} (F : FunX K "_law_row" "_law_row" st__law_row dvs kws f fd) :
    FnG P w K mg base 1 f fd ["number"] (spD ⟨K, mg, none⟩ F__law_row 1) :=
  have sc := sc__law_row
  fn_okX (ps := ["number"]) F sc (.inl rfl) fun cdv A outer s H E hr tk po gd => by
    unfold g__law_row
    exact (dss_cons (ds_set (i := 1) sc.nd rfl (by first | exact Or.inl rfl | exact Or.inr rfl) (d_lst da_nil))
  (dss_cons (ds_for po rfl (di_any (dv 0)) (dg_name (i := 2) sc.nd rfl (by first | exact Or.inl rfl | exact Or.inr rfl)) (dss_one (ds_set (i := 1) sc.nd rfl (by first | exact Or.inl rfl | exact Or.inr rfl) (d_op op_addD s_add (d_op op_addD s_add (dv 1) (d_op op_mulD s_mul (d_lst (da_cons d_int (da_cons d_int da_nil))) (d_callTy call_intD s_int rfl T.b_int PyProof.Rows.boot_int (da_cons (dv 2) da_nil)))) (d_lst (da_cons d_int (da_cons d_int da_nil)))))))
  (dss_one (ds_ret (d_op op_addD s_add (dv 1) (d_lst (da_cons d_int (da_cons d_int da_nil))))))))

theorem fn__law_asked {P : Program} {w : World} {K : PySem.W.Frag} {mg : Str → Option Value} {base : Heap} (T : Txt K mg) {dvs : List V} {kws : List (Str × V)} {f : Addr} {fd : FuncData} (F : FunX K "_law_asked" "_law_asked" st__law_asked dvs kws f fd) (op_and_Strokes : ∀ (c : Str) (Ff : DFun), ([("Strokes", F_Strokes___and__)] : List (Str × DFun)).lookup c = some Ff → KM P w K mg base c "__and__" 1 [] (fun ds _ => ds) 2 Ff 6 ∧ ∀ C, mg c = some (.ref C) → OpC K C "and") (li_Strokes : ∀ (c fl : Str) (Lf : DFun), ([("Strokes", "offsets", F_Strokes___len__)] : List (Str × Str × DFun)).lookup c = some (fl, Lf) → KM P w K mg base c "__len__" 0 [] (fun ds _ => ds) 1 Lf 2 ∧ KI P w K mg base c fl 2) (op_or_Strokes : ∀ (c : Str) (Ff : DFun), ([("Strokes", F_Strokes___or__)] : List (Str × DFun)).lookup c = some Ff → KM P w K mg base c "__or__" 1 [] (fun ds _ => ds) 2 Ff 6 ∧ ∀ C, mg c = some (.ref C) → OpC K C "or") (h_pattern_s1_times : KGs P w K mg base "pattern" 1 (["times"] : List Str) (fun ds es => ds ++ es) 2 F_pattern 7) (ne_Strokes : ∀ (c : Str) (Ff : DFun), ([("Strokes", F_Strokes___eq__)] : List (Str × DFun)).lookup c = some Ff → KM P w K mg base c "__eq__" 1 [] (fun ds _ => ds) 2 Ff 1 ∧ ∀ C, mg c = some (.ref C) → NeC K C) (op_rshift_Strokes : ∀ (c : Str) (Ff : DFun), ([("Strokes", F_Strokes___rshift__)] : List (Str × DFun)).lookup c = some Ff → KM P w K mg base c "__rshift__" 1 [] (fun ds _ => ds) 2 Ff 6 ∧ ∀ C, mg c = some (.ref C) → OpC K C "rshift") (h_pattern_s1 : KGs P w K mg base "pattern" 1 [] (fun ds _ => ds ++ [.int 1]) 2 F_pattern 7) (h_strokes_of : KG P w K mg base "strokes_of" 1 F_strokes_of 7) (h_pattern_s2 : KGs P w K mg base "pattern" 2 [] (fun ds _ => ds ++ []) 2 F_pattern 7) (h__law_row : KG P w K mg base "_law_row" 1 F__law_row 1) :
    FnG P w K mg base 8 f fd ["number", "many", "extra"] (spD ⟨K, mg, none⟩ F__law_asked 3) :=
  have sc := sc__law_asked
  fn_okX (ps := ["number", "many", "extra"]) F sc (.inl rfl) fun cdv A outer s H E hr tk po gd => by
    unfold g__law_asked
    exact (dss_cons (ds_set (i := 3) sc.nd rfl (by first | exact Or.inl rfl | exact Or.inr rfl) (d_callG h__law_row (hr.mono (by decide)) (by exact gd) tk rfl (da_cons (dv 0) da_nil)))
  (dss_cons (ds_set (i := 4) sc.nd rfl (by first | exact Or.inl rfl | exact Or.inr rfl) (d_lst da_nil))
  (dss_cons (ds_for po rfl (di_range1 rfl T.b_range (da_cons (dv 1) da_nil)) (dg_name (i := 5) sc.nd rfl (by first | exact Or.inl rfl | exact Or.inr rfl)) (dss_one (ds_set (i := 4) sc.nd rfl (by first | exact Or.inl rfl | exact Or.inr rfl) (d_op op_addD s_add (dv 4) (d_comp (own := [("at", 9)]) (is := [9]) (fin_F _) rfl sc.nd (di_range1 rfl T.b_range (da_cons (d_callB call_len s_len rfl T.b_len PySem.boot_len (da_cons (dv 3) da_nil)) da_nil)) (blkOk_by (N := ["number", "many", "extra", "row", "due", "k", "told", "single", "more", "at"]) (sc := defScope st__law_asked) (by decide +kernel)) (by decide) (fun _ _ _ _ _ => (dg_name (i := 9) sc.nd rfl (by first | exact Or.inl rfl | exact Or.inr rfl))) (fun _ _ _ _ _ => (dts_one (d_cmpT (op_eqA hr.units) s_eq (d_ix (dv 3) (dv 9) (fun _ _ => rfl)) d_int (nomark _)))) (fun _ _ _ _ _ => (d_op op_addD s_add (d_op op_mulD s_mul (dv 5) (d_callB call_len s_len rfl T.b_len PySem.boot_len (da_cons (dv 3) da_nil))) (dv 9))))))))
  (dss_cons (ds_set (i := 6) sc.nd rfl (by first | exact Or.inl rfl | exact Or.inr rfl) (d_callK h_pattern_s1_times (hr.mono (by decide)) (by exact gd) tk rfl (da_cons (dv 0) da_nil) (dk_cons (dv 1) dk_nil)))
  (dss_cons (ds_if (dw_t (dw_or (d_not (d_val (d_isO T.io_Strokes__Strokes.choose_spec.1 rfl T.io_Strokes__Strokes.choose_spec.2.1 T.io_Strokes__Strokes.choose_spec.2.2 rfl T.b_isinstance (dv 6)))) (dw_or1 (d_cmpT (op_neA hr.units) s_ne (d_callSTy (call_listO rfl li_Strokes (hr.mono (by decide)) (by exact gd) (calls_of call_list_of s_list)) rfl T.b_list PyProof.Rows.boot_list (da_cons (dv 6) da_nil)) (dv 4) (nomark _))))) (dss_one (ds_ret d_bl)) dss_nil)
  (dss_cons (ds_if (d_cmpTS (ne_O ne_Strokes (hr.mono (by decide)) (by exact gd) tk (ops_of (op_neA hr.units) s_ne)) (d_callK h_pattern_s2 (hr.mono (by decide)) (by exact gd) tk rfl (da_cons (dv 0) (da_cons (dv 1) da_nil)) dk_nil) (dv 6) (nomark _)) (dss_one (ds_ret d_bl)) dss_nil)
  (dss_cons (ds_set (i := 7) sc.nd rfl (by first | exact Or.inl rfl | exact Or.inr rfl) (d_callG h_strokes_of (hr.mono (by decide)) (by exact gd) tk rfl (da_cons (dv 0) da_nil)))
  (dss_cons (ds_if (dw_t (dw_or (d_not (d_val (d_isO T.io_Strokes__Strokes.choose_spec.1 rfl T.io_Strokes__Strokes.choose_spec.2.1 T.io_Strokes__Strokes.choose_spec.2.2 rfl T.b_isinstance (dv 7)))) (dw_or1 (d_cmpT (op_neA hr.units) s_ne (d_callSTy (call_listO rfl li_Strokes (hr.mono (by decide)) (by exact gd) (calls_of call_list_of s_list)) rfl T.b_list PyProof.Rows.boot_list (da_cons (dv 7) da_nil)) (d_comp (own := [("at", 9)]) (is := [9]) (fin_F _) rfl sc.nd (di_range1 rfl T.b_range (da_cons (d_callB call_len s_len rfl T.b_len PySem.boot_len (da_cons (dv 3) da_nil)) da_nil)) (blkOk_by (N := ["number", "many", "extra", "row", "due", "k", "told", "single", "more", "at"]) (sc := defScope st__law_asked) (by decide +kernel)) (by decide) (fun _ _ _ _ _ => (dg_name (i := 9) sc.nd rfl (by first | exact Or.inl rfl | exact Or.inr rfl))) (fun _ _ _ _ _ => (dts_one (d_cmpT (op_eqA hr.units) s_eq (d_ix (dv 3) (dv 9) (fun _ _ => rfl)) d_int (nomark _)))) (fun _ _ _ _ _ => (dv 9))) (nomark _))))) (dss_one (ds_ret d_bl)) dss_nil)
  (dss_cons (ds_if (dw_t (dw_or (d_cmpTS (ne_O ne_Strokes (hr.mono (by decide)) (by exact gd) tk (ops_of (op_neA hr.units) s_ne)) (d_callK h_pattern_s1 (hr.mono (by decide)) (by exact gd) tk rfl (da_cons (dv 0) da_nil) dk_nil) (dv 7) (nomark _)) (dw_or1 (d_cmpTS (ne_O ne_Strokes (hr.mono (by decide)) (by exact gd) tk (ops_of (op_neA hr.units) s_ne)) (d_callK h_pattern_s1_times (hr.mono (by decide)) (by exact gd) tk rfl (da_cons (dv 0) da_nil) (dk_cons d_int dk_nil)) (dv 7) (nomark _))))) (dss_one (ds_ret d_bl)) dss_nil)
  (dss_cons (ds_set (i := 8) sc.nd rfl (by first | exact Or.inl rfl | exact Or.inr rfl) (d_opS (op_O dun_rshift op_rshift_Strokes (hr.mono (by decide)) (by exact gd) tk ops_bad) (d_callK h_pattern_s1_times (hr.mono (by decide)) (by exact gd) tk rfl (da_cons (dv 0) da_nil) (dk_cons (dv 2) dk_nil)) (d_op op_mulD s_mul (dv 1) (d_callB call_len s_len rfl T.b_len PySem.boot_len (da_cons (dv 3) da_nil)))))
  (dss_cons (ds_if (dw_t (dw_and (d_cmpT op_leD s_le (d_op op_addD s_add (dv 1) (dv 2)) d_int (nomark _)) (dw_and1 (d_cmpTS (ne_O ne_Strokes (hr.mono (by decide)) (by exact gd) tk (ops_of (op_neA hr.units) s_ne)) (d_opS (op_O dun_or op_or_Strokes (hr.mono (by decide)) (by exact gd) tk ops_bad) (dv 6) (dv 8)) (d_callK h_pattern_s1_times (hr.mono (by decide)) (by exact gd) tk rfl (da_cons (dv 0) da_nil) (dk_cons (d_op op_addD s_add (dv 1) (dv 2)) dk_nil)) (nomark _))))) (dss_one (ds_ret d_bl)) dss_nil)
  (dss_one (ds_ret (d_cmp (op_eqA hr.units) s_eq (d_callSTy (call_listO rfl li_Strokes (hr.mono (by decide)) (by exact gd) (calls_of call_list_of s_list)) rfl T.b_list PyProof.Rows.boot_list (da_cons (d_opS (op_O dun_and op_and_Strokes (hr.mono (by decide)) (by exact gd) tk ops_bad) (dv 6) (dv 8)) da_nil)) (d_lst da_nil) (nomark _)))))))))))))))

theorem fn__law_refused {P : Program} {w : World} {K : PySem.W.Frag} {mg : Str → Option Value} {base : Heap} (T : Txt K mg) {dvs : List V} {kws : List (Str × V)} {f : Addr} {fd : FuncData} (F : FunX K "_law_refused" "_law_refused" st__law_refused dvs kws f fd) (h_pattern_s1 : KGs P w K mg base "pattern" 1 [] (fun ds _ => ds ++ [.int 1]) 2 F_pattern 7) (h_pattern_s1_times : KGs P w K mg base "pattern" 1 (["times"] : List Str) (fun ds es => ds ++ es) 2 F_pattern 7) (h_strokes_of : KG P w K mg base "strokes_of" 1 F_strokes_of 7) :
    FnG P w K mg base 8 f fd ["odd", "many"] (spD ⟨K, mg, none⟩ F__law_refused 2) :=
  have sc := sc__law_refused
  fn_okX (ps := ["odd", "many"]) F sc (.inl rfl) fun cdv A outer s H E hr tk po gd => by
    unfold g__law_refused
    exact (dss_cons (ds_set (i := 2) sc.nd rfl (by first | exact Or.inl rfl | exact Or.inr rfl) (d_own da_nil))
  (dss_cons (ds_try (i := 3) rfl rfl sc.nd rfl rfl ⟨rfl, by decide, .inl T.n_BadNumber.choose_spec.1⟩ tk T.n_BadNumber.choose_spec.2 (fun Wb pn xe tk po => (dss_one (ds_expr (d_callG h_strokes_of (hr.mono (by decide)) (by exact gd) tk rfl (da_cons (dv 0) da_nil))))) (fun a oe cls d pn hz hf => (dss_one (ds_expr (d_bm PySem.F.plainAttrs_list PySem.F.slot_list_append PySem.F.type_list_append mt_append s_append (dv 2) (da_cons (d_callB (call_reprD gd (have q := hu100 hr; q)) s_repr rfl T.b_repr PyProof.Rows.boot_repr (da_cons (d_xf T.f_number hz hf (dv 3)) da_nil)) da_nil))))))
  (dss_cons (ds_try (i := 3) rfl rfl sc.nd rfl rfl ⟨rfl, by decide, .inl T.n_BadNumber.choose_spec.1⟩ tk T.n_BadNumber.choose_spec.2 (fun Wb pn xe tk po => (dss_one (ds_expr (d_callK h_pattern_s1_times (hr.mono (by decide)) (by exact gd) tk rfl (da_cons (dv 0) da_nil) (dk_cons (dv 1) dk_nil))))) (fun a oe cls d pn hz hf => (dss_one (ds_expr (d_bm PySem.F.plainAttrs_list PySem.F.slot_list_append PySem.F.type_list_append mt_append s_append (dv 2) (da_cons (d_callB (call_reprD gd (have q := hu100 hr; q)) s_repr rfl T.b_repr PyProof.Rows.boot_repr (da_cons (d_xf T.f_number hz hf (dv 3)) da_nil)) da_nil))))))
  (dss_cons (ds_try (i := 3) rfl rfl sc.nd rfl rfl ⟨rfl, by decide, .inl T.n_BadNumber.choose_spec.1⟩ tk T.n_BadNumber.choose_spec.2 (fun Wb pn xe tk po => (dss_one (ds_expr (d_callK h_pattern_s1 (hr.mono (by decide)) (by exact gd) tk rfl (da_cons (dv 0) da_nil) dk_nil)))) (fun a oe cls d pn hz hf => (dss_one (ds_expr (d_bm PySem.F.plainAttrs_list PySem.F.slot_list_append PySem.F.type_list_append mt_append s_append (dv 2) (da_cons (d_callB (call_reprD gd (have q := hu100 hr; q)) s_repr rfl T.b_repr PyProof.Rows.boot_repr (da_cons (d_xf T.f_number hz hf (dv 3)) da_nil)) da_nil))))))
  (dss_one (ds_ret (dv 2)))))))

theorem fn__law_draw {P : Program} {w : World} {K : PySem.W.Frag} {mg : Str → Option Value} {base : Heap} (T : Txt K mg) {dvs : List V} {kws : List (Str × V)} {f : Addr} {fd : FuncData} (F : FunX K "_law_draw" "_law_draw" st__law_draw dvs kws f fd) :
    FnG P w K mg base 1 f fd ["bag", "limit"] (spD ⟨K, mg, none⟩ F__law_draw 2) :=
  have sc := sc__law_draw
  fn_okX (ps := ["bag", "limit"]) F sc (.inl rfl) fun cdv A outer s H E hr tk po gd => by
    unfold g__law_draw
    exact (dss_cons (ds_if (dw_t (dw_and (d_cmpT op_ltD s_lt (d_ix (dv 0) d_int (fun _ _ => rfl)) (d_op op_pow s_pow d_int d_int) (nomark _)) (dw_and1 (d_cmpT op_ltD s_lt (d_ix (dv 0) d_int (fun _ _ => rfl)) (d_callB call_len s_len rfl T.b_len PySem.boot_len (da_cons (d_ix (dv 0) d_int (fun _ _ => rfl)) da_nil)) (nomark _))))) (dss_cons (ds_put (d_ix (d_ix (dv 0) d_int (fun _ _ => rfl)) (d_ix (dv 0) d_int (fun _ _ => rfl)) (fun _ _ => rfl)) (dv 0) d_int)
  (dss_one (ds_put (d_op op_addD s_add (d_ix (dv 0) d_int (fun _ _ => rfl)) d_int) (dv 0) d_int))) dss_nil)
  (dss_cons (ds_if (d_cmpT op_geD s_ge (d_ix (dv 0) d_int (fun _ _ => rfl)) (d_op op_pow s_pow d_int d_int) (nomark _)) (dss_cons (ds_set (i := 2) sc.nd rfl (by first | exact Or.inl rfl | exact Or.inr rfl) (d_op op_mod s_mod (d_callTy call_intD s_int rfl T.b_int PyProof.Rows.boot_int (da_cons (d_ix (dv 0) d_int (fun _ _ => rfl)) da_nil)) (dv 1)))
  (dss_cons (ds_put (d_op op_fdivW s_fdiv (d_callTy call_intD s_int rfl T.b_int PyProof.Rows.boot_int (da_cons (d_ix (dv 0) d_int (fun _ _ => rfl)) da_nil)) (dv 1)) (dv 0) d_int)
  (dss_one (ds_ret (dv 2))))) dss_nil)
  (dss_cons (ds_put (d_op op_addD s_add (d_ix (dv 0) d_int (fun _ _ => rfl)) d_int) (dv 0) d_int)
  (dss_cons (ds_put (d_op op_mod s_mod (d_callTy call_intD s_int rfl T.b_int PyProof.Rows.boot_int (da_cons (d_op op_addD s_add (d_op op_addD s_add (d_op op_mulD s_mul (d_ix (dv 0) d_int (fun _ _ => rfl)) d_int) (d_op op_mulD s_mul (d_op op_mod s_mod (d_callTy call_intD s_int rfl T.b_int PyProof.Rows.boot_int (da_cons (d_ix (dv 0) d_int (fun _ _ => rfl)) da_nil)) d_int) d_int)) (d_op op_mulD s_mul (d_ix (dv 0) d_int (fun _ _ => rfl)) d_int)) da_nil)) d_int) (dv 0) d_int)
  (dss_one (ds_ret (d_op op_mod s_mod (d_op op_fdivW s_fdiv (d_op op_mod s_mod (d_callTy call_intD s_int rfl T.b_int PyProof.Rows.boot_int (da_cons (d_op op_addD s_add (d_op op_mulD s_mul (d_ix (dv 0) d_int (fun _ _ => rfl)) d_int) (d_op op_mulD s_mul (d_ix (dv 0) d_int (fun _ _ => rfl)) (d_ix (dv 0) d_int (fun _ _ => rfl)))) da_nil)) d_int) d_int) (dv 1))))))))

theorem fn__law_times {P : Program} {w : World} {K : PySem.W.Frag} {mg : Str → Option Value} {base : Heap} (T : Txt K mg) {dvs : List V} {kws : List (Str × V)} {f : Addr} {fd : FuncData} (F : FunX K "_law_times" "_law_times" st__law_times dvs kws f fd) (h__law_draw : KG P w K mg base "_law_draw" 2 F__law_draw 1) :
    FnG P w K mg base 2 f fd ["bag"] (spD ⟨K, mg, none⟩ F__law_times 1) :=
  have sc := sc__law_times
  fn_okX (ps := ["bag"]) F sc (.inl rfl) fun cdv A outer s H E hr tk po gd => by
    unfold g__law_times
    exact (dss_one (ds_ret (d_callG h__law_draw (hr.mono (by decide)) (by exact gd) tk rfl (da_cons (dv 0) (da_cons (d_ix (d_lst (da_cons d_int (da_cons d_int (da_cons d_int da_nil)))) (d_callG h__law_draw (hr.mono (by decide)) (by exact gd) tk rfl (da_cons (dv 0) (da_cons d_int da_nil))) (fun _ _ => rfl)) da_nil)))))

theorem fn__law_number {P : Program} {w : World} {K : PySem.W.Frag} {mg : Str → Option Value} {base : Heap} (T : Txt K mg) {dvs : List V} {kws : List (Str × V)} {f : Addr} {fd : FuncData} (F : FunX K "_law_number" "_law_number" st__law_number dvs kws f fd) (h__law_draw : KG P w K mg base "_law_draw" 2 F__law_draw 1) :
    FnG P w K mg base 2 f fd ["bag"] (spD ⟨K, mg, none⟩ F__law_number 1) :=
  have sc := sc__law_number
  fn_okX (ps := ["bag"]) F sc (.inl rfl) fun cdv A outer s H E hr tk po gd => by
    unfold g__law_number
    exact (dss_cons (ds_set (i := 1) sc.nd rfl (by first | exact Or.inl rfl | exact Or.inr rfl) (d_op op_addD s_add d_int (d_callG h__law_draw (hr.mono (by decide)) (by exact gd) tk rfl (da_cons (dv 0) (da_cons d_int da_nil)))))
  (dss_cons (ds_set (i := 2) sc.nd rfl (by first | exact Or.inl rfl | exact Or.inr rfl) (d_callG h__law_draw (hr.mono (by decide)) (by exact gd) tk rfl (da_cons (dv 0) (da_cons d_int da_nil))))
  (dss_cons (ds_set (i := 3) sc.nd rfl (by first | exact Or.inl rfl | exact Or.inr rfl) (d_ix (d_lst (da_cons d_int (da_cons d_int (da_cons d_int (da_cons d_int (da_cons d_int (da_cons d_int da_nil))))))) (dv 2) (fun _ _ => rfl)))
  (dss_cons (ds_set (i := 4) sc.nd rfl (by first | exact Or.inl rfl | exact Or.inr rfl) d_str)
  (dss_cons (ds_set (i := 5) sc.nd rfl (by first | exact Or.inl rfl | exact Or.inr rfl) d_int)
  (dss_cons (ds_for po rfl (di_range1 rfl T.b_range (da_cons (dv 1) da_nil)) (dg_name (i := 6) sc.nd rfl (by first | exact Or.inl rfl | exact Or.inr rfl)) (dss_cons (ds_set (i := 7) sc.nd rfl (by first | exact Or.inl rfl | exact Or.inr rfl) (d_op op_addD s_add d_int (d_callG h__law_draw (hr.mono (by decide)) (by exact gd) tk rfl (da_cons (dv 0) (da_cons (d_callB (call_min2 rfl) s_min2 rfl T.b_min PyProof.Rows.boot_min (da_cons (dv 3) (da_cons (d_op op_sub s_sub (dv 5) (d_op op_sub s_sub (d_op op_sub s_sub (dv 1) d_int) (dv 6))) da_nil))) da_nil)))))
  (dss_cons (ds_if (dw_t (dw_and (d_cmpT (op_eqA hr.units) s_eq (dv 2) d_int (nomark _)) (dw_and1 (d_cmpT (op_eqA hr.units) s_eq (dv 6) (d_op op_sub s_sub (dv 1) d_int) (nomark _))))) (dss_one (ds_set (i := 7) sc.nd rfl (by first | exact Or.inl rfl | exact Or.inr rfl) (d_callB (call_min2 rfl) s_min2 rfl T.b_min PyProof.Rows.boot_min (da_cons d_int (da_cons (dv 5) da_nil))))) dss_nil)
  (dss_cons (ds_set (i := 4) sc.nd rfl (by first | exact Or.inl rfl | exact Or.inr rfl) (d_op op_addD s_add (dv 4) (d_callTy call_str_int s_str rfl T.b_str PyProof.Rows.boot_str (da_cons (dv 7) da_nil))))
  (dss_one (ds_set (i := 5) sc.nd rfl (by first | exact Or.inl rfl | exact Or.inr rfl) (d_op op_sub s_sub (dv 5) (dv 7))))))))
  (dss_one (ds_ret (dv 4)))))))))

theorem fn__law_bag {P : Program} {w : World} {K : PySem.W.Frag} {mg : Str → Option Value} {base : Heap} (T : Txt K mg) {dvs : List V} {kws : List (Str × V)} {f : Addr} {fd : FuncData} (F : FunX K "_law_bag" "_law_bag" st__law_bag dvs kws f fd) :
    FnG P w K mg base 1 f fd ["script"] (spD ⟨K, mg, none⟩ F__law_bag 1) :=
  have sc := sc__law_bag
  fn_okX (ps := ["script"]) F sc (.inr rfl) fun cdv A outer s H E hr tk po gd => by
    unfold g__law_bag
    exact (dss_cons (ds_setC (i := 1) (own := [("cell", 2)]) (is := [2]) (fin_F _) rfl sc.nd rfl rfl (sw_true rfl rfl rfl (by decide +kernel)) (di_any (d_slice (dv 0) do_none (do_some d_int))) (blkOk_by (N := ["script", "cells", "cell"]) (sc := defScope st__law_bag) (by decide +kernel)) (by decide) (fun _ _ _ _ _ => (dg_name (i := 2) sc.nd rfl (by first | exact Or.inl rfl | exact Or.inr rfl))) (fun _ _ _ _ _ => dts_nil) (fun _ _ _ _ _ => (d_ifE (d_cmpT op_geD s_ge (dv 2) d_int (nomark _)) (dv 2) (d_op op_sub s_sub d_int (dv 2)))))
  (dss_one (ds_ret (d_own (da_cons d_int (da_cons (dv 1) (da_cons d_int (da_cons d_int (da_cons d_int da_nil)))))))))

theorem fn_law {P : Program} {w : World} {K : PySem.W.Frag} {mg : Str → Option Value} {base : Heap} (T : Txt K mg) {dvs : List V} {kws : List (Str × V)} {f : Addr} {fd : FuncData} (F : FunX K "law" "law" st_law dvs kws f fd) (h__law_asked : KG P w K mg base "_law_asked" 3 F__law_asked 8) (h__law_refused : KG P w K mg base "_law_refused" 2 F__law_refused 8) (h__law_draw : KG P w K mg base "_law_draw" 2 F__law_draw 1) (h__law_times : KG P w K mg base "_law_times" 1 F__law_times 2) (h__law_number : KG P w K mg base "_law_number" 1 F__law_number 2) (h__law_bag : KG P w K mg base "_law_bag" 1 F__law_bag 1) :
    FnG P w K mg base 9 f fd ["script"] (spD ⟨K, mg, none⟩ F_law 1) :=
  have sc := sc_law
  fn_okX (ps := ["script"]) F sc (.inl rfl) fun cdv A outer s H E hr tk po gd => by
    unfold g_law
    exact (dss_cons (ds_set (i := 1) sc.nd rfl (by first | exact Or.inl rfl | exact Or.inr rfl) (d_callG h__law_bag (hr.mono (by decide)) (by exact gd) tk rfl (da_cons (dv 0) da_nil)))
  (dss_cons (ds_set (i := 2) sc.nd rfl (by first | exact Or.inl rfl | exact Or.inr rfl) (d_callG h__law_number (hr.mono (by decide)) (by exact gd) tk rfl (da_cons (dv 1) da_nil)))
  (dss_cons (ds_set (i := 3) sc.nd rfl (by first | exact Or.inl rfl | exact Or.inr rfl) (d_callG h__law_number (hr.mono (by decide)) (by exact gd) tk rfl (da_cons (dv 1) da_nil)))
  (dss_cons (ds_set (i := 4) sc.nd rfl (by first | exact Or.inl rfl | exact Or.inr rfl) (d_callG h__law_times (hr.mono (by decide)) (by exact gd) tk rfl (da_cons (dv 1) da_nil)))
  (dss_cons (ds_set (i := 5) sc.nd rfl (by first | exact Or.inl rfl | exact Or.inr rfl) (d_callG h__law_times (hr.mono (by decide)) (by exact gd) tk rfl (da_cons (dv 1) da_nil)))
  (dss_cons (ds_set (i := 6) sc.nd rfl (by first | exact Or.inl rfl | exact Or.inr rfl) (d_callG h__law_times (hr.mono (by decide)) (by exact gd) tk rfl (da_cons (dv 1) da_nil)))
  (dss_cons (ds_set (i := 7) sc.nd rfl (by first | exact Or.inl rfl | exact Or.inr rfl) (d_ix (d_lst (da_cons d_str (da_cons d_str (da_cons d_str (da_cons d_str (da_cons d_non (da_cons d_int (da_cons d_str (da_cons (d_lst (da_cons (dv 2) da_nil)) (da_cons d_bl da_nil)))))))))) (d_callG h__law_draw (hr.mono (by decide)) (by exact gd) tk rfl (da_cons (dv 1) (da_cons d_int da_nil))) (fun _ _ => rfl)))
  (dss_cons (ds_if (d_cmpT (op_neA hr.units) s_ne (d_callG h__law_refused (hr.mono (by decide)) (by exact gd) tk rfl (da_cons (dv 7) (da_cons (dv 6) da_nil))) (d_lst (da_cons (d_callB (call_reprD gd (have q := hu100 hr; q)) s_repr rfl T.b_repr PyProof.Rows.boot_repr (da_cons (dv 7) da_nil)) (da_cons (d_callB (call_reprD gd (have q := hu100 hr; q)) s_repr rfl T.b_repr PyProof.Rows.boot_repr (da_cons (dv 7) da_nil)) (da_cons (d_callB (call_reprD gd (have q := hu100 hr; q)) s_repr rfl T.b_repr PyProof.Rows.boot_repr (da_cons (dv 7) da_nil)) da_nil)))) (nomark _)) (dss_one (ds_ret d_bl)) dss_nil)
  (dss_one (ds_ret (d_andV (d_callG h__law_asked (hr.mono (by decide)) (by exact gd) tk rfl (da_cons (dv 2) (da_cons (dv 4) (da_cons (dv 5) da_nil)))) (d_one (d_callG h__law_asked (hr.mono (by decide)) (by exact gd) tk rfl (da_cons (dv 3) (da_cons (dv 6) (da_cons (dv 4) da_nil))))))))))))))))

theorem it_Strokes___iter__ {P : Program} {w : World} {K : PySem.W.Frag} {mg : Str → Option Value} {base : Heap} (T : Txt K mg) {f C : Addr} {fd : FuncData} (F : Fun K "__iter__" "Strokes.__iter__" st_Strokes___iter__ f fd) (hb : ∀ (s : Shared) (u : Value), K.In s.heap → BindsTo s fd ⟨[u], []⟩ [("self", u)]) (cl : Cls K C) (na : NoAttr K C "offsets") : FnI P w K mg base 1 f C "offsets" :=
  fnI_mk (k := 0) F sc_Strokes___iter__ hb cl na fun cdv A outer s H E => pss_one (ps_ret (pe_callB (call_iterT (X := cxOf (L2.CX P w) P w K mg base ["self"] "Strokes.__iter__" (defScope st_Strokes___iter__) f cdv A outer s H E)) rfl T.b_iter PyProof.Rows.boot_iter (pa_cons (pe_fld (pe_var (i := 0) rfl (by first | exact Or.inl rfl | exact Or.inr (Or.inl rfl) | exact Or.inr (Or.inr rfl))) rfl) pa_nil)))

/-! ### the end -/
def spLaw (K : PySem.W.Frag) : Sp := fun vs H Q _ => ∃ (a : Addr) (ns : List Int), vs = [.ref a] ∧ SqL K H a (ns.map V.int) ∧ ns.length ≤ 63 ∧ ∀ H', Q (.bl true) H'
theorem sp_law (law_true : ∀ (ns : List Int), ns.length ≤ 63 → ∃ S, F_law [.rol (ns.map D.int)] [] = .ok (.bl true) S) {K : PySem.W.Frag} {mg : Str → Option Value} {vs : List V} {H : Hp} {Q : VK} {E : XK} (h : spLaw K vs H Q E) : spD ⟨K, mg, none⟩ F_law 1 vs H Q E := by
  obtain ⟨a, ns, rfl, hs, hl, q⟩ := h
  obtain ⟨S, e⟩ := law_true ns hl
  refine ⟨rfl, [], [], [.rol (ns.map D.int)], .cons (.rol (by rw [era_nil]; exact hs) (RpL.map (fun i => .int i) ns)) .nil, ⟨.nil, rfl, fun n a c h => by simp at h⟩, ?_⟩
  rw [e]
  intro v ms' H' f s r
  cases r
  exact q H'
theorem all_mk (law_true : ∀ (ns : List Int), ns.length ≤ 63 → ∃ S, F_law [.rol (ns.map D.int)] [] = .ok (.bl true) S) {l : PySem.W.OpenLaw} {w : World} {K : PySem.W.Frag} {h : Heap} {mg : Str → Option Value} {fa C_Strokes f_is_whole f_check_offset f_Strokes___init__ f_Strokes___and__ f_Strokes___len__ f_Strokes___or__ f_is_number f_check_number f_blocks f_row_of f_row_offsets f_length_of f_pattern f_Strokes___eq__ f_Strokes___rshift__ f_strokes_of f__law_row f__law_asked f__law_refused f__law_draw f__law_times f__law_number f__law_bag f_law f_Strokes___iter__ T_Strokes___init__ Ed_Strokes___init___0 T_pattern C_WheelError N_WheelError C_BadNumber N_BadNumber fI_BadNumber C_BadOffset N_BadOffset fI_BadOffset : Addr} {od_is_whole an_is_whole od_check_offset an_check_offset od_Strokes___init__ an_Strokes___init__ od_Strokes___and__ an_Strokes___and__ od_Strokes___len__ an_Strokes___len__ od_Strokes___or__ an_Strokes___or__ od_is_number an_is_number od_check_number an_check_number od_blocks an_blocks od_row_of an_row_of od_row_offsets an_row_offsets od_length_of an_length_of od_pattern an_pattern od_Strokes___eq__ an_Strokes___eq__ od_Strokes___rshift__ an_Strokes___rshift__ od_strokes_of an_strokes_of od__law_row an__law_row od__law_asked an__law_asked od__law_refused an__law_refused od__law_draw an__law_draw od__law_times an__law_times od__law_number an__law_number od__law_bag an__law_bag od_law an_law od_Strokes___iter__ an_Strokes___iter__ dT_Strokes___init__ dEd_Strokes___init___0 dT_pattern dd_WheelError dd_BadNumber od_BadNumber an_BadNumber dd_BadOffset od_BadOffset an_BadOffset : Option Addr} {sl_is_whole sl_check_offset sl_Strokes___init__ sl_Strokes___and__ sl_Strokes___len__ sl_Strokes___or__ sl_is_number sl_check_number sl_blocks sl_row_of sl_row_offsets sl_length_of sl_pattern sl_Strokes___eq__ sl_Strokes___rshift__ sl_strokes_of sl__law_row sl__law_asked sl__law_refused sl__law_draw sl__law_times sl__law_number sl__law_bag sl_law sl_Strokes___iter__ sT_Strokes___init__ sEd_Strokes___init___0 sT_pattern sl_BadNumber sl_BadOffset : Array (Option Value)} {oc_is_whole dc_is_whole pm_is_whole cd_is_whole ct_is_whole oc_check_offset dc_check_offset pm_check_offset cd_check_offset ct_check_offset oc_Strokes___init__ dc_Strokes___init__ pm_Strokes___init__ cd_Strokes___init__ ct_Strokes___init__ oc_Strokes___and__ dc_Strokes___and__ pm_Strokes___and__ cd_Strokes___and__ ct_Strokes___and__ oc_Strokes___len__ dc_Strokes___len__ pm_Strokes___len__ cd_Strokes___len__ ct_Strokes___len__ oc_Strokes___or__ dc_Strokes___or__ pm_Strokes___or__ cd_Strokes___or__ ct_Strokes___or__ oc_is_number dc_is_number pm_is_number cd_is_number ct_is_number oc_check_number dc_check_number pm_check_number cd_check_number ct_check_number oc_blocks dc_blocks pm_blocks cd_blocks ct_blocks oc_row_of dc_row_of pm_row_of cd_row_of ct_row_of oc_row_offsets dc_row_offsets pm_row_offsets cd_row_offsets ct_row_offsets oc_length_of dc_length_of pm_length_of cd_length_of ct_length_of oc_pattern dc_pattern pm_pattern cd_pattern ct_pattern oc_Strokes___eq__ dc_Strokes___eq__ pm_Strokes___eq__ cd_Strokes___eq__ ct_Strokes___eq__ oc_Strokes___rshift__ dc_Strokes___rshift__ pm_Strokes___rshift__ cd_Strokes___rshift__ ct_Strokes___rshift__ oc_strokes_of dc_strokes_of pm_strokes_of cd_strokes_of ct_strokes_of oc__law_row dc__law_row pm__law_row cd__law_row ct__law_row oc__law_asked dc__law_asked pm__law_asked cd__law_asked ct__law_asked oc__law_refused dc__law_refused pm__law_refused cd__law_refused ct__law_refused oc__law_draw dc__law_draw pm__law_draw cd__law_draw ct__law_draw oc__law_times dc__law_times pm__law_times cd__law_times ct__law_times oc__law_number dc__law_number pm__law_number cd__law_number ct__law_number oc__law_bag dc__law_bag pm__law_bag cd__law_bag ct__law_bag oc_law dc_law pm_law cd_law ct_law oc_Strokes___iter__ dc_Strokes___iter__ pm_Strokes___iter__ cd_Strokes___iter__ ct_Strokes___iter__ kV_is_whole kV_check_offset oT_Strokes___init__ kV_Strokes___init__ kV_Strokes___and__ kV_Strokes___len__ kV_Strokes___or__ kV_is_number kV_check_number kV_blocks kV_row_of kV_row_offsets kV_length_of oT_pattern kV_pattern kV_Strokes___eq__ kV_Strokes___rshift__ kV_strokes_of kV__law_row kV__law_asked kV__law_refused kV__law_draw kV__law_times kV__law_number kV__law_bag kV_law kV_Strokes___iter__ oc_BadNumber kV_BadNumber dc_BadNumber pm_BadNumber cd_BadNumber ct_BadNumber oc_BadOffset kV_BadOffset dc_BadOffset pm_BadOffset cd_BadOffset ct_BadOffset : Value} {nT_Strokes___init__ nEd_Strokes___init___0 nT_pattern : Nat} {td_pattern_0 tk_DIGITS tk_MOST_DIGITS tk_MOST_STROKES : Tok} {fo_and_NoneType ro_and_NoneType fo_and_bool ro_and_bool fo_and_int ro_and_int fo_and_str ro_and_str fo_and_tuple ro_and_tuple fo_and_list ro_and_list fo_and_dict ro_and_dict fo_or_NoneType ro_or_NoneType fo_or_bool ro_or_bool fo_or_int ro_or_int fo_or_str ro_or_str fo_or_tuple ro_or_tuple fo_or_list ro_or_list fo_or_dict ro_or_dict fo_rshift_NoneType ro_rshift_NoneType fo_rshift_bool ro_rshift_bool fo_rshift_int ro_rshift_int fo_rshift_str ro_rshift_str fo_rshift_tuple ro_rshift_tuple fo_rshift_list ro_rshift_list fo_rshift_dict ro_rshift_dict k0_WheelError k1_WheelError k2_WheelError k3_WheelError k5_WheelError k0_BadNumber k1_BadNumber k2_BadNumber k3_BadNumber k5_BadNumber k0_BadOffset k1_BadOffset k2_BadOffset k3_BadOffset k5_BadOffset : Option Value} {q_WheelError q_BadNumber q_BadOffset : Str} {bs_WheelError bm_WheelError sub_WheelError bs_BadNumber bm_BadNumber sub_BadNumber bs_BadOffset bm_BadOffset sub_BadOffset : List Value} {sn_WheelError sn_BadNumber sn_BadOffset : List Str} {ab_WheelError ab_BadNumber ab_BadOffset : Bool} {col_WheelError col_BadNumber col_BadOffset : Option Bool} (X : K.In h) (G : h.Ns mainGlobals mg) (hfa : mg "law" = some (.ref fa))
    (qc_Strokes : PySem.W.nsIn K mainGlobals "Strokes" = some (some (.ref C_Strokes)))
    (pg_Strokes : PySem.W.plainGet K C_Strokes Str.empty = true)
    (hd_Strokes : PySem.W.hasDictIn K C_Strokes = true)
    (po_Strokes : PySem.W.plainOver K C_Strokes = true)
    (sa_Strokes : PySem.W.findIn K (.ref C_Strokes) "__setattr__" = some (some (.builtin "object.__setattr__")))
    (mk_Strokes : PySem.W.makesIn K C_Strokes = true)
    (kp_Strokes : PySem.W.keepIn K (.ref C_Strokes) = true)
    (nf_Strokes_known : PySem.W.findIn K (.ref C_Strokes) "known" = some none)
    (nf_Strokes_offsets : PySem.W.findIn K (.ref C_Strokes) "offsets" = some none)
    (a_is_whole : PySem.W.nsIn K mainGlobals "is_whole" = some (some (.ref f_is_whole)))
    (a_check_offset : PySem.W.nsIn K mainGlobals "check_offset" = some (some (.ref f_check_offset)))
    (a_is_number : PySem.W.nsIn K mainGlobals "is_number" = some (some (.ref f_is_number)))
    (a_check_number : PySem.W.nsIn K mainGlobals "check_number" = some (some (.ref f_check_number)))
    (a_blocks : PySem.W.nsIn K mainGlobals "blocks" = some (some (.ref f_blocks)))
    (a_row_of : PySem.W.nsIn K mainGlobals "row_of" = some (some (.ref f_row_of)))
    (a_row_offsets : PySem.W.nsIn K mainGlobals "row_offsets" = some (some (.ref f_row_offsets)))
    (a_length_of : PySem.W.nsIn K mainGlobals "length_of" = some (some (.ref f_length_of)))
    (a_pattern : PySem.W.nsIn K mainGlobals "pattern" = some (some (.ref f_pattern)))
    (a_strokes_of : PySem.W.nsIn K mainGlobals "strokes_of" = some (some (.ref f_strokes_of)))
    (a__law_row : PySem.W.nsIn K mainGlobals "_law_row" = some (some (.ref f__law_row)))
    (a__law_asked : PySem.W.nsIn K mainGlobals "_law_asked" = some (some (.ref f__law_asked)))
    (a__law_refused : PySem.W.nsIn K mainGlobals "_law_refused" = some (some (.ref f__law_refused)))
    (a__law_draw : PySem.W.nsIn K mainGlobals "_law_draw" = some (some (.ref f__law_draw)))
    (a__law_times : PySem.W.nsIn K mainGlobals "_law_times" = some (some (.ref f__law_times)))
    (a__law_number : PySem.W.nsIn K mainGlobals "_law_number" = some (some (.ref f__law_number)))
    (a__law_bag : PySem.W.nsIn K mainGlobals "_law_bag" = some (some (.ref f__law_bag)))
    (a_law : PySem.W.nsIn K mainGlobals "law" = some (some (.ref f_law)))
    (mt_Strokes_Strokes___and__ : PySem.W.findIn K (.ref C_Strokes) "__and__" = some (some (.ref f_Strokes___and__)))
    (mt_Strokes_Strokes___eq__ : PySem.W.findIn K (.ref C_Strokes) "__eq__" = some (some (.ref f_Strokes___eq__)))
    (mt_Strokes_Strokes___init__ : PySem.W.findIn K (.ref C_Strokes) "__init__" = some (some (.ref f_Strokes___init__)))
    (mt_Strokes_Strokes___iter__ : PySem.W.findIn K (.ref C_Strokes) "__iter__" = some (some (.ref f_Strokes___iter__)))
    (mt_Strokes_Strokes___len__ : PySem.W.findIn K (.ref C_Strokes) "__len__" = some (some (.ref f_Strokes___len__)))
    (mt_Strokes_Strokes___or__ : PySem.W.findIn K (.ref C_Strokes) "__or__" = some (some (.ref f_Strokes___or__)))
    (mt_Strokes_Strokes___rshift__ : PySem.W.findIn K (.ref C_Strokes) "__rshift__" = some (some (.ref f_Strokes___rshift__)))
    (l_is_whole : K.lookup f_is_whole = some ⟨oc_is_whole, od_is_whole, .func (PySem.W.fnOf "is_whole" "is_whole" (defArgs st_is_whole) (defBody st_is_whole) (defScope st_is_whole) .none kV_is_whole dc_is_whole pm_is_whole an_is_whole cd_is_whole ct_is_whole), sl_is_whole⟩)
    (c_is_whole : PySem.W.codeIn K cd_is_whole "is_whole" = true)
    (k_is_whole : PySem.W.keepIn K (.ref f_is_whole) = true)
    (l_check_offset : K.lookup f_check_offset = some ⟨oc_check_offset, od_check_offset, .func (PySem.W.fnOf "check_offset" "check_offset" (defArgs st_check_offset) (defBody st_check_offset) (defScope st_check_offset) .none kV_check_offset dc_check_offset pm_check_offset an_check_offset cd_check_offset ct_check_offset), sl_check_offset⟩)
    (c_check_offset : PySem.W.codeIn K cd_check_offset "check_offset" = true)
    (k_check_offset : PySem.W.keepIn K (.ref f_check_offset) = true)
    (l_Strokes___init__ : K.lookup f_Strokes___init__ = some ⟨oc_Strokes___init__, od_Strokes___init__, .func (PySem.W.fnOf "__init__" "Strokes.__init__" (defArgs st_Strokes___init__) (defBody st_Strokes___init__) (defScope st_Strokes___init__) (.ref T_Strokes___init__) kV_Strokes___init__ dc_Strokes___init__ pm_Strokes___init__ an_Strokes___init__ cd_Strokes___init__ ct_Strokes___init__), sl_Strokes___init__⟩)
    (c_Strokes___init__ : PySem.W.codeIn K cd_Strokes___init__ "Strokes.__init__" = true)
    (k_Strokes___init__ : PySem.W.keepIn K (.ref f_Strokes___init__) = true)
    (isf_Strokes___init__ : PySem.W.isFn K (.ref f_Strokes___init__) = true)
    (lT_Strokes___init__ : K.lookup T_Strokes___init__ = some ⟨oT_Strokes___init__, dT_Strokes___init__, .seq #[.ref Ed_Strokes___init___0] nT_Strokes___init__, sT_Strokes___init__⟩)
    (lEd_Strokes___init___0 : K.lookup Ed_Strokes___init___0 = some ⟨.type "tuple", dEd_Strokes___init___0, .seq #[] nEd_Strokes___init___0, sEd_Strokes___init___0⟩)
    (l_Strokes___and__ : K.lookup f_Strokes___and__ = some ⟨oc_Strokes___and__, od_Strokes___and__, .func (PySem.W.fnOf "__and__" "Strokes.__and__" (defArgs st_Strokes___and__) (defBody st_Strokes___and__) (defScope st_Strokes___and__) .none kV_Strokes___and__ dc_Strokes___and__ pm_Strokes___and__ an_Strokes___and__ cd_Strokes___and__ ct_Strokes___and__), sl_Strokes___and__⟩)
    (c_Strokes___and__ : PySem.W.codeIn K cd_Strokes___and__ "Strokes.__and__" = true)
    (k_Strokes___and__ : PySem.W.keepIn K (.ref f_Strokes___and__) = true)
    (isf_Strokes___and__ : PySem.W.isFn K (.ref f_Strokes___and__) = true)
    (l_Strokes___len__ : K.lookup f_Strokes___len__ = some ⟨oc_Strokes___len__, od_Strokes___len__, .func (PySem.W.fnOf "__len__" "Strokes.__len__" (defArgs st_Strokes___len__) (defBody st_Strokes___len__) (defScope st_Strokes___len__) .none kV_Strokes___len__ dc_Strokes___len__ pm_Strokes___len__ an_Strokes___len__ cd_Strokes___len__ ct_Strokes___len__), sl_Strokes___len__⟩)
    (c_Strokes___len__ : PySem.W.codeIn K cd_Strokes___len__ "Strokes.__len__" = true)
    (k_Strokes___len__ : PySem.W.keepIn K (.ref f_Strokes___len__) = true)
    (isf_Strokes___len__ : PySem.W.isFn K (.ref f_Strokes___len__) = true)
    (l_Strokes___or__ : K.lookup f_Strokes___or__ = some ⟨oc_Strokes___or__, od_Strokes___or__, .func (PySem.W.fnOf "__or__" "Strokes.__or__" (defArgs st_Strokes___or__) (defBody st_Strokes___or__) (defScope st_Strokes___or__) .none kV_Strokes___or__ dc_Strokes___or__ pm_Strokes___or__ an_Strokes___or__ cd_Strokes___or__ ct_Strokes___or__), sl_Strokes___or__⟩)
    (c_Strokes___or__ : PySem.W.codeIn K cd_Strokes___or__ "Strokes.__or__" = true)
    (k_Strokes___or__ : PySem.W.keepIn K (.ref f_Strokes___or__) = true)
    (isf_Strokes___or__ : PySem.W.isFn K (.ref f_Strokes___or__) = true)
    (l_is_number : K.lookup f_is_number = some ⟨oc_is_number, od_is_number, .func (PySem.W.fnOf "is_number" "is_number" (defArgs st_is_number) (defBody st_is_number) (defScope st_is_number) .none kV_is_number dc_is_number pm_is_number an_is_number cd_is_number ct_is_number), sl_is_number⟩)
    (c_is_number : PySem.W.codeIn K cd_is_number "is_number" = true)
    (k_is_number : PySem.W.keepIn K (.ref f_is_number) = true)
    (l_check_number : K.lookup f_check_number = some ⟨oc_check_number, od_check_number, .func (PySem.W.fnOf "check_number" "check_number" (defArgs st_check_number) (defBody st_check_number) (defScope st_check_number) .none kV_check_number dc_check_number pm_check_number an_check_number cd_check_number ct_check_number), sl_check_number⟩)
    (c_check_number : PySem.W.codeIn K cd_check_number "check_number" = true)
    (k_check_number : PySem.W.keepIn K (.ref f_check_number) = true)
    (l_blocks : K.lookup f_blocks = some ⟨oc_blocks, od_blocks, .func (PySem.W.fnOf "blocks" "blocks" (defArgs st_blocks) (defBody st_blocks) (defScope st_blocks) .none kV_blocks dc_blocks pm_blocks an_blocks cd_blocks ct_blocks), sl_blocks⟩)
    (c_blocks : PySem.W.codeIn K cd_blocks "blocks" = true)
    (k_blocks : PySem.W.keepIn K (.ref f_blocks) = true)
    (l_row_of : K.lookup f_row_of = some ⟨oc_row_of, od_row_of, .func (PySem.W.fnOf "row_of" "row_of" (defArgs st_row_of) (defBody st_row_of) (defScope st_row_of) .none kV_row_of dc_row_of pm_row_of an_row_of cd_row_of ct_row_of), sl_row_of⟩)
    (c_row_of : PySem.W.codeIn K cd_row_of "row_of" = true)
    (k_row_of : PySem.W.keepIn K (.ref f_row_of) = true)
    (l_row_offsets : K.lookup f_row_offsets = some ⟨oc_row_offsets, od_row_offsets, .func (PySem.W.fnOf "row_offsets" "row_offsets" (defArgs st_row_offsets) (defBody st_row_offsets) (defScope st_row_offsets) .none kV_row_offsets dc_row_offsets pm_row_offsets an_row_offsets cd_row_offsets ct_row_offsets), sl_row_offsets⟩)
    (c_row_offsets : PySem.W.codeIn K cd_row_offsets "row_offsets" = true)
    (k_row_offsets : PySem.W.keepIn K (.ref f_row_offsets) = true)
    (l_length_of : K.lookup f_length_of = some ⟨oc_length_of, od_length_of, .func (PySem.W.fnOf "length_of" "length_of" (defArgs st_length_of) (defBody st_length_of) (defScope st_length_of) .none kV_length_of dc_length_of pm_length_of an_length_of cd_length_of ct_length_of), sl_length_of⟩)
    (c_length_of : PySem.W.codeIn K cd_length_of "length_of" = true)
    (k_length_of : PySem.W.keepIn K (.ref f_length_of) = true)
    (l_pattern : K.lookup f_pattern = some ⟨oc_pattern, od_pattern, .func (PySem.W.fnOf "pattern" "pattern" (defArgs st_pattern) (defBody st_pattern) (defScope st_pattern) (.ref T_pattern) kV_pattern dc_pattern pm_pattern an_pattern cd_pattern ct_pattern), sl_pattern⟩)
    (c_pattern : PySem.W.codeIn K cd_pattern "pattern" = true)
    (k_pattern : PySem.W.keepIn K (.ref f_pattern) = true)
    (lT_pattern : K.lookup T_pattern = some ⟨oT_pattern, dT_pattern, .seq #[.int 1 td_pattern_0] nT_pattern, sT_pattern⟩)
    (l_Strokes___eq__ : K.lookup f_Strokes___eq__ = some ⟨oc_Strokes___eq__, od_Strokes___eq__, .func (PySem.W.fnOf "__eq__" "Strokes.__eq__" (defArgs st_Strokes___eq__) (defBody st_Strokes___eq__) (defScope st_Strokes___eq__) .none kV_Strokes___eq__ dc_Strokes___eq__ pm_Strokes___eq__ an_Strokes___eq__ cd_Strokes___eq__ ct_Strokes___eq__), sl_Strokes___eq__⟩)
    (c_Strokes___eq__ : PySem.W.codeIn K cd_Strokes___eq__ "Strokes.__eq__" = true)
    (k_Strokes___eq__ : PySem.W.keepIn K (.ref f_Strokes___eq__) = true)
    (isf_Strokes___eq__ : PySem.W.isFn K (.ref f_Strokes___eq__) = true)
    (l_Strokes___rshift__ : K.lookup f_Strokes___rshift__ = some ⟨oc_Strokes___rshift__, od_Strokes___rshift__, .func (PySem.W.fnOf "__rshift__" "Strokes.__rshift__" (defArgs st_Strokes___rshift__) (defBody st_Strokes___rshift__) (defScope st_Strokes___rshift__) .none kV_Strokes___rshift__ dc_Strokes___rshift__ pm_Strokes___rshift__ an_Strokes___rshift__ cd_Strokes___rshift__ ct_Strokes___rshift__), sl_Strokes___rshift__⟩)
    (c_Strokes___rshift__ : PySem.W.codeIn K cd_Strokes___rshift__ "Strokes.__rshift__" = true)
    (k_Strokes___rshift__ : PySem.W.keepIn K (.ref f_Strokes___rshift__) = true)
    (isf_Strokes___rshift__ : PySem.W.isFn K (.ref f_Strokes___rshift__) = true)
    (l_strokes_of : K.lookup f_strokes_of = some ⟨oc_strokes_of, od_strokes_of, .func (PySem.W.fnOf "strokes_of" "strokes_of" (defArgs st_strokes_of) (defBody st_strokes_of) (defScope st_strokes_of) .none kV_strokes_of dc_strokes_of pm_strokes_of an_strokes_of cd_strokes_of ct_strokes_of), sl_strokes_of⟩)
    (c_strokes_of : PySem.W.codeIn K cd_strokes_of "strokes_of" = true)
    (k_strokes_of : PySem.W.keepIn K (.ref f_strokes_of) = true)
    (l__law_row : K.lookup f__law_row = some ⟨oc__law_row, od__law_row, .func (PySem.W.fnOf "_law_row" "_law_row" (defArgs st__law_row) (defBody st__law_row) (defScope st__law_row) .none kV__law_row dc__law_row pm__law_row an__law_row cd__law_row ct__law_row), sl__law_row⟩)
    (c__law_row : PySem.W.codeIn K cd__law_row "_law_row" = true)
    (k__law_row : PySem.W.keepIn K (.ref f__law_row) = true)
    (l__law_asked : K.lookup f__law_asked = some ⟨oc__law_asked, od__law_asked, .func (PySem.W.fnOf "_law_asked" "_law_asked" (defArgs st__law_asked) (defBody st__law_asked) (defScope st__law_asked) .none kV__law_asked dc__law_asked pm__law_asked an__law_asked cd__law_asked ct__law_asked), sl__law_asked⟩)
    (c__law_asked : PySem.W.codeIn K cd__law_asked "_law_asked" = true)
    (k__law_asked : PySem.W.keepIn K (.ref f__law_asked) = true)
    (l__law_refused : K.lookup f__law_refused = some ⟨oc__law_refused, od__law_refused, .func (PySem.W.fnOf "_law_refused" "_law_refused" (defArgs st__law_refused) (defBody st__law_refused) (defScope st__law_refused) .none kV__law_refused dc__law_refused pm__law_refused an__law_refused cd__law_refused ct__law_refused), sl__law_refused⟩)
    (c__law_refused : PySem.W.codeIn K cd__law_refused "_law_refused" = true)
    (k__law_refused : PySem.W.keepIn K (.ref f__law_refused) = true)
    (l__law_draw : K.lookup f__law_draw = some ⟨oc__law_draw, od__law_draw, .func (PySem.W.fnOf "_law_draw" "_law_draw" (defArgs st__law_draw) (defBody st__law_draw) (defScope st__law_draw) .none kV__law_draw dc__law_draw pm__law_draw an__law_draw cd__law_draw ct__law_draw), sl__law_draw⟩)
    (c__law_draw : PySem.W.codeIn K cd__law_draw "_law_draw" = true)
    (k__law_draw : PySem.W.keepIn K (.ref f__law_draw) = true)
    (l__law_times : K.lookup f__law_times = some ⟨oc__law_times, od__law_times, .func (PySem.W.fnOf "_law_times" "_law_times" (defArgs st__law_times) (defBody st__law_times) (defScope st__law_times) .none kV__law_times dc__law_times pm__law_times an__law_times cd__law_times ct__law_times), sl__law_times⟩)
    (c__law_times : PySem.W.codeIn K cd__law_times "_law_times" = true)
    (k__law_times : PySem.W.keepIn K (.ref f__law_times) = true)
    (l__law_number : K.lookup f__law_number = some ⟨oc__law_number, od__law_number, .func (PySem.W.fnOf "_law_number" "_law_number" (defArgs st__law_number) (defBody st__law_number) (defScope st__law_number) .none kV__law_number dc__law_number pm__law_number an__law_number cd__law_number ct__law_number), sl__law_number⟩)
    (c__law_number : PySem.W.codeIn K cd__law_number "_law_number" = true)
    (k__law_number : PySem.W.keepIn K (.ref f__law_number) = true)
    (l__law_bag : K.lookup f__law_bag = some ⟨oc__law_bag, od__law_bag, .func (PySem.W.fnOf "_law_bag" "_law_bag" (defArgs st__law_bag) (defBody st__law_bag) (defScope st__law_bag) .none kV__law_bag dc__law_bag pm__law_bag an__law_bag cd__law_bag ct__law_bag), sl__law_bag⟩)
    (c__law_bag : PySem.W.codeIn K cd__law_bag "_law_bag" = true)
    (k__law_bag : PySem.W.keepIn K (.ref f__law_bag) = true)
    (l_law : K.lookup f_law = some ⟨oc_law, od_law, .func (PySem.W.fnOf "law" "law" (defArgs st_law) (defBody st_law) (defScope st_law) .none kV_law dc_law pm_law an_law cd_law ct_law), sl_law⟩)
    (c_law : PySem.W.codeIn K cd_law "law" = true)
    (k_law : PySem.W.keepIn K (.ref f_law) = true)
    (l_Strokes___iter__ : K.lookup f_Strokes___iter__ = some ⟨oc_Strokes___iter__, od_Strokes___iter__, .func (PySem.W.fnOf "__iter__" "Strokes.__iter__" (defArgs st_Strokes___iter__) (defBody st_Strokes___iter__) (defScope st_Strokes___iter__) .none kV_Strokes___iter__ dc_Strokes___iter__ pm_Strokes___iter__ an_Strokes___iter__ cd_Strokes___iter__ ct_Strokes___iter__), sl_Strokes___iter__⟩)
    (c_Strokes___iter__ : PySem.W.codeIn K cd_Strokes___iter__ "Strokes.__iter__" = true)
    (k_Strokes___iter__ : PySem.W.keepIn K (.ref f_Strokes___iter__) = true)
    (isf_Strokes___iter__ : PySem.W.isFn K (.ref f_Strokes___iter__) = true)
    (z_bool : PySem.W.nsIn K mainGlobals "bool" = some none)
    (z_enumerate : PySem.W.nsIn K mainGlobals "enumerate" = some none)
    (z_int : PySem.W.nsIn K mainGlobals "int" = some none)
    (z_isinstance : PySem.W.nsIn K mainGlobals "isinstance" = some none)
    (z_iter : PySem.W.nsIn K mainGlobals "iter" = some none)
    (z_len : PySem.W.nsIn K mainGlobals "len" = some none)
    (z_list : PySem.W.nsIn K mainGlobals "list" = some none)
    (z_min : PySem.W.nsIn K mainGlobals "min" = some none)
    (z_range : PySem.W.nsIn K mainGlobals "range" = some none)
    (z_repr : PySem.W.nsIn K mainGlobals "repr" = some none)
    (z_set : PySem.W.nsIn K mainGlobals "set" = some none)
    (z_sorted : PySem.W.nsIn K mainGlobals "sorted" = some none)
    (z_str : PySem.W.nsIn K mainGlobals "str" = some none)
    (z_sum : PySem.W.nsIn K mainGlobals "sum" = some none)
    (z_tuple : PySem.W.nsIn K mainGlobals "tuple" = some none)
    (y_DIGITS : PySem.W.nsIn K mainGlobals "DIGITS" = some (some (.str "123456789" tk_DIGITS)))
    (y_MOST_DIGITS : PySem.W.nsIn K mainGlobals "MOST_DIGITS" = some (some (.int 4 tk_MOST_DIGITS)))
    (y_MOST_STROKES : PySem.W.nsIn K mainGlobals "MOST_STROKES" = some (some (.int 24 tk_MOST_STROKES)))
    (bo_and_NoneType : PySem.W.findIn K (.type "NoneType") "__and__" = some fo_and_NoneType)
    (br_and_NoneType : PySem.W.findIn K (.type "NoneType") "__rand__" = some ro_and_NoneType)
    (bo_and_bool : PySem.W.findIn K (.type "bool") "__and__" = some fo_and_bool)
    (br_and_bool : PySem.W.findIn K (.type "bool") "__rand__" = some ro_and_bool)
    (bo_and_int : PySem.W.findIn K (.type "int") "__and__" = some fo_and_int)
    (br_and_int : PySem.W.findIn K (.type "int") "__rand__" = some ro_and_int)
    (bo_and_str : PySem.W.findIn K (.type "str") "__and__" = some fo_and_str)
    (br_and_str : PySem.W.findIn K (.type "str") "__rand__" = some ro_and_str)
    (bo_and_tuple : PySem.W.findIn K (.type "tuple") "__and__" = some fo_and_tuple)
    (br_and_tuple : PySem.W.findIn K (.type "tuple") "__rand__" = some ro_and_tuple)
    (bo_and_list : PySem.W.findIn K (.type "list") "__and__" = some fo_and_list)
    (br_and_list : PySem.W.findIn K (.type "list") "__rand__" = some ro_and_list)
    (bo_and_dict : PySem.W.findIn K (.type "dict") "__and__" = some fo_and_dict)
    (br_and_dict : PySem.W.findIn K (.type "dict") "__rand__" = some ro_and_dict)
    (rr_and_Strokes : PySem.W.findIn K (.ref C_Strokes) "__rand__" = some none)
    (bo_or_NoneType : PySem.W.findIn K (.type "NoneType") "__or__" = some fo_or_NoneType)
    (br_or_NoneType : PySem.W.findIn K (.type "NoneType") "__ror__" = some ro_or_NoneType)
    (bo_or_bool : PySem.W.findIn K (.type "bool") "__or__" = some fo_or_bool)
    (br_or_bool : PySem.W.findIn K (.type "bool") "__ror__" = some ro_or_bool)
    (bo_or_int : PySem.W.findIn K (.type "int") "__or__" = some fo_or_int)
    (br_or_int : PySem.W.findIn K (.type "int") "__ror__" = some ro_or_int)
    (bo_or_str : PySem.W.findIn K (.type "str") "__or__" = some fo_or_str)
    (br_or_str : PySem.W.findIn K (.type "str") "__ror__" = some ro_or_str)
    (bo_or_tuple : PySem.W.findIn K (.type "tuple") "__or__" = some fo_or_tuple)
    (br_or_tuple : PySem.W.findIn K (.type "tuple") "__ror__" = some ro_or_tuple)
    (bo_or_list : PySem.W.findIn K (.type "list") "__or__" = some fo_or_list)
    (br_or_list : PySem.W.findIn K (.type "list") "__ror__" = some ro_or_list)
    (bo_or_dict : PySem.W.findIn K (.type "dict") "__or__" = some fo_or_dict)
    (br_or_dict : PySem.W.findIn K (.type "dict") "__ror__" = some ro_or_dict)
    (rr_or_Strokes : PySem.W.findIn K (.ref C_Strokes) "__ror__" = some none)
    (bo_rshift_NoneType : PySem.W.findIn K (.type "NoneType") "__rshift__" = some fo_rshift_NoneType)
    (br_rshift_NoneType : PySem.W.findIn K (.type "NoneType") "__rrshift__" = some ro_rshift_NoneType)
    (bo_rshift_bool : PySem.W.findIn K (.type "bool") "__rshift__" = some fo_rshift_bool)
    (br_rshift_bool : PySem.W.findIn K (.type "bool") "__rrshift__" = some ro_rshift_bool)
    (bo_rshift_int : PySem.W.findIn K (.type "int") "__rshift__" = some fo_rshift_int)
    (br_rshift_int : PySem.W.findIn K (.type "int") "__rrshift__" = some ro_rshift_int)
    (bo_rshift_str : PySem.W.findIn K (.type "str") "__rshift__" = some fo_rshift_str)
    (br_rshift_str : PySem.W.findIn K (.type "str") "__rrshift__" = some ro_rshift_str)
    (bo_rshift_tuple : PySem.W.findIn K (.type "tuple") "__rshift__" = some fo_rshift_tuple)
    (br_rshift_tuple : PySem.W.findIn K (.type "tuple") "__rrshift__" = some ro_rshift_tuple)
    (bo_rshift_list : PySem.W.findIn K (.type "list") "__rshift__" = some fo_rshift_list)
    (br_rshift_list : PySem.W.findIn K (.type "list") "__rrshift__" = some ro_rshift_list)
    (bo_rshift_dict : PySem.W.findIn K (.type "dict") "__rshift__" = some fo_rshift_dict)
    (br_rshift_dict : PySem.W.findIn K (.type "dict") "__rrshift__" = some ro_rshift_dict)
    (rr_rshift_Strokes : PySem.W.findIn K (.ref C_Strokes) "__rrshift__" = some none)
    (sf_Strokes : PySem.W.selfFirst K C_Strokes = true)
    (su_NoneType_Strokes : PySem.W.subIn K (.type "NoneType") (.ref C_Strokes) = some false)
    (su_bool_Strokes : PySem.W.subIn K (.type "bool") (.ref C_Strokes) = some false)
    (su_int_Strokes : PySem.W.subIn K (.type "int") (.ref C_Strokes) = some false)
    (su_str_Strokes : PySem.W.subIn K (.type "str") (.ref C_Strokes) = some false)
    (su_tuple_Strokes : PySem.W.subIn K (.type "tuple") (.ref C_Strokes) = some false)
    (su_list_Strokes : PySem.W.subIn K (.type "list") (.ref C_Strokes) = some false)
    (su_dict_Strokes : PySem.W.subIn K (.type "dict") (.ref C_Strokes) = some false)
    (ne_Strokes : PySem.W.findIn K (.ref C_Strokes) "__ne__" = some (some (.builtin "object.__ne__")))
    (ob_Strokes : PySem.W.subIn K (.ref C_Strokes) (.type "object") = some true)
    (ca_Strokes : PySem.W.findIn K (.ref C_Strokes) "__class__" = some (some (.builtin "object.__class__")))
    (mo_Strokes : PySem.W.mroIn K C_Strokes (.type "object") = some true)
    (ki_Strokes_Strokes : PySem.W.subIn K (.ref C_Strokes) (.ref C_Strokes) = some true)
    (tc_Strokes : PySem.W.typeIn K (.ref C_Strokes) = some (.type "type"))
    (kt_NoneType_Strokes : PySem.W.subIn K (.type "NoneType") (.ref C_Strokes) = some false)
    (kt_bool_Strokes : PySem.W.subIn K (.type "bool") (.ref C_Strokes) = some false)
    (kt_int_Strokes : PySem.W.subIn K (.type "int") (.ref C_Strokes) = some false)
    (kt_str_Strokes : PySem.W.subIn K (.type "str") (.ref C_Strokes) = some false)
    (kt_tuple_Strokes : PySem.W.subIn K (.type "tuple") (.ref C_Strokes) = some false)
    (kt_list_Strokes : PySem.W.subIn K (.type "list") (.ref C_Strokes) = some false)
    (kt_dict_Strokes : PySem.W.subIn K (.type "dict") (.ref C_Strokes) = some false)
    (qc_WheelError : PySem.W.nsIn K mainGlobals "WheelError" = some (some (.ref C_WheelError)))
    (lc_WheelError : K.lookup C_WheelError = some (excClassObj "WheelError" q_WheelError C_WheelError N_WheelError bs_WheelError bm_WheelError true sn_WheelError sub_WheelError ab_WheelError col_WheelError dd_WheelError k0_WheelError k1_WheelError k2_WheelError k3_WheelError k5_WheelError "ValueError.__new__"))
    (vc_WheelError : PySem.HandSPX.refsVE bm_WheelError = true)
    (sa_WheelError : PySem.W.findIn K (.ref C_WheelError) "__setattr__" = some (some (.builtin "object.__setattr__")))
    (sx_WheelError : PySem.W.subIn K (.ref C_WheelError) (.type "BaseException") = some true)
    (ty_WheelError : PySem.W.typeIn K (.ref C_WheelError) = some (.type "type"))
    (kx_WheelError : PySem.W.keepIn K (.ref C_WheelError) = true)
    (ga_WheelError : PySem.W.findIn K (.ref C_WheelError) "__getattribute__" = some (some (.builtin "BaseException.__getattribute__")))
    (gg_WheelError : PySem.W.findIn K (.ref C_WheelError) "__getattr__" = some none)
    (hd_WheelError : PySem.W.hasDictIn K C_WheelError = true)
    (ca_WheelError : PySem.W.findIn K (.ref C_WheelError) "__class__" = some (some (.builtin "object.__class__")))
    (mo_WheelError : PySem.W.mroIn K C_WheelError (.type "object") = some true)
    (rb_WheelError : PySem.W.readsIn K C_WheelError (.type "type") = true)
    (gb_WheelError : PySem.W.specialIn K (.ref C_WheelError) "__getattribute__" = some (some (.builtin "type.__getattribute__")))
    (vb_WheelError : PySem.W.findCls K (.ref C_WheelError) (.type "type") "__init__" = some (.val (.builtin "ValueError.__init__")))
    (qc_BadNumber : PySem.W.nsIn K mainGlobals "BadNumber" = some (some (.ref C_BadNumber)))
    (lc_BadNumber : K.lookup C_BadNumber = some (excClassObj "BadNumber" q_BadNumber C_BadNumber N_BadNumber bs_BadNumber bm_BadNumber true sn_BadNumber sub_BadNumber ab_BadNumber col_BadNumber dd_BadNumber k0_BadNumber k1_BadNumber k2_BadNumber k3_BadNumber k5_BadNumber "ValueError.__new__"))
    (vc_BadNumber : PySem.HandSPX.refsVE bm_BadNumber = true)
    (sa_BadNumber : PySem.W.findIn K (.ref C_BadNumber) "__setattr__" = some (some (.builtin "object.__setattr__")))
    (sx_BadNumber : PySem.W.subIn K (.ref C_BadNumber) (.type "BaseException") = some true)
    (ty_BadNumber : PySem.W.typeIn K (.ref C_BadNumber) = some (.type "type"))
    (kx_BadNumber : PySem.W.keepIn K (.ref C_BadNumber) = true)
    (ga_BadNumber : PySem.W.findIn K (.ref C_BadNumber) "__getattribute__" = some (some (.builtin "BaseException.__getattribute__")))
    (gg_BadNumber : PySem.W.findIn K (.ref C_BadNumber) "__getattr__" = some none)
    (hd_BadNumber : PySem.W.hasDictIn K C_BadNumber = true)
    (ca_BadNumber : PySem.W.findIn K (.ref C_BadNumber) "__class__" = some (some (.builtin "object.__class__")))
    (mo_BadNumber : PySem.W.mroIn K C_BadNumber (.type "object") = some true)
    (fi_BadNumber : PySem.W.findIn K (.ref C_BadNumber) "__init__" = some (some (.ref fI_BadNumber)))
    (ti_BadNumber : PySem.W.typeIn K (.ref fI_BadNumber) = some (.type "function"))
    (li_BadNumber : K.lookup fI_BadNumber = some ⟨oc_BadNumber, od_BadNumber, .func (PySem.W.fnOf "__init__" "BadNumber.__init__" (defArgs st_BadNumber) (defBody st_BadNumber) (defScope st_BadNumber) .none kV_BadNumber dc_BadNumber pm_BadNumber an_BadNumber cd_BadNumber ct_BadNumber), sl_BadNumber⟩)
    (ci_BadNumber : PySem.W.codeIn K cd_BadNumber "BadNumber.__init__" = true)
    (ki_BadNumber : PySem.W.keepIn K (.ref fI_BadNumber) = true)
    (ff_BadNumber_number : PySem.W.findIn K (.ref C_BadNumber) "number" = some none)
    (qc_BadOffset : PySem.W.nsIn K mainGlobals "BadOffset" = some (some (.ref C_BadOffset)))
    (lc_BadOffset : K.lookup C_BadOffset = some (excClassObj "BadOffset" q_BadOffset C_BadOffset N_BadOffset bs_BadOffset bm_BadOffset true sn_BadOffset sub_BadOffset ab_BadOffset col_BadOffset dd_BadOffset k0_BadOffset k1_BadOffset k2_BadOffset k3_BadOffset k5_BadOffset "ValueError.__new__"))
    (vc_BadOffset : PySem.HandSPX.refsVE bm_BadOffset = true)
    (sa_BadOffset : PySem.W.findIn K (.ref C_BadOffset) "__setattr__" = some (some (.builtin "object.__setattr__")))
    (sx_BadOffset : PySem.W.subIn K (.ref C_BadOffset) (.type "BaseException") = some true)
    (ty_BadOffset : PySem.W.typeIn K (.ref C_BadOffset) = some (.type "type"))
    (kx_BadOffset : PySem.W.keepIn K (.ref C_BadOffset) = true)
    (ga_BadOffset : PySem.W.findIn K (.ref C_BadOffset) "__getattribute__" = some (some (.builtin "BaseException.__getattribute__")))
    (gg_BadOffset : PySem.W.findIn K (.ref C_BadOffset) "__getattr__" = some none)
    (hd_BadOffset : PySem.W.hasDictIn K C_BadOffset = true)
    (ca_BadOffset : PySem.W.findIn K (.ref C_BadOffset) "__class__" = some (some (.builtin "object.__class__")))
    (mo_BadOffset : PySem.W.mroIn K C_BadOffset (.type "object") = some true)
    (fi_BadOffset : PySem.W.findIn K (.ref C_BadOffset) "__init__" = some (some (.ref fI_BadOffset)))
    (ti_BadOffset : PySem.W.typeIn K (.ref fI_BadOffset) = some (.type "function"))
    (li_BadOffset : K.lookup fI_BadOffset = some ⟨oc_BadOffset, od_BadOffset, .func (PySem.W.fnOf "__init__" "BadOffset.__init__" (defArgs st_BadOffset) (defBody st_BadOffset) (defScope st_BadOffset) .none kV_BadOffset dc_BadOffset pm_BadOffset an_BadOffset cd_BadOffset ct_BadOffset), sl_BadOffset⟩)
    (ci_BadOffset : PySem.W.codeIn K cd_BadOffset "BadOffset.__init__" = true)
    (ki_BadOffset : PySem.W.keepIn K (.ref fI_BadOffset) = true)
    (ff_BadOffset_offset : PySem.W.findIn K (.ref C_BadOffset) "offset" = some none)
    (su_BadOffset_BadNumber : PySem.W.subIn K (.ref C_BadOffset) (.ref C_BadNumber) = some false)
    (su_BadNumber_BadNumber : PySem.W.subIn K (.ref C_BadNumber) (.ref C_BadNumber) = some true)
    (on_ : PySem.W.specialIn K (.builtin "object.__class__") "__get__" = some (some (.builtin "getset_descriptor.__get__")))
    (ot_ : PySem.W.takesIn K (.builtin "object.__class__") = some true) :
    ∃ fd : FuncData, (∀ (s : Shared) (v : Value), BindsTo s fd ⟨[v], []⟩ [("script", v)]) ∧ ∀ base : Heap, K.In base → base.Ns mainGlobals mg → FnG l.prog w K mg base 9 fa fd ["script"] (spLaw K) := by
  have e := hfa.symm.trans (PySem.W.mg_of X G a_law)
  cases e
  have mg_Strokes := PySem.W.mg_of X G qc_Strokes
  have cl_Strokes : Cls K C_Strokes := ⟨pg_Strokes, hd_Strokes, po_Strokes, sa_Strokes⟩
  have mg_WheelError := PySem.W.mg_of X G qc_WheelError
  have R_WheelError : XRaw K "WheelError" C_WheelError := ⟨⟨_, _, _, _, _, _, _, _, _, _, _, _, _, _, lc_WheelError, vc_WheelError⟩, sa_WheelError, sx_WheelError, ty_WheelError, kx_WheelError, ga_WheelError, gg_WheelError, hd_WheelError, ca_WheelError, mo_WheelError⟩
  have mg_BadNumber := PySem.W.mg_of X G qc_BadNumber
  have R_BadNumber : XRaw K "BadNumber" C_BadNumber := ⟨⟨_, _, _, _, _, _, _, _, _, _, _, _, _, _, lc_BadNumber, vc_BadNumber⟩, sa_BadNumber, sx_BadNumber, ty_BadNumber, kx_BadNumber, ga_BadNumber, gg_BadNumber, hd_BadNumber, ca_BadNumber, mo_BadNumber⟩
  have mg_BadOffset := PySem.W.mg_of X G qc_BadOffset
  have R_BadOffset : XRaw K "BadOffset" C_BadOffset := ⟨⟨_, _, _, _, _, _, _, _, _, _, _, _, _, _, lc_BadOffset, vc_BadOffset⟩, sa_BadOffset, sx_BadOffset, ty_BadOffset, kx_BadOffset, ga_BadOffset, gg_BadOffset, hd_BadOffset, ca_BadOffset, mo_BadOffset⟩
  have T : Txt K mg := ⟨PySem.W.mg_none_of X G z_bool, PySem.W.mg_none_of X G z_enumerate, PySem.W.mg_none_of X G z_int, PySem.W.mg_none_of X G z_isinstance, PySem.W.mg_none_of X G z_iter, PySem.W.mg_none_of X G z_len, PySem.W.mg_none_of X G z_list, PySem.W.mg_none_of X G z_min, PySem.W.mg_none_of X G z_range, PySem.W.mg_none_of X G z_repr, PySem.W.mg_none_of X G z_set, PySem.W.mg_none_of X G z_sorted, PySem.W.mg_none_of X G z_str, PySem.W.mg_none_of X G z_sum, PySem.W.mg_none_of X G z_tuple, ⟨_, PySem.W.mg_of X G y_DIGITS, _, rfl⟩, ⟨_, PySem.W.mg_of X G y_MOST_DIGITS, _, rfl⟩, ⟨_, PySem.W.mg_of X G y_MOST_STROKES, _, rfl⟩, ⟨C_BadNumber, mg_BadNumber, (tab_cons mg_BadOffset (R_BadNumber.exm su_BadOffset_BadNumber) (tab_cons mg_BadNumber (R_BadNumber.exm su_BadNumber_BadNumber) tab_nil))⟩, (mem_cons mg_BadNumber ⟨R_BadNumber.xf, ff_BadNumber_number⟩ mem_nil), ⟨C_WheelError, mg_WheelError, rb_WheelError, gb_WheelError, vb_WheelError⟩, (mem_cons mg_Strokes ⟨cl_Strokes, nf_Strokes_known⟩ mem_nil), (mem_cons mg_Strokes ⟨cl_Strokes, nf_Strokes_offsets⟩ mem_nil), ⟨C_Strokes, mg_Strokes, (tab_cons mg_Strokes ⟨⟨cl_Strokes, ca_Strokes, mo_Strokes, on_, ot_⟩, kit_sub hd_Strokes tc_Strokes ki_Strokes_Strokes ki_Strokes_Strokes⟩ tab_nil), all7 (kit_sub hd_Strokes tc_Strokes ki_Strokes_Strokes kt_NoneType_Strokes) (kit_sub hd_Strokes tc_Strokes ki_Strokes_Strokes kt_bool_Strokes) (kit_sub hd_Strokes tc_Strokes ki_Strokes_Strokes kt_int_Strokes) (kit_sub hd_Strokes tc_Strokes ki_Strokes_Strokes kt_str_Strokes) (kit_sub hd_Strokes tc_Strokes ki_Strokes_Strokes kt_tuple_Strokes) (kit_sub hd_Strokes tc_Strokes ki_Strokes_Strokes kt_list_Strokes) (kit_sub hd_Strokes tc_Strokes ki_Strokes_Strokes kt_dict_Strokes)⟩⟩
  have X_is_whole : FunX K "is_whole" "is_whole" st_is_whole [] [] f_is_whole _ := funX_mk l_is_whole c_is_whole k_is_whole (.inl ⟨rfl, rfl⟩) (.inl rfl)
  have X_check_offset : FunX K "check_offset" "check_offset" st_check_offset [] [] f_check_offset _ := funX_mk l_check_offset c_check_offset k_check_offset (.inl ⟨rfl, rfl⟩) (.inl rfl)
  have X_Strokes___init__ : FunX K "__init__" "Strokes.__init__" st_Strokes___init__ [.ref Ed_Strokes___init___0] [] f_Strokes___init__ _ := funX_mk l_Strokes___init__ c_Strokes___init__ k_Strokes___init__ (.inr ⟨by simp, T_Strokes___init__, _, [.ref Ed_Strokes___init___0], nT_Strokes___init__, rfl, lT_Strokes___init__, rfl, (.cons rfl .nil)⟩) (.inl rfl)
  have X_Strokes___and__ : FunX K "__and__" "Strokes.__and__" st_Strokes___and__ [] [] f_Strokes___and__ _ := funX_mk l_Strokes___and__ c_Strokes___and__ k_Strokes___and__ (.inl ⟨rfl, rfl⟩) (.inl rfl)
  have X_Strokes___len__ : FunX K "__len__" "Strokes.__len__" st_Strokes___len__ [] [] f_Strokes___len__ _ := funX_mk l_Strokes___len__ c_Strokes___len__ k_Strokes___len__ (.inl ⟨rfl, rfl⟩) (.inl rfl)
  have X_Strokes___or__ : FunX K "__or__" "Strokes.__or__" st_Strokes___or__ [] [] f_Strokes___or__ _ := funX_mk l_Strokes___or__ c_Strokes___or__ k_Strokes___or__ (.inl ⟨rfl, rfl⟩) (.inl rfl)
  have X_is_number : FunX K "is_number" "is_number" st_is_number [] [] f_is_number _ := funX_mk l_is_number c_is_number k_is_number (.inl ⟨rfl, rfl⟩) (.inl rfl)
  have X_check_number : FunX K "check_number" "check_number" st_check_number [] [] f_check_number _ := funX_mk l_check_number c_check_number k_check_number (.inl ⟨rfl, rfl⟩) (.inl rfl)
  have X_blocks : FunX K "blocks" "blocks" st_blocks [] [] f_blocks _ := funX_mk l_blocks c_blocks k_blocks (.inl ⟨rfl, rfl⟩) (.inl rfl)
  have X_row_of : FunX K "row_of" "row_of" st_row_of [] [] f_row_of _ := funX_mk l_row_of c_row_of k_row_of (.inl ⟨rfl, rfl⟩) (.inl rfl)
  have X_row_offsets : FunX K "row_offsets" "row_offsets" st_row_offsets [] [] f_row_offsets _ := funX_mk l_row_offsets c_row_offsets k_row_offsets (.inl ⟨rfl, rfl⟩) (.inl rfl)
  have X_length_of : FunX K "length_of" "length_of" st_length_of [] [] f_length_of _ := funX_mk l_length_of c_length_of k_length_of (.inl ⟨rfl, rfl⟩) (.inl rfl)
  have X_pattern : FunX K "pattern" "pattern" st_pattern [.int 1] [] f_pattern _ := funX_mk l_pattern c_pattern k_pattern (.inr ⟨by simp, T_pattern, _, [.int 1 td_pattern_0], nT_pattern, rfl, lT_pattern, rfl, (.cons ⟨_, rfl⟩ .nil)⟩) (.inl rfl)
  have X_Strokes___eq__ : FunX K "__eq__" "Strokes.__eq__" st_Strokes___eq__ [] [] f_Strokes___eq__ _ := funX_mk l_Strokes___eq__ c_Strokes___eq__ k_Strokes___eq__ (.inl ⟨rfl, rfl⟩) (.inl rfl)
  have X_Strokes___rshift__ : FunX K "__rshift__" "Strokes.__rshift__" st_Strokes___rshift__ [] [] f_Strokes___rshift__ _ := funX_mk l_Strokes___rshift__ c_Strokes___rshift__ k_Strokes___rshift__ (.inl ⟨rfl, rfl⟩) (.inl rfl)
  have X_strokes_of : FunX K "strokes_of" "strokes_of" st_strokes_of [] [] f_strokes_of _ := funX_mk l_strokes_of c_strokes_of k_strokes_of (.inl ⟨rfl, rfl⟩) (.inl rfl)
  have X__law_row : FunX K "_law_row" "_law_row" st__law_row [] [] f__law_row _ := funX_mk l__law_row c__law_row k__law_row (.inl ⟨rfl, rfl⟩) (.inl rfl)
  have X__law_asked : FunX K "_law_asked" "_law_asked" st__law_asked [] [] f__law_asked _ := funX_mk l__law_asked c__law_asked k__law_asked (.inl ⟨rfl, rfl⟩) (.inl rfl)
  have X__law_refused : FunX K "_law_refused" "_law_refused" st__law_refused [] [] f__law_refused _ := funX_mk l__law_refused c__law_refused k__law_refused (.inl ⟨rfl, rfl⟩) (.inl rfl)
  have X__law_draw : FunX K "_law_draw" "_law_draw" st__law_draw [] [] f__law_draw _ := funX_mk l__law_draw c__law_draw k__law_draw (.inl ⟨rfl, rfl⟩) (.inl rfl)
  have X__law_times : FunX K "_law_times" "_law_times" st__law_times [] [] f__law_times _ := funX_mk l__law_times c__law_times k__law_times (.inl ⟨rfl, rfl⟩) (.inl rfl)
  have X__law_number : FunX K "_law_number" "_law_number" st__law_number [] [] f__law_number _ := funX_mk l__law_number c__law_number k__law_number (.inl ⟨rfl, rfl⟩) (.inl rfl)
  have X__law_bag : FunX K "_law_bag" "_law_bag" st__law_bag [] [] f__law_bag _ := funX_mk l__law_bag c__law_bag k__law_bag (.inl ⟨rfl, rfl⟩) (.inl rfl)
  have X_law : FunX K "law" "law" st_law [] [] fa _ := funX_mk l_law c_law k_law (.inl ⟨rfl, rfl⟩) (.inl rfl)
  have X_Strokes___iter__ : FunX K "__iter__" "Strokes.__iter__" st_Strokes___iter__ [] [] f_Strokes___iter__ _ := funX_mk l_Strokes___iter__ c_Strokes___iter__ k_Strokes___iter__ (.inl ⟨rfl, rfl⟩) (.inl rfl)
  have B_is_whole_s1 : BD K _ ["thing"] 1 [] (fun ds _ => ds) := BD.plain (X_is_whole.bindsN fun _ _ _ _ _ _ us hl => match us, hl with | [_], _ => rfl) rfl
  have B_check_offset_s1 : BD K _ ["thing"] 1 [] (fun ds _ => ds) := BD.plain (X_check_offset.bindsN fun _ _ _ _ _ _ us hl => match us, hl with | [_], _ => rfl) rfl
  have B_Strokes___init___s1 : BD K _ ["self", "offsets"] 2 [] (fun ds _ => ds ++ []) := BD.dfl (X_Strokes___init__.binds1 2 1 (by simp) rfl fun _ _ _ _ _ _ _ us its h1 h2 => match us, its, h1, h2 with | [_, _], [_], _, _ => ⟨_, rfl, rfl⟩) Ever.nil rfl
  have B_Strokes___and___s1 : BD K _ ["self", "other"] 2 [] (fun ds _ => ds) := BD.plain (X_Strokes___and__.bindsN fun _ _ _ _ _ _ us hl => match us, hl with | [_, _], _ => rfl) rfl
  have B_Strokes___len___s0 : BD K _ ["self"] 1 [] (fun ds _ => ds) := BD.plain (X_Strokes___len__.bindsN fun _ _ _ _ _ _ us hl => match us, hl with | [_], _ => rfl) rfl
  have B_Strokes___or___s1 : BD K _ ["self", "other"] 2 [] (fun ds _ => ds) := BD.plain (X_Strokes___or__.bindsN fun _ _ _ _ _ _ us hl => match us, hl with | [_, _], _ => rfl) rfl
  have B_is_number_s1 : BD K _ ["thing"] 1 [] (fun ds _ => ds) := BD.plain (X_is_number.bindsN fun _ _ _ _ _ _ us hl => match us, hl with | [_], _ => rfl) rfl
  have B_check_number_s1 : BD K _ ["thing"] 1 [] (fun ds _ => ds) := BD.plain (X_check_number.bindsN fun _ _ _ _ _ _ us hl => match us, hl with | [_], _ => rfl) rfl
  have B_blocks_s1 : BD K _ ["number"] 1 [] (fun ds _ => ds) := BD.plain (X_blocks.bindsN fun _ _ _ _ _ _ us hl => match us, hl with | [_], _ => rfl) rfl
  have B_row_of_s1 : BD K _ ["number"] 1 [] (fun ds _ => ds) := BD.plain (X_row_of.bindsN fun _ _ _ _ _ _ us hl => match us, hl with | [_], _ => rfl) rfl
  have B_row_offsets_s1 : BD K _ ["number"] 1 [] (fun ds _ => ds) := BD.plain (X_row_offsets.bindsN fun _ _ _ _ _ _ us hl => match us, hl with | [_], _ => rfl) rfl
  have B_length_of_s1 : BD K _ ["number"] 1 [] (fun ds _ => ds) := BD.plain (X_length_of.bindsN fun _ _ _ _ _ _ us hl => match us, hl with | [_], _ => rfl) rfl
  have B_pattern_s1 : BD K _ ["number", "times"] 1 [] (fun ds _ => ds ++ [.int 1]) := BD.dfl (X_pattern.binds1 1 0 (by simp) rfl fun _ _ _ _ _ _ _ us its h1 h2 => match us, its, h1, h2 with | [_], [_], _, _ => ⟨_, rfl, rfl⟩) (.cons ever_int .nil) rfl
  have B_pattern_s1_times : BD K _ ["number", "times"] 1 (["times"] : List Str) (fun ds es => ds ++ es) := BD.key (by obtain ⟨its, h⟩ := X_pattern.kbindsD 1 ["times"] (fun us its ws => us ++ ws) (by simp) (fun a b c => a.append c) (fun _ _ _ _ _ _ _ us its ws h1 h2 h3 => match us, its, ws, h1, h2, h3 with | [_], [_], [_], _, _, _ => ⟨_, rfl, by kernel_rfl⟩); exact ⟨_, h⟩) (fun mg xi ms G vs zs ds es a b => RpL.append a b)
  have B_pattern_s2 : BD K _ ["number", "times"] 2 [] (fun ds _ => ds ++ []) := BD.dfl (X_pattern.binds1 2 1 (by simp) rfl fun _ _ _ _ _ _ _ us its h1 h2 => match us, its, h1, h2 with | [_, _], [_], _, _ => ⟨_, rfl, rfl⟩) Ever.nil rfl
  have B_Strokes___eq___s1 : BD K _ ["self", "other"] 2 [] (fun ds _ => ds) := BD.plain (X_Strokes___eq__.bindsN fun _ _ _ _ _ _ us hl => match us, hl with | [_, _], _ => rfl) rfl
  have B_Strokes___rshift___s1 : BD K _ ["self", "ticks"] 2 [] (fun ds _ => ds) := BD.plain (X_Strokes___rshift__.bindsN fun _ _ _ _ _ _ us hl => match us, hl with | [_, _], _ => rfl) rfl
  have B_strokes_of_s1 : BD K _ ["number"] 1 [] (fun ds _ => ds) := BD.plain (X_strokes_of.bindsN fun _ _ _ _ _ _ us hl => match us, hl with | [_], _ => rfl) rfl
  have B__law_row_s1 : BD K _ ["number"] 1 [] (fun ds _ => ds) := BD.plain (X__law_row.bindsN fun _ _ _ _ _ _ us hl => match us, hl with | [_], _ => rfl) rfl
  have B__law_asked_s3 : BD K _ ["number", "many", "extra"] 3 [] (fun ds _ => ds) := BD.plain (X__law_asked.bindsN fun _ _ _ _ _ _ us hl => match us, hl with | [_, _, _], _ => rfl) rfl
  have B__law_refused_s2 : BD K _ ["odd", "many"] 2 [] (fun ds _ => ds) := BD.plain (X__law_refused.bindsN fun _ _ _ _ _ _ us hl => match us, hl with | [_, _], _ => rfl) rfl
  have B__law_draw_s2 : BD K _ ["bag", "limit"] 2 [] (fun ds _ => ds) := BD.plain (X__law_draw.bindsN fun _ _ _ _ _ _ us hl => match us, hl with | [_, _], _ => rfl) rfl
  have B__law_times_s1 : BD K _ ["bag"] 1 [] (fun ds _ => ds) := BD.plain (X__law_times.bindsN fun _ _ _ _ _ _ us hl => match us, hl with | [_], _ => rfl) rfl
  have B__law_number_s1 : BD K _ ["bag"] 1 [] (fun ds _ => ds) := BD.plain (X__law_number.bindsN fun _ _ _ _ _ _ us hl => match us, hl with | [_], _ => rfl) rfl
  have B__law_bag_s1 : BD K _ ["script"] 1 [] (fun ds _ => ds) := BD.plain (X__law_bag.bindsN fun _ _ _ _ _ _ us hl => match us, hl with | [_], _ => rfl) rfl
  refine ⟨PySem.W.fnOf "law" "law" (defArgs st_law) (defBody st_law) (defScope st_law) .none kV_law dc_law pm_law an_law cd_law ct_law, fun s v => .of_eq rfl, fun base _ _ => ?_⟩
  have FX_BadOffset := fun_mk (st := st_BadOffset) li_BadOffset ci_BadOffset ki_BadOffset
  have bX_BadOffset := FX_BadOffset.binds (ps := ["self", "offset"]) fun _ _ _ _ _ _ us hl => match us, hl with | [_, _], _ => rfl
  have x_BadOffset : XK' l.prog w K mg base "BadOffset" ["offset"] 1 := ⟨C_BadOffset, fI_BadOffset, _, ["self", "offset"], mg_BadOffset, R_BadOffset.oex, (List.forall_mem_cons.mpr ⟨ff_BadOffset_offset, (by simp)⟩), fi_BadOffset, ti_BadOffset, xi_BadOffset T FX_BadOffset, bX_BadOffset⟩
  have FX_BadNumber := fun_mk (st := st_BadNumber) li_BadNumber ci_BadNumber ki_BadNumber
  have bX_BadNumber := FX_BadNumber.binds (ps := ["self", "number"]) fun _ _ _ _ _ _ us hl => match us, hl with | [_, _], _ => rfl
  have x_BadNumber : XK' l.prog w K mg base "BadNumber" ["number"] 1 := ⟨C_BadNumber, fI_BadNumber, _, ["self", "number"], mg_BadNumber, R_BadNumber.oex, (List.forall_mem_cons.mpr ⟨ff_BadNumber_number, (by simp)⟩), fi_BadNumber, ti_BadNumber, xi_BadNumber T FX_BadNumber, bX_BadNumber⟩
  have KI_Strokes___iter__ : KI l.prog w K mg base "Strokes" "offsets" 1 := ⟨C_Strokes, f_Strokes___iter__, mg_Strokes, mt_Strokes_Strokes___iter__, isf_Strokes___iter__, it_Strokes___iter__ T (fun_mk (st := st_Strokes___iter__) l_Strokes___iter__ c_Strokes___iter__ k_Strokes___iter__) (fun _ _ _ => .of_eq rfl) cl_Strokes nf_Strokes_offsets⟩
  have G_is_whole := fn_is_whole (P := l.prog) (w := w) (base := base) T X_is_whole 
  have h_is_whole : KG l.prog w K mg base "is_whole" 1 F_is_whole 1 := ⟨f_is_whole, _, ["thing"], G_is_whole, PySem.W.mg_of X G a_is_whole, k_is_whole, X_is_whole.bindsN fun _ _ _ _ _ _ us hl => match us, hl with | [_], _ => rfl⟩
  have G_check_offset := fn_check_offset (P := l.prog) (w := w) (base := base) T X_check_offset h_is_whole x_BadOffset
  have h_check_offset : KG l.prog w K mg base "check_offset" 1 F_check_offset 3 := ⟨f_check_offset, _, ["thing"], G_check_offset, PySem.W.mg_of X G a_check_offset, k_check_offset, X_check_offset.bindsN fun _ _ _ _ _ _ us hl => match us, hl with | [_], _ => rfl⟩
  have G_Strokes___init__ := fn_Strokes___init__ (P := l.prog) (w := w) (base := base) T X_Strokes___init__ h_check_offset
  have m_Strokes_s1 : KC l.prog w K mg base "Strokes" 1 [] (fun ds _ => ds ++ []) 2 F_Strokes___init__ 4 := ⟨C_Strokes, f_Strokes___init__, _, ["self", "offsets"], mg_Strokes, ⟨mk_Strokes, mt_Strokes_Strokes___init__, isf_Strokes___init__, kp_Strokes⟩, G_Strokes___init__, B_Strokes___init___s1⟩
  have G_Strokes___and__ := fn_Strokes___and__ (P := l.prog) (w := w) (base := base) T X_Strokes___and__ m_Strokes_s1
  have G_Strokes___len__ := fn_Strokes___len__ (P := l.prog) (w := w) (base := base) T X_Strokes___len__ 
  have G_Strokes___or__ := fn_Strokes___or__ (P := l.prog) (w := w) (base := base) T X_Strokes___or__ m_Strokes_s1
  have G_is_number := fn_is_number (P := l.prog) (w := w) (base := base) T X_is_number 
  have h_is_number : KG l.prog w K mg base "is_number" 1 F_is_number 1 := ⟨f_is_number, _, ["thing"], G_is_number, PySem.W.mg_of X G a_is_number, k_is_number, X_is_number.bindsN fun _ _ _ _ _ _ us hl => match us, hl with | [_], _ => rfl⟩
  have G_check_number := fn_check_number (P := l.prog) (w := w) (base := base) T X_check_number h_is_number x_BadNumber
  have h_check_number : KG l.prog w K mg base "check_number" 1 F_check_number 3 := ⟨f_check_number, _, ["thing"], G_check_number, PySem.W.mg_of X G a_check_number, k_check_number, X_check_number.bindsN fun _ _ _ _ _ _ us hl => match us, hl with | [_], _ => rfl⟩
  have G_blocks := fn_blocks (P := l.prog) (w := w) (base := base) T X_blocks h_check_number
  have h_blocks : KG l.prog w K mg base "blocks" 1 F_blocks 4 := ⟨f_blocks, _, ["number"], G_blocks, PySem.W.mg_of X G a_blocks, k_blocks, X_blocks.bindsN fun _ _ _ _ _ _ us hl => match us, hl with | [_], _ => rfl⟩
  have G_row_of := fn_row_of (P := l.prog) (w := w) (base := base) T X_row_of h_blocks
  have h_row_of : KG l.prog w K mg base "row_of" 1 F_row_of 5 := ⟨f_row_of, _, ["number"], G_row_of, PySem.W.mg_of X G a_row_of, k_row_of, X_row_of.bindsN fun _ _ _ _ _ _ us hl => match us, hl with | [_], _ => rfl⟩
  have G_row_offsets := fn_row_offsets (P := l.prog) (w := w) (base := base) T X_row_offsets h_row_of
  have G_length_of := fn_length_of (P := l.prog) (w := w) (base := base) T X_length_of h_blocks
  have h_row_offsets : KG l.prog w K mg base "row_offsets" 1 F_row_offsets 6 := ⟨f_row_offsets, _, ["number"], G_row_offsets, PySem.W.mg_of X G a_row_offsets, k_row_offsets, X_row_offsets.bindsN fun _ _ _ _ _ _ us hl => match us, hl with | [_], _ => rfl⟩
  have h_length_of : KG l.prog w K mg base "length_of" 1 F_length_of 5 := ⟨f_length_of, _, ["number"], G_length_of, PySem.W.mg_of X G a_length_of, k_length_of, X_length_of.bindsN fun _ _ _ _ _ _ us hl => match us, hl with | [_], _ => rfl⟩
  have G_pattern := fn_pattern (P := l.prog) (w := w) (base := base) T X_pattern m_Strokes_s1 h_row_offsets h_length_of
  have G_Strokes___eq__ := fn_Strokes___eq__ (P := l.prog) (w := w) (base := base) T X_Strokes___eq__ 
  have G_Strokes___rshift__ := fn_Strokes___rshift__ (P := l.prog) (w := w) (base := base) T X_Strokes___rshift__ m_Strokes_s1 h_check_offset
  have G_strokes_of := fn_strokes_of (P := l.prog) (w := w) (base := base) T X_strokes_of h_row_offsets m_Strokes_s1
  have G__law_row := fn__law_row (P := l.prog) (w := w) (base := base) T X__law_row 
  have op_and_Strokes : ∀ (c : Str) (Ff : DFun), ([("Strokes", F_Strokes___and__)] : List (Str × DFun)).lookup c = some Ff → KM l.prog w K mg base c "__and__" 1 [] (fun ds _ => ds) 2 Ff 6 ∧ ∀ C, mg c = some (.ref C) → OpC K C "and" := (ftab_cons ⟨KM.mono ⟨C_Strokes, f_Strokes___and__, _, ["self", "other"], mg_Strokes, cl_Strokes, ⟨mt_Strokes_Strokes___and__, isf_Strokes___and__, k_Strokes___and__⟩, G_Strokes___and__, B_Strokes___and___s1⟩ (by decide), only_mg mg_Strokes (opc_mk (m := "__and__") (r := "__rand__") (by decide) (by decide) sf_Strokes rr_and_Strokes (all7 ⟨⟨_, bo_and_NoneType⟩, ⟨_, br_and_NoneType⟩, su_NoneType_Strokes⟩ ⟨⟨_, bo_and_bool⟩, ⟨_, br_and_bool⟩, su_bool_Strokes⟩ ⟨⟨_, bo_and_int⟩, ⟨_, br_and_int⟩, su_int_Strokes⟩ ⟨⟨_, bo_and_str⟩, ⟨_, br_and_str⟩, su_str_Strokes⟩ ⟨⟨_, bo_and_tuple⟩, ⟨_, br_and_tuple⟩, su_tuple_Strokes⟩ ⟨⟨_, bo_and_list⟩, ⟨_, br_and_list⟩, su_list_Strokes⟩ ⟨⟨_, bo_and_dict⟩, ⟨_, br_and_dict⟩, su_dict_Strokes⟩))⟩ ftab_nil)
  have li_Strokes : ∀ (c fl : Str) (Lf : DFun), ([("Strokes", "offsets", F_Strokes___len__)] : List (Str × Str × DFun)).lookup c = some (fl, Lf) → KM l.prog w K mg base c "__len__" 0 [] (fun ds _ => ds) 1 Lf 2 ∧ KI l.prog w K mg base c fl 2 := (ptab_cons ⟨KM.mono ⟨C_Strokes, f_Strokes___len__, _, ["self"], mg_Strokes, cl_Strokes, ⟨mt_Strokes_Strokes___len__, isf_Strokes___len__, k_Strokes___len__⟩, G_Strokes___len__, B_Strokes___len___s0⟩ (by decide), KI.mono KI_Strokes___iter__ (by decide)⟩ ptab_nil)
  have op_or_Strokes : ∀ (c : Str) (Ff : DFun), ([("Strokes", F_Strokes___or__)] : List (Str × DFun)).lookup c = some Ff → KM l.prog w K mg base c "__or__" 1 [] (fun ds _ => ds) 2 Ff 6 ∧ ∀ C, mg c = some (.ref C) → OpC K C "or" := (ftab_cons ⟨KM.mono ⟨C_Strokes, f_Strokes___or__, _, ["self", "other"], mg_Strokes, cl_Strokes, ⟨mt_Strokes_Strokes___or__, isf_Strokes___or__, k_Strokes___or__⟩, G_Strokes___or__, B_Strokes___or___s1⟩ (by decide), only_mg mg_Strokes (opc_mk (m := "__or__") (r := "__ror__") (by decide) (by decide) sf_Strokes rr_or_Strokes (all7 ⟨⟨_, bo_or_NoneType⟩, ⟨_, br_or_NoneType⟩, su_NoneType_Strokes⟩ ⟨⟨_, bo_or_bool⟩, ⟨_, br_or_bool⟩, su_bool_Strokes⟩ ⟨⟨_, bo_or_int⟩, ⟨_, br_or_int⟩, su_int_Strokes⟩ ⟨⟨_, bo_or_str⟩, ⟨_, br_or_str⟩, su_str_Strokes⟩ ⟨⟨_, bo_or_tuple⟩, ⟨_, br_or_tuple⟩, su_tuple_Strokes⟩ ⟨⟨_, bo_or_list⟩, ⟨_, br_or_list⟩, su_list_Strokes⟩ ⟨⟨_, bo_or_dict⟩, ⟨_, br_or_dict⟩, su_dict_Strokes⟩))⟩ ftab_nil)
  have h_pattern_s1_times : KGs l.prog w K mg base "pattern" 1 (["times"] : List Str) (fun ds es => ds ++ es) 2 F_pattern 7 := ⟨f_pattern, _, ["number", "times"], G_pattern, PySem.W.mg_of X G a_pattern, k_pattern, B_pattern_s1_times⟩
  have ne_Strokes : ∀ (c : Str) (Ff : DFun), ([("Strokes", F_Strokes___eq__)] : List (Str × DFun)).lookup c = some Ff → KM l.prog w K mg base c "__eq__" 1 [] (fun ds _ => ds) 2 Ff 1 ∧ ∀ C, mg c = some (.ref C) → NeC K C := (ftab_cons ⟨KM.mono ⟨C_Strokes, f_Strokes___eq__, _, ["self", "other"], mg_Strokes, cl_Strokes, ⟨mt_Strokes_Strokes___eq__, isf_Strokes___eq__, k_Strokes___eq__⟩, G_Strokes___eq__, B_Strokes___eq___s1⟩ (by decide), only_mg mg_Strokes ⟨⟨all7 su_NoneType_Strokes su_bool_Strokes su_int_Strokes su_str_Strokes su_tuple_Strokes su_list_Strokes su_dict_Strokes⟩, ne_Strokes, ob_Strokes⟩⟩ ftab_nil)
  have op_rshift_Strokes : ∀ (c : Str) (Ff : DFun), ([("Strokes", F_Strokes___rshift__)] : List (Str × DFun)).lookup c = some Ff → KM l.prog w K mg base c "__rshift__" 1 [] (fun ds _ => ds) 2 Ff 6 ∧ ∀ C, mg c = some (.ref C) → OpC K C "rshift" := (ftab_cons ⟨KM.mono ⟨C_Strokes, f_Strokes___rshift__, _, ["self", "ticks"], mg_Strokes, cl_Strokes, ⟨mt_Strokes_Strokes___rshift__, isf_Strokes___rshift__, k_Strokes___rshift__⟩, G_Strokes___rshift__, B_Strokes___rshift___s1⟩ (by decide), only_mg mg_Strokes (opc_mk (m := "__rshift__") (r := "__rrshift__") (by decide) (by decide) sf_Strokes rr_rshift_Strokes (all7 ⟨⟨_, bo_rshift_NoneType⟩, ⟨_, br_rshift_NoneType⟩, su_NoneType_Strokes⟩ ⟨⟨_, bo_rshift_bool⟩, ⟨_, br_rshift_bool⟩, su_bool_Strokes⟩ ⟨⟨_, bo_rshift_int⟩, ⟨_, br_rshift_int⟩, su_int_Strokes⟩ ⟨⟨_, bo_rshift_str⟩, ⟨_, br_rshift_str⟩, su_str_Strokes⟩ ⟨⟨_, bo_rshift_tuple⟩, ⟨_, br_rshift_tuple⟩, su_tuple_Strokes⟩ ⟨⟨_, bo_rshift_list⟩, ⟨_, br_rshift_list⟩, su_list_Strokes⟩ ⟨⟨_, bo_rshift_dict⟩, ⟨_, br_rshift_dict⟩, su_dict_Strokes⟩))⟩ ftab_nil)
  have h_pattern_s1 : KGs l.prog w K mg base "pattern" 1 [] (fun ds _ => ds ++ [.int 1]) 2 F_pattern 7 := ⟨f_pattern, _, ["number", "times"], G_pattern, PySem.W.mg_of X G a_pattern, k_pattern, B_pattern_s1⟩
  have h_strokes_of : KG l.prog w K mg base "strokes_of" 1 F_strokes_of 7 := ⟨f_strokes_of, _, ["number"], G_strokes_of, PySem.W.mg_of X G a_strokes_of, k_strokes_of, X_strokes_of.bindsN fun _ _ _ _ _ _ us hl => match us, hl with | [_], _ => rfl⟩
  have h_pattern_s2 : KGs l.prog w K mg base "pattern" 2 [] (fun ds _ => ds ++ []) 2 F_pattern 7 := ⟨f_pattern, _, ["number", "times"], G_pattern, PySem.W.mg_of X G a_pattern, k_pattern, B_pattern_s2⟩
  have h__law_row : KG l.prog w K mg base "_law_row" 1 F__law_row 1 := ⟨f__law_row, _, ["number"], G__law_row, PySem.W.mg_of X G a__law_row, k__law_row, X__law_row.bindsN fun _ _ _ _ _ _ us hl => match us, hl with | [_], _ => rfl⟩
  have G__law_asked := fn__law_asked (P := l.prog) (w := w) (base := base) T X__law_asked op_and_Strokes li_Strokes op_or_Strokes h_pattern_s1_times ne_Strokes op_rshift_Strokes h_pattern_s1 h_strokes_of h_pattern_s2 h__law_row
  have G__law_refused := fn__law_refused (P := l.prog) (w := w) (base := base) T X__law_refused h_pattern_s1 h_pattern_s1_times h_strokes_of
  have G__law_draw := fn__law_draw (P := l.prog) (w := w) (base := base) T X__law_draw 
  have h__law_draw : KG l.prog w K mg base "_law_draw" 2 F__law_draw 1 := ⟨f__law_draw, _, ["bag", "limit"], G__law_draw, PySem.W.mg_of X G a__law_draw, k__law_draw, X__law_draw.bindsN fun _ _ _ _ _ _ us hl => match us, hl with | [_, _], _ => rfl⟩
  have G__law_times := fn__law_times (P := l.prog) (w := w) (base := base) T X__law_times h__law_draw
  have G__law_number := fn__law_number (P := l.prog) (w := w) (base := base) T X__law_number h__law_draw
  have G__law_bag := fn__law_bag (P := l.prog) (w := w) (base := base) T X__law_bag 
  have h__law_asked : KG l.prog w K mg base "_law_asked" 3 F__law_asked 8 := ⟨f__law_asked, _, ["number", "many", "extra"], G__law_asked, PySem.W.mg_of X G a__law_asked, k__law_asked, X__law_asked.bindsN fun _ _ _ _ _ _ us hl => match us, hl with | [_, _, _], _ => rfl⟩
  have h__law_refused : KG l.prog w K mg base "_law_refused" 2 F__law_refused 8 := ⟨f__law_refused, _, ["odd", "many"], G__law_refused, PySem.W.mg_of X G a__law_refused, k__law_refused, X__law_refused.bindsN fun _ _ _ _ _ _ us hl => match us, hl with | [_, _], _ => rfl⟩
  have h__law_times : KG l.prog w K mg base "_law_times" 1 F__law_times 2 := ⟨f__law_times, _, ["bag"], G__law_times, PySem.W.mg_of X G a__law_times, k__law_times, X__law_times.bindsN fun _ _ _ _ _ _ us hl => match us, hl with | [_], _ => rfl⟩
  have h__law_number : KG l.prog w K mg base "_law_number" 1 F__law_number 2 := ⟨f__law_number, _, ["bag"], G__law_number, PySem.W.mg_of X G a__law_number, k__law_number, X__law_number.bindsN fun _ _ _ _ _ _ us hl => match us, hl with | [_], _ => rfl⟩
  have h__law_bag : KG l.prog w K mg base "_law_bag" 1 F__law_bag 1 := ⟨f__law_bag, _, ["script"], G__law_bag, PySem.W.mg_of X G a__law_bag, k__law_bag, X__law_bag.bindsN fun _ _ _ _ _ _ us hl => match us, hl with | [_], _ => rfl⟩
  exact (fn_law T X_law h__law_asked h__law_refused h__law_draw h__law_times h__law_number h__law_bag).weak fun vs H Q E h => sp_law law_true h
theorem walk {l : PySem.W.OpenLaw} {q : Program} {loose : List Str} {XP : (Str → Option Value) → Heap → Prop} {YP : World → Heap → Prop} {d : DefRec} {K : Params → PySem.W.Frag} (hn : l.most = some 63) (hdf : d.params.defaults = [])
    (hY : ∀ (w : World) (h : Heap), YP w h → (K w.params).In h)
    (F : ∀ (w : World) (mg : Str → Option Value) (fa : Addr) (h : Heap), (K w.params).In h → h.Ns mainGlobals mg → mg d.name = some (.ref fa) →
      ∃ fd : FuncData, (∀ (s : Shared) (u : Value), BindsTo s fd ⟨[u], []⟩ [("script", u)]) ∧ ∀ base : Heap, (K w.params).In base → base.Ns mainGlobals mg → FnG l.prog w (K w.params) mg base 9 fa fd ["script"] (spLaw (K w.params))) :
    PySem.W.WalkO q loose XP YP l.row.toRowW d [] (fun f vs => PySem.call f vs) :=
  walkG (n := 63) (k := 9) (x := "script") (sp := fun w => spLaw (K w.params)) hn (by decide) hdf ⟨rfl, by decide, by decide⟩ hY F (fun _ _ a ns hl hS => ⟨a, ns, rfl, hS, hl, fun _ => rfl⟩)

theorem range_drop {n k : Nat} (h : k < n) : ((List.range n).drop k).map (fun k : Nat => D.int (0 + (k : Nat))) = D.int (0 + (k : Nat)) :: ((List.range n).drop (k + 1)).map (fun k : Nat => D.int (0 + (k : Nat))) := by
  rw [List.drop_eq_getElem_cons (by simpa using h), List.map_cons, List.getElem_range]
/-! ### numbers that are none -/
theorem okN_set {i : Nat} {ρ : Nv} {x : Option D} : OkN i ρ (ρ.set i x) := fun j d h => .inr (by
  rw [List.set_set] at h
  by_cases e : i = j
  · subst e; rw [List.getElem?_set] at h; rw [if_pos rfl] at h; split at h <;> cases h
  · rw [List.getElem?_set_ne e] at h; exact h)
theorem bag_noX {m : Nat} {b : List D} (h : BagOk m b) : noXC (.lst b) = true := by
  obtain ⟨x, cells, i, c, r, rfl, _⟩ := h.ex
  show noXL _ = true
  simp only [noXL, noX, noXL_ints, Bool.and_true]
theorem xf_num {ρ : Nv} {S : Sto} {x : D} {i : Nat} (h : ρ[i]? = some (some (.exn "BadNumber" ["number"] [x]))) : xfF ["BadNumber"] "number" (varE i) ρ S = .ok x S := by
  unfold xfF varE
  rw [h]
  dsimp only
  rw [R.bind_ok]
  dsimp only
  rw [if_pos List.mem_cons_self, List.zip_cons_cons, look1]
noncomputable def apH : SF := (dropS (mthF "list" appendD (varE 2) (consF (appF reprD (consF (xfF ["BadNumber"] "number" (varE 3)) nilF)) nilF)))
theorem try_app {x y d : D} {z : Str} {S : Sto} {acc : List D} {g : SF} (hr : Rpr d z) (hl : acc.length ≤ 100) (hS : ∀ c ∈ S, noXC c = true) (ha : noXL acc = true)
    (hg : g [some x, some y, some (.cell S.length), none] (S ++ [.lst acc]) = .exc "BadNumber" ["number"] [d] [some x, some y, some (.cell S.length), none] (S ++ [.lst acc])) :
    tryS [("BadOffset", false), ("BadNumber", true)] 3 g apH [some x, some y, some (.cell S.length), none] (S ++ [.lst acc]) = .nx [some x, some y, some (.cell S.length), none] (S ++ [.lst (acc ++ [.str z])]) := by
  have l1 : List.lookup ("BadNumber" : Str) [(("BadOffset" : Str), false), (("BadNumber" : Str), true)] = some true := by
    rw [look2 (by decide), look1]
  have sz1 : NLe (acc.length + 1) sizeLine := sizeLine_big (by omega)
  have ap : apH [some x, some y, some (.cell S.length), some (.exn "BadNumber" ["number"] [d])] (S ++ [.lst acc]) = .nx [some x, some y, some (.cell S.length), some (.exn "BadNumber" ["number"] [d])] (S ++ [.lst (acc ++ [.str z])]) := by
    unfold apH
    simp only [Bd, seqS, setS, retS, retN, dropS, ifS, forS, putS, augS, nxS, bkS, ctS, SR.seq_nx, SR.seq_rt, SR.seq_exc, SR.seq_bk, SR.seq_ct, SR.turn_nx, SR.turn_ct, SR.turn_bk, SR.turn_rt, SR.turn_exc, R.bind_ok, R.bind_bad, R.bind_exc, R.bindN_ok, R.st_ok, R.st_exc,
 varE, cE, binF, tstF, chnF, andB, orB, notB, andV, orV, notV, ifE, nilF, consF, tupF, lstF, ownF, negF, noO, someO, slF, callF, appF, isiF, mthF, itF, itA, nmG, nilG, consG, tupG, yesB, wipeD,
 addD_ii, addD_ss, addD_ll, subD_ii, mulD_ii, mulD_li, mulD_si, fdivD_ii, modD_ii, powD_10_18, ltD_ii, leD_ii, gtD_ii, geD_ii, gtD_ss, ltD_ss, eqD_ii, eqD_ss, eqD_bb, neD_ii, neD_ss, isBD_bb, isND_non, isND_int, isND_str, notND_non, notND_int, notND_str, lenD_s, lenD_l, lenD_r, lenD_t, lenD_c, min2D_ii, max2D_ii, intD_i, intD_b, strD_i, sumD_l, sumD_c, sumD_t, maxD_c, tupleD_l, tupleD_t, tupleD_c, listD_l, listD_t,
 ixD_l, ixD_r, ixD_t, ixD_s, ixD_c, slD_s, slD_l, slD_r, putIx_c, appendD_c, extendD_cl, isTy_c, isTy_s, isTy_l, iaddD, atI_0, atI_1, atI_2, atI_3, atI_4, low_int, low_str, low_bl, low_non, anyI_l, anyI_r, anyI_t, anyI_s, rng1I_i, rng2I_ii, ixN5, set_concat, get_concat, take_concat, len_concat, notInD_cs, inD_cs, sindexD_s, intD_s, tyN_s, tyN_i, tyN_b, tyN_n, tyN_t, tyN_l, tyIs_t, zipI_tt,
 startD, List.map_cons, List.map_nil, List.length_cons, List.length_nil, List.cons_append, List.nil_append, List.getElem?_cons_zero, List.getElem?_cons_succ, List.set_cons_zero, List.set_cons_succ, List.replicate_succ, List.replicate_zero, Option.bind_some, if_true, if_false, Bool.true_and, Bool.false_and, Bool.and_true, Bool.not_true, Bool.not_false, decide_true, decide_false, eq_self, Nat.zero_add, Nat.reduceAdd, Nat.reduceSub, reduceIte, reduceCtorEq, Int.reduceEq, Bool.false_eq_true, true_and, and_true, true_or, or_true, decide_eq_true_eq, xf_num (x := d) (i := 3) (ρ := [some x, some y, some (.cell S.length), some (.exn "BadNumber" ["number"] [d])]) rfl, hr.rep, get_concat, beq_self_eq_true, Bool.and_self, sz1, set_concat]
  have nS : ∀ c ∈ S ++ [Cl.lst (acc ++ [D.str z])], noXC c = true := by
    intro c hc
    rcases List.mem_append.mp hc with h | h
    · exact hS c h
    · rw [List.mem_singleton.mp h]
      show noXL (acc ++ [D.str z]) = true
      have : ∀ l : List D, noXL l = true → noXL (l ++ [D.str z]) = true := fun l => by
        induction l with
        | nil => intro _; rfl
        | cons a l ih =>
          intro h
          obtain ⟨h1, h2⟩ := Bool.and_eq_true_iff.mp (show (noX a && noXL l) = true from h)
          show (noX a && noXL (l ++ [D.str z])) = true
          rw [h1, ih h2]; rfl
      exact this acc ha
  unfold tryS
  rw [hg]
  dsimp only
  rw [l1]
  dsimp only
  rw [show ([some x, some y, some (.cell S.length), none] : Nv).set 3 (some (.exn "BadNumber" ["number"] [d])) = [some x, some y, some (.cell S.length), some (.exn "BadNumber" ["number"] [d])] from rfl, ap]
  dsimp only
  rw [if_pos ⟨.inr nS, okN_set (i := 3) (ρ := [some x, some y, some (.cell S.length), none])⟩]
  rfl
theorem refused_ok {d n : D} {z : Str} {S : Sto} (hd : NoN d) (hr : Rpr d z) (hS : ∀ c ∈ S, noXC c = true) : F__law_refused [d, n] S = .ok (.lst [.str z, .str z, .str z]) S := by
  unfold F__law_refused fnF g__law_refused
  have st0 : setS 2 (ownF nilF) [some d, some n, none, none] S = .nx [some d, some n, some (.cell S.length), none] (S ++ [.lst []]) := by
    simp only [Bd, seqS, setS, retS, retN, dropS, ifS, forS, putS, augS, nxS, bkS, ctS, SR.seq_nx, SR.seq_rt, SR.seq_exc, SR.seq_bk, SR.seq_ct, SR.turn_nx, SR.turn_ct, SR.turn_bk, SR.turn_rt, SR.turn_exc, R.bind_ok, R.bind_bad, R.bind_exc, R.bindN_ok, R.st_ok, R.st_exc,
 varE, cE, binF, tstF, chnF, andB, orB, notB, andV, orV, notV, ifE, nilF, consF, tupF, lstF, ownF, negF, noO, someO, slF, callF, appF, isiF, mthF, itF, itA, nmG, nilG, consG, tupG, yesB, wipeD,
 addD_ii, addD_ss, addD_ll, subD_ii, mulD_ii, mulD_li, mulD_si, fdivD_ii, modD_ii, powD_10_18, ltD_ii, leD_ii, gtD_ii, geD_ii, gtD_ss, ltD_ss, eqD_ii, eqD_ss, eqD_bb, neD_ii, neD_ss, isBD_bb, isND_non, isND_int, isND_str, notND_non, notND_int, notND_str, lenD_s, lenD_l, lenD_r, lenD_t, lenD_c, min2D_ii, max2D_ii, intD_i, intD_b, strD_i, sumD_l, sumD_c, sumD_t, maxD_c, tupleD_l, tupleD_t, tupleD_c, listD_l, listD_t,
 ixD_l, ixD_r, ixD_t, ixD_s, ixD_c, slD_s, slD_l, slD_r, putIx_c, appendD_c, extendD_cl, isTy_c, isTy_s, isTy_l, iaddD, atI_0, atI_1, atI_2, atI_3, atI_4, low_int, low_str, low_bl, low_non, anyI_l, anyI_r, anyI_t, anyI_s, rng1I_i, rng2I_ii, ixN5, set_concat, get_concat, take_concat, len_concat, notInD_cs, inD_cs, sindexD_s, intD_s, tyN_s, tyN_i, tyN_b, tyN_n, tyN_t, tyN_l, tyIs_t, zipI_tt,
 startD, List.map_cons, List.map_nil, List.length_cons, List.length_nil, List.cons_append, List.nil_append, List.getElem?_cons_zero, List.getElem?_cons_succ, List.set_cons_zero, List.set_cons_succ, List.replicate_succ, List.replicate_zero, Option.bind_some, if_true, if_false, Bool.true_and, Bool.false_and, Bool.and_true, Bool.not_true, Bool.not_false, decide_true, decide_false, eq_self, Nat.zero_add, Nat.reduceAdd, Nat.reduceSub, reduceIte, reduceCtorEq, Int.reduceEq, Bool.false_eq_true, true_and, and_true, true_or, or_true, decide_eq_true_eq, sz, lowL]
  have s1 := try_app (x := d) (y := n) (acc := []) (S := S) (g := (dropS (callF 1 F_strokes_of (consF (varE 0) nilF)))) hr (by simp) hS rfl (by simp only [Bd, seqS, setS, retS, retN, dropS, ifS, forS, putS, augS, nxS, bkS, ctS, SR.seq_nx, SR.seq_rt, SR.seq_exc, SR.seq_bk, SR.seq_ct, SR.turn_nx, SR.turn_ct, SR.turn_bk, SR.turn_rt, SR.turn_exc, R.bind_ok, R.bind_bad, R.bind_exc, R.bindN_ok, R.st_ok, R.st_exc,
 varE, cE, binF, tstF, chnF, andB, orB, notB, andV, orV, notV, ifE, nilF, consF, tupF, lstF, ownF, negF, noO, someO, slF, callF, appF, isiF, mthF, itF, itA, nmG, nilG, consG, tupG, yesB, wipeD,
 addD_ii, addD_ss, addD_ll, subD_ii, mulD_ii, mulD_li, mulD_si, fdivD_ii, modD_ii, powD_10_18, ltD_ii, leD_ii, gtD_ii, geD_ii, gtD_ss, ltD_ss, eqD_ii, eqD_ss, eqD_bb, neD_ii, neD_ss, isBD_bb, isND_non, isND_int, isND_str, notND_non, notND_int, notND_str, lenD_s, lenD_l, lenD_r, lenD_t, lenD_c, min2D_ii, max2D_ii, intD_i, intD_b, strD_i, sumD_l, sumD_c, sumD_t, maxD_c, tupleD_l, tupleD_t, tupleD_c, listD_l, listD_t,
 ixD_l, ixD_r, ixD_t, ixD_s, ixD_c, slD_s, slD_l, slD_r, putIx_c, appendD_c, extendD_cl, isTy_c, isTy_s, isTy_l, iaddD, atI_0, atI_1, atI_2, atI_3, atI_4, low_int, low_str, low_bl, low_non, anyI_l, anyI_r, anyI_t, anyI_s, rng1I_i, rng2I_ii, ixN5, set_concat, get_concat, take_concat, len_concat, notInD_cs, inD_cs, sindexD_s, intD_s, tyN_s, tyN_i, tyN_b, tyN_n, tyN_t, tyN_l, tyIs_t, zipI_tt,
 startD, List.map_cons, List.map_nil, List.length_cons, List.length_nil, List.cons_append, List.nil_append, List.getElem?_cons_zero, List.getElem?_cons_succ, List.set_cons_zero, List.set_cons_succ, List.replicate_succ, List.replicate_zero, Option.bind_some, if_true, if_false, Bool.true_and, Bool.false_and, Bool.and_true, Bool.not_true, Bool.not_false, decide_true, decide_false, eq_self, Nat.zero_add, Nat.reduceAdd, Nat.reduceSub, reduceIte, reduceCtorEq, Int.reduceEq, Bool.false_eq_true, true_and, and_true, true_or, or_true, decide_eq_true_eq, strokes_no hd])
  have s2 := try_app (x := d) (y := n) (acc := [.str z]) (S := S) (g := (dropS (callKF 1 1 2 (fun ds es => ds ++ es) F_pattern (consF (varE 0) nilF) (consF (varE 1) nilF)))) hr (by simp) hS rfl (by simp only [Bd, seqS, setS, retS, retN, dropS, ifS, forS, putS, augS, nxS, bkS, ctS, SR.seq_nx, SR.seq_rt, SR.seq_exc, SR.seq_bk, SR.seq_ct, SR.turn_nx, SR.turn_ct, SR.turn_bk, SR.turn_rt, SR.turn_exc, R.bind_ok, R.bind_bad, R.bind_exc, R.bindN_ok, R.st_ok, R.st_exc,
 varE, cE, binF, tstF, chnF, andB, orB, notB, andV, orV, notV, ifE, nilF, consF, tupF, lstF, ownF, negF, noO, someO, slF, callF, appF, isiF, mthF, itF, itA, nmG, nilG, consG, tupG, yesB, wipeD,
 addD_ii, addD_ss, addD_ll, subD_ii, mulD_ii, mulD_li, mulD_si, fdivD_ii, modD_ii, powD_10_18, ltD_ii, leD_ii, gtD_ii, geD_ii, gtD_ss, ltD_ss, eqD_ii, eqD_ss, eqD_bb, neD_ii, neD_ss, isBD_bb, isND_non, isND_int, isND_str, notND_non, notND_int, notND_str, lenD_s, lenD_l, lenD_r, lenD_t, lenD_c, min2D_ii, max2D_ii, intD_i, intD_b, strD_i, sumD_l, sumD_c, sumD_t, maxD_c, tupleD_l, tupleD_t, tupleD_c, listD_l, listD_t,
 ixD_l, ixD_r, ixD_t, ixD_s, ixD_c, slD_s, slD_l, slD_r, putIx_c, appendD_c, extendD_cl, isTy_c, isTy_s, isTy_l, iaddD, atI_0, atI_1, atI_2, atI_3, atI_4, low_int, low_str, low_bl, low_non, anyI_l, anyI_r, anyI_t, anyI_s, rng1I_i, rng2I_ii, ixN5, set_concat, get_concat, take_concat, len_concat, notInD_cs, inD_cs, sindexD_s, intD_s, tyN_s, tyN_i, tyN_b, tyN_n, tyN_t, tyN_l, tyIs_t, zipI_tt,
 startD, List.map_cons, List.map_nil, List.length_cons, List.length_nil, List.cons_append, List.nil_append, List.getElem?_cons_zero, List.getElem?_cons_succ, List.set_cons_zero, List.set_cons_succ, List.replicate_succ, List.replicate_zero, Option.bind_some, if_true, if_false, Bool.true_and, Bool.false_and, Bool.and_true, Bool.not_true, Bool.not_false, decide_true, decide_false, eq_self, Nat.zero_add, Nat.reduceAdd, Nat.reduceSub, reduceIte, reduceCtorEq, Int.reduceEq, Bool.false_eq_true, true_and, and_true, true_or, or_true, decide_eq_true_eq, callKF, argsF, pattern_no hd])
  have s3 := try_app (x := d) (y := n) (acc := [.str z, .str z]) (S := S) (g := (dropS (callKF 1 0 2 (fun ds _ => ds ++ [.int 1]) F_pattern (consF (varE 0) nilF) nilF))) hr (by simp) hS rfl (by simp only [Bd, seqS, setS, retS, retN, dropS, ifS, forS, putS, augS, nxS, bkS, ctS, SR.seq_nx, SR.seq_rt, SR.seq_exc, SR.seq_bk, SR.seq_ct, SR.turn_nx, SR.turn_ct, SR.turn_bk, SR.turn_rt, SR.turn_exc, R.bind_ok, R.bind_bad, R.bind_exc, R.bindN_ok, R.st_ok, R.st_exc,
 varE, cE, binF, tstF, chnF, andB, orB, notB, andV, orV, notV, ifE, nilF, consF, tupF, lstF, ownF, negF, noO, someO, slF, callF, appF, isiF, mthF, itF, itA, nmG, nilG, consG, tupG, yesB, wipeD,
 addD_ii, addD_ss, addD_ll, subD_ii, mulD_ii, mulD_li, mulD_si, fdivD_ii, modD_ii, powD_10_18, ltD_ii, leD_ii, gtD_ii, geD_ii, gtD_ss, ltD_ss, eqD_ii, eqD_ss, eqD_bb, neD_ii, neD_ss, isBD_bb, isND_non, isND_int, isND_str, notND_non, notND_int, notND_str, lenD_s, lenD_l, lenD_r, lenD_t, lenD_c, min2D_ii, max2D_ii, intD_i, intD_b, strD_i, sumD_l, sumD_c, sumD_t, maxD_c, tupleD_l, tupleD_t, tupleD_c, listD_l, listD_t,
 ixD_l, ixD_r, ixD_t, ixD_s, ixD_c, slD_s, slD_l, slD_r, putIx_c, appendD_c, extendD_cl, isTy_c, isTy_s, isTy_l, iaddD, atI_0, atI_1, atI_2, atI_3, atI_4, low_int, low_str, low_bl, low_non, anyI_l, anyI_r, anyI_t, anyI_s, rng1I_i, rng2I_ii, ixN5, set_concat, get_concat, take_concat, len_concat, notInD_cs, inD_cs, sindexD_s, intD_s, tyN_s, tyN_i, tyN_b, tyN_n, tyN_t, tyN_l, tyIs_t, zipI_tt,
 startD, List.map_cons, List.map_nil, List.length_cons, List.length_nil, List.cons_append, List.nil_append, List.getElem?_cons_zero, List.getElem?_cons_succ, List.set_cons_zero, List.set_cons_succ, List.replicate_succ, List.replicate_zero, Option.bind_some, if_true, if_false, Bool.true_and, Bool.false_and, Bool.and_true, Bool.not_true, Bool.not_false, decide_true, decide_false, eq_self, Nat.zero_add, Nat.reduceAdd, Nat.reduceSub, reduceIte, reduceCtorEq, Int.reduceEq, Bool.false_eq_true, true_and, and_true, true_or, or_true, decide_eq_true_eq, callKF, argsF, pattern_no hd])
  simp only [List.cons_append, List.nil_append] at s1 s2 s3
  unfold apH at s1 s2 s3
  show leave _ (seqS _ _ [some d, some n, none, none] S) = _
  rw [seq_go st0, seq_go s1, seq_go s2, seq_go s3]
  simp only [retS, varE, List.getElem?_cons_zero, List.getElem?_cons_succ, R.st_ok, List.cons_append, List.nil_append, leave_rt, len_concat]
  rw [fz_cell_new (Nat.le_refl _) (get_concat _ _), take_concat]
  simp only [List.map_cons, List.map_nil, fz_str]
/-! ### what is asked of one number -/
noncomputable def dueB : SF := (setS 4 (binF addD (varE 4) (compG finF [9] (itA rng1I (consF (appF lenD (consF (varE 3) nilF)) nilF)) (nmG 9) (tstF (binF eqD (binF ixD (varE 3) (varE 9)) (cE (.int 1)))) (binF addD (binF mulD (varE 5) (appF lenD (consF (varE 3) nilF))) (varE 9)))))
theorem due_loop {w : List Nat} (hw : IsNum w) {m : Nat} (hm : m ≤ 60) {x0 x1 x2 x6 x7 x8 x9 : Option D} {S : Sto} : ∀ (j k : Nat) (u : Option D), k + j = m → ∃ v, forL (nmG 5) dueB (((List.range m).drop k).map fun k => D.int (0 + (k : Nat))) [x0, x1, x2, some (.lst ((rowN w).map .int)), some (.lst ((patN w k).map .int)), u, x6, x7, x8, x9] S = .nx [x0, x1, x2, some (.lst ((rowN w).map .int)), some (.lst ((patN w m).map .int)), v, x6, x7, x8, x9] S
  | 0, k, u, h => ⟨u, by rw [List.drop_of_length_le (by simp; omega), show k = m by omega]; rfl⟩
  | j + 1, k, u, h => by
    obtain ⟨v, e⟩ := due_loop hw hm (x0 := x0) (x1 := x1) (x2 := x2) (x6 := x6) (x7 := x7) (x8 := x8) (x9 := x9) (S := S) j (k + 1) (some (.int (0 + (k : Nat)))) (by omega)
    refine ⟨v, ?_⟩
    have few := row_few hw
    have of := offs_few hw
    have hk : k * (offs w).length ≤ 60 * 58 := Nat.mul_le_mul (by omega) of
    have c2 : (-(2 ^ 64) < (0 + (k : Nat) : Int) ∧ (0 + (k : Nat) : Int) < 2 ^ 64) := by omega
    have c := comp_row hw (vs := [9]) (r := 3) (j := 9) (fe := binF addD (binF mulD (varE 5) (appF lenD (consF (varE 3) nilF))) (varE 9)) (fun x => (k : Int) * (rowN w).length + x) (ρ := [x0, x1, x2, some (.lst ((rowN w).map .int)), some (.lst ((patN w k).map .int)), some (.int (0 + (k : Nat))), x6, x7, x8, x9]) (S := S) rfl rfl (by simp [wipeD]) (by decide) (fun i acc hi => by
      show binF addD _ _ [x0, x1, x2, some (.lst ((rowN w).map .int)), some (.lst ((patN w k).map .int)), some (.int (0 + (k : Nat))), x6, x7, x8, some (.int (0 + (i : Nat)))] _ = _
      simp only [Bd, seqS, setS, retS, retN, dropS, ifS, forS, putS, augS, nxS, bkS, ctS, SR.seq_nx, SR.seq_rt, SR.seq_exc, SR.seq_bk, SR.seq_ct, SR.turn_nx, SR.turn_ct, SR.turn_bk, SR.turn_rt, SR.turn_exc, R.bind_ok, R.bind_bad, R.bind_exc, R.bindN_ok, R.st_ok, R.st_exc,
 varE, cE, binF, tstF, chnF, andB, orB, notB, andV, orV, notV, ifE, nilF, consF, tupF, lstF, ownF, negF, noO, someO, slF, callF, appF, isiF, mthF, itF, itA, nmG, nilG, consG, tupG, yesB, wipeD,
 addD_ii, addD_ss, addD_ll, subD_ii, mulD_ii, mulD_li, mulD_si, fdivD_ii, modD_ii, powD_10_18, ltD_ii, leD_ii, gtD_ii, geD_ii, gtD_ss, ltD_ss, eqD_ii, eqD_ss, eqD_bb, neD_ii, neD_ss, isBD_bb, isND_non, isND_int, isND_str, notND_non, notND_int, notND_str, lenD_s, lenD_l, lenD_r, lenD_t, lenD_c, min2D_ii, max2D_ii, intD_i, intD_b, strD_i, sumD_l, sumD_c, sumD_t, maxD_c, tupleD_l, tupleD_t, tupleD_c, listD_l, listD_t,
 ixD_l, ixD_r, ixD_t, ixD_s, ixD_c, slD_s, slD_l, slD_r, putIx_c, appendD_c, extendD_cl, isTy_c, isTy_s, isTy_l, iaddD, atI_0, atI_1, atI_2, atI_3, atI_4, low_int, low_str, low_bl, low_non, anyI_l, anyI_r, anyI_t, anyI_s, rng1I_i, rng2I_ii, ixN5, set_concat, get_concat, take_concat, len_concat, notInD_cs, inD_cs, sindexD_s, intD_s, tyN_s, tyN_i, tyN_b, tyN_n, tyN_t, tyN_l, tyIs_t, zipI_tt,
 startD, List.map_cons, List.map_nil, List.length_cons, List.length_nil, List.cons_append, List.nil_append, List.getElem?_cons_zero, List.getElem?_cons_succ, List.set_cons_zero, List.set_cons_succ, List.replicate_succ, List.replicate_zero, Option.bind_some, if_true, if_false, Bool.true_and, Bool.false_and, Bool.and_true, Bool.not_true, Bool.not_false, decide_true, decide_false, eq_self, Nat.zero_add, Nat.reduceAdd, Nat.reduceSub, reduceIte, reduceCtorEq, Int.reduceEq, Bool.false_eq_true, true_and, and_true, true_or, or_true, decide_eq_true_eq, List.length_map, mulD_ii, c2]
      rw [Int.zero_add, Int.zero_add])
    have sl : NLe ((patN w k).length + (offs w).length) sizeLine := sizeLine_big (by rw [patN_len]; omega)
    rw [range_drop (by omega), forL_cons (ρ1 := [x0, x1, x2, some (.lst ((rowN w).map .int)), some (.lst ((patN w k).map .int)), some (.int (0 + (k : Nat))), x6, x7, x8, x9]) rfl, ← e, patN_succ, List.map_append]
    unfold dueB
    simp only [setS, binF, varE, List.getElem?_cons_zero, List.getElem?_cons_succ, R.bind_ok, R.st_ok, c, addD_ll, List.length_map, sl, if_true, List.set_cons_succ, List.set_cons_zero, SR.turn_nx]
theorem asked_ok {w : List Nat} (hw : IsNum w) {m e : Nat} (hm : m ≤ 20) (he : e ≤ 20) (S : Sto) : F__law_asked [.str (numS w), .int (m : Nat), .int (e : Nat)] S = .ok (.bl true) S := by
  unfold F__law_asked fnF g__law_asked
  have lr : F__law_row [.str (numS w)] S = .ok (.lst ((rowN w).map .int)) S := by rw [lrow_num hw, rowT_tks]
  have bm : -(2 ^ 62) ≤ ((m : Nat) : Int) ∧ ((m : Nat) : Int) < 2 ^ 62 := by omega
  have bm2 : (-(2 ^ 64) < ((m : Nat) : Int) ∧ ((m : Nat) : Int) < 2 ^ 64) := by omega
  have few := row_few hw
  have of := offs_few hw
  have k1 : m * (offs w).length ≤ 20 * 58 := Nat.mul_le_mul hm of
  have k2 : e * (offs w).length ≤ 20 * 58 := Nat.mul_le_mul he of
  have pm := pattern_num hw (n := m) (by omega) S
  have pe := pattern_num hw (n := e) (by omega) S
  have p1 : F_pattern [.str (numS w), .int 1] S = .ok (skO (patN w 1)) S := pattern_num hw (n := 1) (by omega) S
  have rm := patN_rise hw (n := m) (by omega)
  have hn0 : (0 : Int) ≤ (m : Int) * (rowN w).length := Int.mul_nonneg (by omega) (by omega)
  have re := patN_rise hw (n := e) (by omega)
  have rs := re.move hn0
  have l1 : (patN w m).length ≤ 16777216 := by rw [patN_len]; omega
  have l0 : (offs w).length ≤ 16777216 := by omega
  have lo : (patN w m).length + ((patN w e).map fun x => x + (m : Int) * (rowN w).length).length ≤ 4000 := by rw [List.length_map, patN_len, patN_len]; omega
  have us : usort (patN w m ++ (patN w e).map fun x => x + (m : Int) * (rowN w).length) = patN w (m + e) := by rw [← patN_add]; exact usort_self (patN_up w _)
  obtain ⟨v5, e3⟩ := due_loop hw (m := m) (by omega) (x0 := some (.str (numS w))) (x1 := some (.int (m : Nat))) (x2 := some (.int (e : Nat))) (x6 := none) (x7 := none) (x8 := none) (x9 := none) (S := S) m 0 none (by omega)
  rw [List.drop_zero, show patN w 0 = [] from rfl, List.map_nil] at e3
  unfold dueB at e3
  have c8 := comp_row hw (vs := [9]) (r := 3) (j := 9) (fe := varE 9) (fun x => x) (ρ := [some (.str (numS w)), some (.int (m : Nat)), some (.int (e : Nat)), some (.lst ((rowN w).map .int)), some (.lst ((patN w m).map .int)), v5, some (skO (patN w m)), some (skO (offs w)), none, none]) (S := S) rfl rfl (by simp [wipeD]) (by decide) (fun i acc hi => by
    show R.ok (D.int _) _ = R.ok (D.int _) _
    rw [Int.zero_add])
  rw [show ((offs w).map fun x => x) = offs w from List.map_id _] at c8
  have st1 : (setS 3 (callF 1 F__law_row (consF (varE 0) nilF))) [some (.str (numS w)), some (.int (m : Nat)), some (.int (e : Nat)), none, none, none, none, none, none, none] S = .nx [some (.str (numS w)), some (.int (m : Nat)), some (.int (e : Nat)), some (.lst ((rowN w).map .int)), none, none, none, none, none, none] S := by
    simp only [Bd, seqS, setS, retS, retN, dropS, ifS, forS, putS, augS, nxS, bkS, ctS, SR.seq_nx, SR.seq_rt, SR.seq_exc, SR.seq_bk, SR.seq_ct, SR.turn_nx, SR.turn_ct, SR.turn_bk, SR.turn_rt, SR.turn_exc, R.bind_ok, R.bind_bad, R.bind_exc, R.bindN_ok, R.st_ok, R.st_exc,
 varE, cE, binF, tstF, chnF, andB, orB, notB, andV, orV, notV, ifE, nilF, consF, tupF, lstF, ownF, negF, noO, someO, slF, callF, appF, isiF, mthF, itF, itA, nmG, nilG, consG, tupG, yesB, wipeD,
 addD_ii, addD_ss, addD_ll, subD_ii, mulD_ii, mulD_li, mulD_si, fdivD_ii, modD_ii, powD_10_18, ltD_ii, leD_ii, gtD_ii, geD_ii, gtD_ss, ltD_ss, eqD_ii, eqD_ss, eqD_bb, neD_ii, neD_ss, isBD_bb, isND_non, isND_int, isND_str, notND_non, notND_int, notND_str, lenD_s, lenD_l, lenD_r, lenD_t, lenD_c, min2D_ii, max2D_ii, intD_i, intD_b, strD_i, sumD_l, sumD_c, sumD_t, maxD_c, tupleD_l, tupleD_t, tupleD_c, listD_l, listD_t,
 ixD_l, ixD_r, ixD_t, ixD_s, ixD_c, slD_s, slD_l, slD_r, putIx_c, appendD_c, extendD_cl, isTy_c, isTy_s, isTy_l, iaddD, atI_0, atI_1, atI_2, atI_3, atI_4, low_int, low_str, low_bl, low_non, anyI_l, anyI_r, anyI_t, anyI_s, rng1I_i, rng2I_ii, ixN5, set_concat, get_concat, take_concat, len_concat, notInD_cs, inD_cs, sindexD_s, intD_s, tyN_s, tyN_i, tyN_b, tyN_n, tyN_t, tyN_l, tyIs_t, zipI_tt,
 startD, List.map_cons, List.map_nil, List.length_cons, List.length_nil, List.cons_append, List.nil_append, List.getElem?_cons_zero, List.getElem?_cons_succ, List.set_cons_zero, List.set_cons_succ, List.replicate_succ, List.replicate_zero, Option.bind_some, if_true, if_false, Bool.true_and, Bool.false_and, Bool.and_true, Bool.not_true, Bool.not_false, decide_true, decide_false, eq_self, Nat.zero_add, Nat.reduceAdd, Nat.reduceSub, reduceIte, reduceCtorEq, Int.reduceEq, Bool.false_eq_true, true_and, and_true, true_or, or_true, decide_eq_true_eq, lr]
  have st2 : (setS 4 (lstF nilF)) [some (.str (numS w)), some (.int (m : Nat)), some (.int (e : Nat)), some (.lst ((rowN w).map .int)), none, none, none, none, none, none] S = .nx [some (.str (numS w)), some (.int (m : Nat)), some (.int (e : Nat)), some (.lst ((rowN w).map .int)), some (.lst []), none, none, none, none, none] S := by
    simp only [Bd, seqS, setS, retS, retN, dropS, ifS, forS, putS, augS, nxS, bkS, ctS, SR.seq_nx, SR.seq_rt, SR.seq_exc, SR.seq_bk, SR.seq_ct, SR.turn_nx, SR.turn_ct, SR.turn_bk, SR.turn_rt, SR.turn_exc, R.bind_ok, R.bind_bad, R.bind_exc, R.bindN_ok, R.st_ok, R.st_exc,
 varE, cE, binF, tstF, chnF, andB, orB, notB, andV, orV, notV, ifE, nilF, consF, tupF, lstF, ownF, negF, noO, someO, slF, callF, appF, isiF, mthF, itF, itA, nmG, nilG, consG, tupG, yesB, wipeD,
 addD_ii, addD_ss, addD_ll, subD_ii, mulD_ii, mulD_li, mulD_si, fdivD_ii, modD_ii, powD_10_18, ltD_ii, leD_ii, gtD_ii, geD_ii, gtD_ss, ltD_ss, eqD_ii, eqD_ss, eqD_bb, neD_ii, neD_ss, isBD_bb, isND_non, isND_int, isND_str, notND_non, notND_int, notND_str, lenD_s, lenD_l, lenD_r, lenD_t, lenD_c, min2D_ii, max2D_ii, intD_i, intD_b, strD_i, sumD_l, sumD_c, sumD_t, maxD_c, tupleD_l, tupleD_t, tupleD_c, listD_l, listD_t,
 ixD_l, ixD_r, ixD_t, ixD_s, ixD_c, slD_s, slD_l, slD_r, putIx_c, appendD_c, extendD_cl, isTy_c, isTy_s, isTy_l, iaddD, atI_0, atI_1, atI_2, atI_3, atI_4, low_int, low_str, low_bl, low_non, anyI_l, anyI_r, anyI_t, anyI_s, rng1I_i, rng2I_ii, ixN5, set_concat, get_concat, take_concat, len_concat, notInD_cs, inD_cs, sindexD_s, intD_s, tyN_s, tyN_i, tyN_b, tyN_n, tyN_t, tyN_l, tyIs_t, zipI_tt,
 startD, List.map_cons, List.map_nil, List.length_cons, List.length_nil, List.cons_append, List.nil_append, List.getElem?_cons_zero, List.getElem?_cons_succ, List.set_cons_zero, List.set_cons_succ, List.replicate_succ, List.replicate_zero, Option.bind_some, if_true, if_false, Bool.true_and, Bool.false_and, Bool.and_true, Bool.not_true, Bool.not_false, decide_true, decide_false, eq_self, Nat.zero_add, Nat.reduceAdd, Nat.reduceSub, reduceIte, reduceCtorEq, Int.reduceEq, Bool.false_eq_true, true_and, and_true, true_or, or_true, decide_eq_true_eq, sz]
  have st3 : (forS (itA rng1I (consF (varE 1) nilF)) (nmG 5) (setS 4 (binF addD (varE 4) (compG finF [9] (itA rng1I (consF (appF lenD (consF (varE 3) nilF)) nilF)) (nmG 9) (tstF (binF eqD (binF ixD (varE 3) (varE 9)) (cE (.int 1)))) (binF addD (binF mulD (varE 5) (appF lenD (consF (varE 3) nilF))) (varE 9)))))) [some (.str (numS w)), some (.int (m : Nat)), some (.int (e : Nat)), some (.lst ((rowN w).map .int)), some (.lst []), none, none, none, none, none] S = .nx [some (.str (numS w)), some (.int (m : Nat)), some (.int (e : Nat)), some (.lst ((rowN w).map .int)), some (.lst ((patN w m).map .int)), v5, none, none, none, none] S := by
    simp only [forS, itA, rng1I, callF, consF, nilF, varE, R.bind_ok, R.st_ok, List.getElem?_cons_zero, List.getElem?_cons_succ, rng1I_i, Bd, bm, true_and, if_true, Int.toNat_natCast]
    exact e3
  have st4 : (setS 6 (callKF 1 1 2 (fun ds es => ds ++ es) F_pattern (consF (varE 0) nilF) (consF (varE 1) nilF))) [some (.str (numS w)), some (.int (m : Nat)), some (.int (e : Nat)), some (.lst ((rowN w).map .int)), some (.lst ((patN w m).map .int)), v5, none, none, none, none] S = .nx [some (.str (numS w)), some (.int (m : Nat)), some (.int (e : Nat)), some (.lst ((rowN w).map .int)), some (.lst ((patN w m).map .int)), v5, some (skO (patN w m)), none, none, none] S := by
    simp only [Bd, seqS, setS, retS, retN, dropS, ifS, forS, putS, augS, nxS, bkS, ctS, SR.seq_nx, SR.seq_rt, SR.seq_exc, SR.seq_bk, SR.seq_ct, SR.turn_nx, SR.turn_ct, SR.turn_bk, SR.turn_rt, SR.turn_exc, R.bind_ok, R.bind_bad, R.bind_exc, R.bindN_ok, R.st_ok, R.st_exc,
 varE, cE, binF, tstF, chnF, andB, orB, notB, andV, orV, notV, ifE, nilF, consF, tupF, lstF, ownF, negF, noO, someO, slF, callF, appF, isiF, mthF, itF, itA, nmG, nilG, consG, tupG, yesB, wipeD,
 addD_ii, addD_ss, addD_ll, subD_ii, mulD_ii, mulD_li, mulD_si, fdivD_ii, modD_ii, powD_10_18, ltD_ii, leD_ii, gtD_ii, geD_ii, gtD_ss, ltD_ss, eqD_ii, eqD_ss, eqD_bb, neD_ii, neD_ss, isBD_bb, isND_non, isND_int, isND_str, notND_non, notND_int, notND_str, lenD_s, lenD_l, lenD_r, lenD_t, lenD_c, min2D_ii, max2D_ii, intD_i, intD_b, strD_i, sumD_l, sumD_c, sumD_t, maxD_c, tupleD_l, tupleD_t, tupleD_c, listD_l, listD_t,
 ixD_l, ixD_r, ixD_t, ixD_s, ixD_c, slD_s, slD_l, slD_r, putIx_c, appendD_c, extendD_cl, isTy_c, isTy_s, isTy_l, iaddD, atI_0, atI_1, atI_2, atI_3, atI_4, low_int, low_str, low_bl, low_non, anyI_l, anyI_r, anyI_t, anyI_s, rng1I_i, rng2I_ii, ixN5, set_concat, get_concat, take_concat, len_concat, notInD_cs, inD_cs, sindexD_s, intD_s, tyN_s, tyN_i, tyN_b, tyN_n, tyN_t, tyN_l, tyIs_t, zipI_tt,
 startD, List.map_cons, List.map_nil, List.length_cons, List.length_nil, List.cons_append, List.nil_append, List.getElem?_cons_zero, List.getElem?_cons_succ, List.set_cons_zero, List.set_cons_succ, List.replicate_succ, List.replicate_zero, Option.bind_some, if_true, if_false, Bool.true_and, Bool.false_and, Bool.and_true, Bool.not_true, Bool.not_false, decide_true, decide_false, eq_self, Nat.zero_add, Nat.reduceAdd, Nat.reduceSub, reduceIte, reduceCtorEq, Int.reduceEq, Bool.false_eq_true, true_and, and_true, true_or, or_true, decide_eq_true_eq, callKF, argsF, pm]
  have st5 : (ifS (orB (notB (tstF (isOF ([("Strokes", true)] : List (Str × Bool)) (varE 6)))) (tstF (binF neD (appF (listO ([("Strokes", "offsets", F_Strokes___len__)] : List (Str × Str × DFun)) listD) (consF (varE 6) nilF)) (varE 4)))) (retS (cE (.bl false))) nxS) [some (.str (numS w)), some (.int (m : Nat)), some (.int (e : Nat)), some (.lst ((rowN w).map .int)), some (.lst ((patN w m).map .int)), v5, some (skO (patN w m)), none, none, none] S = .nx [some (.str (numS w)), some (.int (m : Nat)), some (.int (e : Nat)), some (.lst ((rowN w).map .int)), some (.lst ((patN w m).map .int)), v5, some (skO (patN w m)), none, none, none] S := by
    simp only [Bd, seqS, setS, retS, retN, dropS, ifS, forS, putS, augS, nxS, bkS, ctS, SR.seq_nx, SR.seq_rt, SR.seq_exc, SR.seq_bk, SR.seq_ct, SR.turn_nx, SR.turn_ct, SR.turn_bk, SR.turn_rt, SR.turn_exc, R.bind_ok, R.bind_bad, R.bind_exc, R.bindN_ok, R.st_ok, R.st_exc,
 varE, cE, binF, tstF, chnF, andB, orB, notB, andV, orV, notV, ifE, nilF, consF, tupF, lstF, ownF, negF, noO, someO, slF, callF, appF, isiF, mthF, itF, itA, nmG, nilG, consG, tupG, yesB, wipeD,
 addD_ii, addD_ss, addD_ll, subD_ii, mulD_ii, mulD_li, mulD_si, fdivD_ii, modD_ii, powD_10_18, ltD_ii, leD_ii, gtD_ii, geD_ii, gtD_ss, ltD_ss, eqD_ii, eqD_ss, eqD_bb, neD_ii, neD_ss, isBD_bb, isND_non, isND_int, isND_str, notND_non, notND_int, notND_str, lenD_s, lenD_l, lenD_r, lenD_t, lenD_c, min2D_ii, max2D_ii, intD_i, intD_b, strD_i, sumD_l, sumD_c, sumD_t, maxD_c, tupleD_l, tupleD_t, tupleD_c, listD_l, listD_t,
 ixD_l, ixD_r, ixD_t, ixD_s, ixD_c, slD_s, slD_l, slD_r, putIx_c, appendD_c, extendD_cl, isTy_c, isTy_s, isTy_l, iaddD, atI_0, atI_1, atI_2, atI_3, atI_4, low_int, low_str, low_bl, low_non, anyI_l, anyI_r, anyI_t, anyI_s, rng1I_i, rng2I_ii, ixN5, set_concat, get_concat, take_concat, len_concat, notInD_cs, inD_cs, sindexD_s, intD_s, tyN_s, tyN_i, tyN_b, tyN_n, tyN_t, tyN_l, tyIs_t, zipI_tt,
 startD, List.map_cons, List.map_nil, List.length_cons, List.length_nil, List.cons_append, List.nil_append, List.getElem?_cons_zero, List.getElem?_cons_succ, List.set_cons_zero, List.set_cons_succ, List.replicate_succ, List.replicate_zero, Option.bind_some, if_true, if_false, Bool.true_and, Bool.false_and, Bool.and_true, Bool.not_true, Bool.not_false, decide_true, decide_false, eq_self, Nat.zero_add, Nat.reduceAdd, Nat.reduceSub, reduceIte, reduceCtorEq, Int.reduceEq, Bool.false_eq_true, true_and, and_true, true_or, or_true, decide_eq_true_eq, is_sk (l := patN w m) (fe := varE 6) (S := S) (S1 := S) (ρ := [some (.str (numS w)), some (.int (m : Nat)), some (.int (e : Nat)), some (.lst ((rowN w).map .int)), some (.lst ((patN w m).map .int)), v5, some (skO (patN w m)), none, none, none]) rfl, list_sk l1, neD_il]
  have st6 : (ifS (tstF (binF (neO ([("Strokes", F_Strokes___eq__)] : List (Str × DFun)) neD) (callKF 2 0 2 (fun ds _ => ds ++ []) F_pattern (consF (varE 0) (consF (varE 1) nilF)) nilF) (varE 6))) (retS (cE (.bl false))) nxS) [some (.str (numS w)), some (.int (m : Nat)), some (.int (e : Nat)), some (.lst ((rowN w).map .int)), some (.lst ((patN w m).map .int)), v5, some (skO (patN w m)), none, none, none] S = .nx [some (.str (numS w)), some (.int (m : Nat)), some (.int (e : Nat)), some (.lst ((rowN w).map .int)), some (.lst ((patN w m).map .int)), v5, some (skO (patN w m)), none, none, none] S := by
    simp only [Bd, seqS, setS, retS, retN, dropS, ifS, forS, putS, augS, nxS, bkS, ctS, SR.seq_nx, SR.seq_rt, SR.seq_exc, SR.seq_bk, SR.seq_ct, SR.turn_nx, SR.turn_ct, SR.turn_bk, SR.turn_rt, SR.turn_exc, R.bind_ok, R.bind_bad, R.bind_exc, R.bindN_ok, R.st_ok, R.st_exc,
 varE, cE, binF, tstF, chnF, andB, orB, notB, andV, orV, notV, ifE, nilF, consF, tupF, lstF, ownF, negF, noO, someO, slF, callF, appF, isiF, mthF, itF, itA, nmG, nilG, consG, tupG, yesB, wipeD,
 addD_ii, addD_ss, addD_ll, subD_ii, mulD_ii, mulD_li, mulD_si, fdivD_ii, modD_ii, powD_10_18, ltD_ii, leD_ii, gtD_ii, geD_ii, gtD_ss, ltD_ss, eqD_ii, eqD_ss, eqD_bb, neD_ii, neD_ss, isBD_bb, isND_non, isND_int, isND_str, notND_non, notND_int, notND_str, lenD_s, lenD_l, lenD_r, lenD_t, lenD_c, min2D_ii, max2D_ii, intD_i, intD_b, strD_i, sumD_l, sumD_c, sumD_t, maxD_c, tupleD_l, tupleD_t, tupleD_c, listD_l, listD_t,
 ixD_l, ixD_r, ixD_t, ixD_s, ixD_c, slD_s, slD_l, slD_r, putIx_c, appendD_c, extendD_cl, isTy_c, isTy_s, isTy_l, iaddD, atI_0, atI_1, atI_2, atI_3, atI_4, low_int, low_str, low_bl, low_non, anyI_l, anyI_r, anyI_t, anyI_s, rng1I_i, rng2I_ii, ixN5, set_concat, get_concat, take_concat, len_concat, notInD_cs, inD_cs, sindexD_s, intD_s, tyN_s, tyN_i, tyN_b, tyN_n, tyN_t, tyN_l, tyIs_t, zipI_tt,
 startD, List.map_cons, List.map_nil, List.length_cons, List.length_nil, List.cons_append, List.nil_append, List.getElem?_cons_zero, List.getElem?_cons_succ, List.set_cons_zero, List.set_cons_succ, List.replicate_succ, List.replicate_zero, Option.bind_some, if_true, if_false, Bool.true_and, Bool.false_and, Bool.and_true, Bool.not_true, Bool.not_false, decide_true, decide_false, eq_self, Nat.zero_add, Nat.reduceAdd, Nat.reduceSub, reduceIte, reduceCtorEq, Int.reduceEq, Bool.false_eq_true, true_and, and_true, true_or, or_true, decide_eq_true_eq, callKF, argsF, pm, sk_ne]
  have st7 : (setS 7 (callF 1 F_strokes_of (consF (varE 0) nilF))) [some (.str (numS w)), some (.int (m : Nat)), some (.int (e : Nat)), some (.lst ((rowN w).map .int)), some (.lst ((patN w m).map .int)), v5, some (skO (patN w m)), none, none, none] S = .nx [some (.str (numS w)), some (.int (m : Nat)), some (.int (e : Nat)), some (.lst ((rowN w).map .int)), some (.lst ((patN w m).map .int)), v5, some (skO (patN w m)), some (skO (offs w)), none, none] S := by
    simp only [Bd, seqS, setS, retS, retN, dropS, ifS, forS, putS, augS, nxS, bkS, ctS, SR.seq_nx, SR.seq_rt, SR.seq_exc, SR.seq_bk, SR.seq_ct, SR.turn_nx, SR.turn_ct, SR.turn_bk, SR.turn_rt, SR.turn_exc, R.bind_ok, R.bind_bad, R.bind_exc, R.bindN_ok, R.st_ok, R.st_exc,
 varE, cE, binF, tstF, chnF, andB, orB, notB, andV, orV, notV, ifE, nilF, consF, tupF, lstF, ownF, negF, noO, someO, slF, callF, appF, isiF, mthF, itF, itA, nmG, nilG, consG, tupG, yesB, wipeD,
 addD_ii, addD_ss, addD_ll, subD_ii, mulD_ii, mulD_li, mulD_si, fdivD_ii, modD_ii, powD_10_18, ltD_ii, leD_ii, gtD_ii, geD_ii, gtD_ss, ltD_ss, eqD_ii, eqD_ss, eqD_bb, neD_ii, neD_ss, isBD_bb, isND_non, isND_int, isND_str, notND_non, notND_int, notND_str, lenD_s, lenD_l, lenD_r, lenD_t, lenD_c, min2D_ii, max2D_ii, intD_i, intD_b, strD_i, sumD_l, sumD_c, sumD_t, maxD_c, tupleD_l, tupleD_t, tupleD_c, listD_l, listD_t,
 ixD_l, ixD_r, ixD_t, ixD_s, ixD_c, slD_s, slD_l, slD_r, putIx_c, appendD_c, extendD_cl, isTy_c, isTy_s, isTy_l, iaddD, atI_0, atI_1, atI_2, atI_3, atI_4, low_int, low_str, low_bl, low_non, anyI_l, anyI_r, anyI_t, anyI_s, rng1I_i, rng2I_ii, ixN5, set_concat, get_concat, take_concat, len_concat, notInD_cs, inD_cs, sindexD_s, intD_s, tyN_s, tyN_i, tyN_b, tyN_n, tyN_t, tyN_l, tyIs_t, zipI_tt,
 startD, List.map_cons, List.map_nil, List.length_cons, List.length_nil, List.cons_append, List.nil_append, List.getElem?_cons_zero, List.getElem?_cons_succ, List.set_cons_zero, List.set_cons_succ, List.replicate_succ, List.replicate_zero, Option.bind_some, if_true, if_false, Bool.true_and, Bool.false_and, Bool.and_true, Bool.not_true, Bool.not_false, decide_true, decide_false, eq_self, Nat.zero_add, Nat.reduceAdd, Nat.reduceSub, reduceIte, reduceCtorEq, Int.reduceEq, Bool.false_eq_true, true_and, and_true, true_or, or_true, decide_eq_true_eq, strokes_num hw]
  have st8 : (ifS (orB (notB (tstF (isOF ([("Strokes", true)] : List (Str × Bool)) (varE 7)))) (tstF (binF neD (appF (listO ([("Strokes", "offsets", F_Strokes___len__)] : List (Str × Str × DFun)) listD) (consF (varE 7) nilF)) (compG finF [9] (itA rng1I (consF (appF lenD (consF (varE 3) nilF)) nilF)) (nmG 9) (tstF (binF eqD (binF ixD (varE 3) (varE 9)) (cE (.int 1)))) (varE 9))))) (retS (cE (.bl false))) nxS) [some (.str (numS w)), some (.int (m : Nat)), some (.int (e : Nat)), some (.lst ((rowN w).map .int)), some (.lst ((patN w m).map .int)), v5, some (skO (patN w m)), some (skO (offs w)), none, none] S = .nx [some (.str (numS w)), some (.int (m : Nat)), some (.int (e : Nat)), some (.lst ((rowN w).map .int)), some (.lst ((patN w m).map .int)), v5, some (skO (patN w m)), some (skO (offs w)), none, none] S := by
    simp only [Bd, seqS, setS, retS, retN, dropS, ifS, forS, putS, augS, nxS, bkS, ctS, SR.seq_nx, SR.seq_rt, SR.seq_exc, SR.seq_bk, SR.seq_ct, SR.turn_nx, SR.turn_ct, SR.turn_bk, SR.turn_rt, SR.turn_exc, R.bind_ok, R.bind_bad, R.bind_exc, R.bindN_ok, R.st_ok, R.st_exc,
 varE, cE, binF, tstF, chnF, andB, orB, notB, andV, orV, notV, ifE, nilF, consF, tupF, lstF, ownF, negF, noO, someO, slF, callF, appF, isiF, mthF, itF, itA, nmG, nilG, consG, tupG, yesB, wipeD,
 addD_ii, addD_ss, addD_ll, subD_ii, mulD_ii, mulD_li, mulD_si, fdivD_ii, modD_ii, powD_10_18, ltD_ii, leD_ii, gtD_ii, geD_ii, gtD_ss, ltD_ss, eqD_ii, eqD_ss, eqD_bb, neD_ii, neD_ss, isBD_bb, isND_non, isND_int, isND_str, notND_non, notND_int, notND_str, lenD_s, lenD_l, lenD_r, lenD_t, lenD_c, min2D_ii, max2D_ii, intD_i, intD_b, strD_i, sumD_l, sumD_c, sumD_t, maxD_c, tupleD_l, tupleD_t, tupleD_c, listD_l, listD_t,
 ixD_l, ixD_r, ixD_t, ixD_s, ixD_c, slD_s, slD_l, slD_r, putIx_c, appendD_c, extendD_cl, isTy_c, isTy_s, isTy_l, iaddD, atI_0, atI_1, atI_2, atI_3, atI_4, low_int, low_str, low_bl, low_non, anyI_l, anyI_r, anyI_t, anyI_s, rng1I_i, rng2I_ii, ixN5, set_concat, get_concat, take_concat, len_concat, notInD_cs, inD_cs, sindexD_s, intD_s, tyN_s, tyN_i, tyN_b, tyN_n, tyN_t, tyN_l, tyIs_t, zipI_tt,
 startD, List.map_cons, List.map_nil, List.length_cons, List.length_nil, List.cons_append, List.nil_append, List.getElem?_cons_zero, List.getElem?_cons_succ, List.set_cons_zero, List.set_cons_succ, List.replicate_succ, List.replicate_zero, Option.bind_some, if_true, if_false, Bool.true_and, Bool.false_and, Bool.and_true, Bool.not_true, Bool.not_false, decide_true, decide_false, eq_self, Nat.zero_add, Nat.reduceAdd, Nat.reduceSub, reduceIte, reduceCtorEq, Int.reduceEq, Bool.false_eq_true, true_and, and_true, true_or, or_true, decide_eq_true_eq, is_sk (l := offs w) (fe := varE 7) (S := S) (S1 := S) (ρ := [some (.str (numS w)), some (.int (m : Nat)), some (.int (e : Nat)), some (.lst ((rowN w).map .int)), some (.lst ((patN w m).map .int)), v5, some (skO (patN w m)), some (skO (offs w)), none, none]) rfl, list_sk l0, c8, neD_il]
  have st9 : (ifS (orB (tstF (binF (neO ([("Strokes", F_Strokes___eq__)] : List (Str × DFun)) neD) (callKF 1 0 2 (fun ds _ => ds ++ [.int 1]) F_pattern (consF (varE 0) nilF) nilF) (varE 7))) (tstF (binF (neO ([("Strokes", F_Strokes___eq__)] : List (Str × DFun)) neD) (callKF 1 1 2 (fun ds es => ds ++ es) F_pattern (consF (varE 0) nilF) (consF (cE (.int 1)) nilF)) (varE 7)))) (retS (cE (.bl false))) nxS) [some (.str (numS w)), some (.int (m : Nat)), some (.int (e : Nat)), some (.lst ((rowN w).map .int)), some (.lst ((patN w m).map .int)), v5, some (skO (patN w m)), some (skO (offs w)), none, none] S = .nx [some (.str (numS w)), some (.int (m : Nat)), some (.int (e : Nat)), some (.lst ((rowN w).map .int)), some (.lst ((patN w m).map .int)), v5, some (skO (patN w m)), some (skO (offs w)), none, none] S := by
    simp only [Bd, seqS, setS, retS, retN, dropS, ifS, forS, putS, augS, nxS, bkS, ctS, SR.seq_nx, SR.seq_rt, SR.seq_exc, SR.seq_bk, SR.seq_ct, SR.turn_nx, SR.turn_ct, SR.turn_bk, SR.turn_rt, SR.turn_exc, R.bind_ok, R.bind_bad, R.bind_exc, R.bindN_ok, R.st_ok, R.st_exc,
 varE, cE, binF, tstF, chnF, andB, orB, notB, andV, orV, notV, ifE, nilF, consF, tupF, lstF, ownF, negF, noO, someO, slF, callF, appF, isiF, mthF, itF, itA, nmG, nilG, consG, tupG, yesB, wipeD,
 addD_ii, addD_ss, addD_ll, subD_ii, mulD_ii, mulD_li, mulD_si, fdivD_ii, modD_ii, powD_10_18, ltD_ii, leD_ii, gtD_ii, geD_ii, gtD_ss, ltD_ss, eqD_ii, eqD_ss, eqD_bb, neD_ii, neD_ss, isBD_bb, isND_non, isND_int, isND_str, notND_non, notND_int, notND_str, lenD_s, lenD_l, lenD_r, lenD_t, lenD_c, min2D_ii, max2D_ii, intD_i, intD_b, strD_i, sumD_l, sumD_c, sumD_t, maxD_c, tupleD_l, tupleD_t, tupleD_c, listD_l, listD_t,
 ixD_l, ixD_r, ixD_t, ixD_s, ixD_c, slD_s, slD_l, slD_r, putIx_c, appendD_c, extendD_cl, isTy_c, isTy_s, isTy_l, iaddD, atI_0, atI_1, atI_2, atI_3, atI_4, low_int, low_str, low_bl, low_non, anyI_l, anyI_r, anyI_t, anyI_s, rng1I_i, rng2I_ii, ixN5, set_concat, get_concat, take_concat, len_concat, notInD_cs, inD_cs, sindexD_s, intD_s, tyN_s, tyN_i, tyN_b, tyN_n, tyN_t, tyN_l, tyIs_t, zipI_tt,
 startD, List.map_cons, List.map_nil, List.length_cons, List.length_nil, List.cons_append, List.nil_append, List.getElem?_cons_zero, List.getElem?_cons_succ, List.set_cons_zero, List.set_cons_succ, List.replicate_succ, List.replicate_zero, Option.bind_some, if_true, if_false, Bool.true_and, Bool.false_and, Bool.and_true, Bool.not_true, Bool.not_false, decide_true, decide_false, eq_self, Nat.zero_add, Nat.reduceAdd, Nat.reduceSub, reduceIte, reduceCtorEq, Int.reduceEq, Bool.false_eq_true, true_and, and_true, true_or, or_true, decide_eq_true_eq, callKF, argsF, p1, patN_one, sk_ne]
  have st10 : (setS 8 (binF (opO ([("Strokes", F_Strokes___rshift__)] : List (Str × DFun)) badO) (callKF 1 1 2 (fun ds es => ds ++ es) F_pattern (consF (varE 0) nilF) (consF (varE 2) nilF)) (binF mulD (varE 1) (appF lenD (consF (varE 3) nilF))))) [some (.str (numS w)), some (.int (m : Nat)), some (.int (e : Nat)), some (.lst ((rowN w).map .int)), some (.lst ((patN w m).map .int)), v5, some (skO (patN w m)), some (skO (offs w)), none, none] S = .nx [some (.str (numS w)), some (.int (m : Nat)), some (.int (e : Nat)), some (.lst ((rowN w).map .int)), some (.lst ((patN w m).map .int)), v5, some (skO (patN w m)), some (skO (offs w)), some (skO ((patN w e).map fun x => x + (m : Int) * (rowN w).length)), none] S := by
    simp only [Bd, seqS, setS, retS, retN, dropS, ifS, forS, putS, augS, nxS, bkS, ctS, SR.seq_nx, SR.seq_rt, SR.seq_exc, SR.seq_bk, SR.seq_ct, SR.turn_nx, SR.turn_ct, SR.turn_bk, SR.turn_rt, SR.turn_exc, R.bind_ok, R.bind_bad, R.bind_exc, R.bindN_ok, R.st_ok, R.st_exc,
 varE, cE, binF, tstF, chnF, andB, orB, notB, andV, orV, notV, ifE, nilF, consF, tupF, lstF, ownF, negF, noO, someO, slF, callF, appF, isiF, mthF, itF, itA, nmG, nilG, consG, tupG, yesB, wipeD,
 addD_ii, addD_ss, addD_ll, subD_ii, mulD_ii, mulD_li, mulD_si, fdivD_ii, modD_ii, powD_10_18, ltD_ii, leD_ii, gtD_ii, geD_ii, gtD_ss, ltD_ss, eqD_ii, eqD_ss, eqD_bb, neD_ii, neD_ss, isBD_bb, isND_non, isND_int, isND_str, notND_non, notND_int, notND_str, lenD_s, lenD_l, lenD_r, lenD_t, lenD_c, min2D_ii, max2D_ii, intD_i, intD_b, strD_i, sumD_l, sumD_c, sumD_t, maxD_c, tupleD_l, tupleD_t, tupleD_c, listD_l, listD_t,
 ixD_l, ixD_r, ixD_t, ixD_s, ixD_c, slD_s, slD_l, slD_r, putIx_c, appendD_c, extendD_cl, isTy_c, isTy_s, isTy_l, iaddD, atI_0, atI_1, atI_2, atI_3, atI_4, low_int, low_str, low_bl, low_non, anyI_l, anyI_r, anyI_t, anyI_s, rng1I_i, rng2I_ii, ixN5, set_concat, get_concat, take_concat, len_concat, notInD_cs, inD_cs, sindexD_s, intD_s, tyN_s, tyN_i, tyN_b, tyN_n, tyN_t, tyN_l, tyIs_t, zipI_tt,
 startD, List.map_cons, List.map_nil, List.length_cons, List.length_nil, List.cons_append, List.nil_append, List.getElem?_cons_zero, List.getElem?_cons_succ, List.set_cons_zero, List.set_cons_succ, List.replicate_succ, List.replicate_zero, Option.bind_some, if_true, if_false, Bool.true_and, Bool.false_and, Bool.and_true, Bool.not_true, Bool.not_false, decide_true, decide_false, eq_self, Nat.zero_add, Nat.reduceAdd, Nat.reduceSub, reduceIte, reduceCtorEq, Int.reduceEq, Bool.false_eq_true, true_and, and_true, true_or, or_true, decide_eq_true_eq, callKF, argsF, pe, List.length_map, mulD_ii, bm2, op_shift re hn0]
  have st11 : (ifS (andB (tstF (binF leD (binF addD (varE 1) (varE 2)) (cE (.int 20)))) (tstF (binF (neO ([("Strokes", F_Strokes___eq__)] : List (Str × DFun)) neD) (binF (opO ([("Strokes", F_Strokes___or__)] : List (Str × DFun)) badO) (varE 6) (varE 8)) (callKF 1 1 2 (fun ds es => ds ++ es) F_pattern (consF (varE 0) nilF) (consF (binF addD (varE 1) (varE 2)) nilF))))) (retS (cE (.bl false))) nxS) [some (.str (numS w)), some (.int (m : Nat)), some (.int (e : Nat)), some (.lst ((rowN w).map .int)), some (.lst ((patN w m).map .int)), v5, some (skO (patN w m)), some (skO (offs w)), some (skO ((patN w e).map fun x => x + (m : Int) * (rowN w).length)), none] S = .nx [some (.str (numS w)), some (.int (m : Nat)), some (.int (e : Nat)), some (.lst ((rowN w).map .int)), some (.lst ((patN w m).map .int)), v5, some (skO (patN w m)), some (skO (offs w)), some (skO ((patN w e).map fun x => x + (m : Int) * (rowN w).length)), none] S := by
    by_cases le : ((m : Int) + (e : Int) ≤ 20)
    · have pa : F_pattern [.str (numS w), .int ((m : Int) + (e : Int))] S = .ok (skO (patN w (m + e))) S := by rw [← Int.natCast_add]; exact pattern_num hw (by omega) S
      simp only [Bd, seqS, setS, retS, retN, dropS, ifS, forS, putS, augS, nxS, bkS, ctS, SR.seq_nx, SR.seq_rt, SR.seq_exc, SR.seq_bk, SR.seq_ct, SR.turn_nx, SR.turn_ct, SR.turn_bk, SR.turn_rt, SR.turn_exc, R.bind_ok, R.bind_bad, R.bind_exc, R.bindN_ok, R.st_ok, R.st_exc,
 varE, cE, binF, tstF, chnF, andB, orB, notB, andV, orV, notV, ifE, nilF, consF, tupF, lstF, ownF, negF, noO, someO, slF, callF, appF, isiF, mthF, itF, itA, nmG, nilG, consG, tupG, yesB, wipeD,
 addD_ii, addD_ss, addD_ll, subD_ii, mulD_ii, mulD_li, mulD_si, fdivD_ii, modD_ii, powD_10_18, ltD_ii, leD_ii, gtD_ii, geD_ii, gtD_ss, ltD_ss, eqD_ii, eqD_ss, eqD_bb, neD_ii, neD_ss, isBD_bb, isND_non, isND_int, isND_str, notND_non, notND_int, notND_str, lenD_s, lenD_l, lenD_r, lenD_t, lenD_c, min2D_ii, max2D_ii, intD_i, intD_b, strD_i, sumD_l, sumD_c, sumD_t, maxD_c, tupleD_l, tupleD_t, tupleD_c, listD_l, listD_t,
 ixD_l, ixD_r, ixD_t, ixD_s, ixD_c, slD_s, slD_l, slD_r, putIx_c, appendD_c, extendD_cl, isTy_c, isTy_s, isTy_l, iaddD, atI_0, atI_1, atI_2, atI_3, atI_4, low_int, low_str, low_bl, low_non, anyI_l, anyI_r, anyI_t, anyI_s, rng1I_i, rng2I_ii, ixN5, set_concat, get_concat, take_concat, len_concat, notInD_cs, inD_cs, sindexD_s, intD_s, tyN_s, tyN_i, tyN_b, tyN_n, tyN_t, tyN_l, tyIs_t, zipI_tt,
 startD, List.map_cons, List.map_nil, List.length_cons, List.length_nil, List.cons_append, List.nil_append, List.getElem?_cons_zero, List.getElem?_cons_succ, List.set_cons_zero, List.set_cons_succ, List.replicate_succ, List.replicate_zero, Option.bind_some, if_true, if_false, Bool.true_and, Bool.false_and, Bool.and_true, Bool.not_true, Bool.not_false, decide_true, decide_false, eq_self, Nat.zero_add, Nat.reduceAdd, Nat.reduceSub, reduceIte, reduceCtorEq, Int.reduceEq, Bool.false_eq_true, true_and, and_true, true_or, or_true, decide_eq_true_eq, le, callKF, argsF, op_or rm rs lo, us, pa, sk_ne]
    · simp only [Bd, seqS, setS, retS, retN, dropS, ifS, forS, putS, augS, nxS, bkS, ctS, SR.seq_nx, SR.seq_rt, SR.seq_exc, SR.seq_bk, SR.seq_ct, SR.turn_nx, SR.turn_ct, SR.turn_bk, SR.turn_rt, SR.turn_exc, R.bind_ok, R.bind_bad, R.bind_exc, R.bindN_ok, R.st_ok, R.st_exc,
 varE, cE, binF, tstF, chnF, andB, orB, notB, andV, orV, notV, ifE, nilF, consF, tupF, lstF, ownF, negF, noO, someO, slF, callF, appF, isiF, mthF, itF, itA, nmG, nilG, consG, tupG, yesB, wipeD,
 addD_ii, addD_ss, addD_ll, subD_ii, mulD_ii, mulD_li, mulD_si, fdivD_ii, modD_ii, powD_10_18, ltD_ii, leD_ii, gtD_ii, geD_ii, gtD_ss, ltD_ss, eqD_ii, eqD_ss, eqD_bb, neD_ii, neD_ss, isBD_bb, isND_non, isND_int, isND_str, notND_non, notND_int, notND_str, lenD_s, lenD_l, lenD_r, lenD_t, lenD_c, min2D_ii, max2D_ii, intD_i, intD_b, strD_i, sumD_l, sumD_c, sumD_t, maxD_c, tupleD_l, tupleD_t, tupleD_c, listD_l, listD_t,
 ixD_l, ixD_r, ixD_t, ixD_s, ixD_c, slD_s, slD_l, slD_r, putIx_c, appendD_c, extendD_cl, isTy_c, isTy_s, isTy_l, iaddD, atI_0, atI_1, atI_2, atI_3, atI_4, low_int, low_str, low_bl, low_non, anyI_l, anyI_r, anyI_t, anyI_s, rng1I_i, rng2I_ii, ixN5, set_concat, get_concat, take_concat, len_concat, notInD_cs, inD_cs, sindexD_s, intD_s, tyN_s, tyN_i, tyN_b, tyN_n, tyN_t, tyN_l, tyIs_t, zipI_tt,
 startD, List.map_cons, List.map_nil, List.length_cons, List.length_nil, List.cons_append, List.nil_append, List.getElem?_cons_zero, List.getElem?_cons_succ, List.set_cons_zero, List.set_cons_succ, List.replicate_succ, List.replicate_zero, Option.bind_some, if_true, if_false, Bool.true_and, Bool.false_and, Bool.and_true, Bool.not_true, Bool.not_false, decide_true, decide_false, eq_self, Nat.zero_add, Nat.reduceAdd, Nat.reduceSub, reduceIte, reduceCtorEq, Int.reduceEq, Bool.false_eq_true, true_and, and_true, true_or, or_true, decide_eq_true_eq, le]
  have no : (patN w m).filter (fun x => decide (x ∈ (patN w e).map fun x => x + (m : Int) * (rowN w).length)) = [] := by
    apply List.filter_eq_nil_iff.mpr
    intro x hx h
    obtain ⟨y, hy, rfl⟩ := List.mem_map.mp (of_decide_eq_true h)
    have := patN_lt hx
    have := patN_lt hy
    omega
  show leave _ (seqS _ _ [some (.str (numS w)), some (.int (m : Nat)), some (.int (e : Nat)), none, none, none, none, none, none, none] S) = _
  rw [seq_go st1, seq_go st2, seq_go st3, seq_go st4, seq_go st5, seq_go st6, seq_go st7, seq_go st8, seq_go st9, seq_go st10, seq_go st11]
  have en : eqD (.lst []) (.lst []) S = .ok (.bl true) S := eqD_il [] []
  simp only [Bd, seqS, setS, retS, retN, dropS, ifS, forS, putS, augS, nxS, bkS, ctS, SR.seq_nx, SR.seq_rt, SR.seq_exc, SR.seq_bk, SR.seq_ct, SR.turn_nx, SR.turn_ct, SR.turn_bk, SR.turn_rt, SR.turn_exc, R.bind_ok, R.bind_bad, R.bind_exc, R.bindN_ok, R.st_ok, R.st_exc,
 varE, cE, binF, tstF, chnF, andB, orB, notB, andV, orV, notV, ifE, nilF, consF, tupF, lstF, ownF, negF, noO, someO, slF, callF, appF, isiF, mthF, itF, itA, nmG, nilG, consG, tupG, yesB, wipeD,
 addD_ii, addD_ss, addD_ll, subD_ii, mulD_ii, mulD_li, mulD_si, fdivD_ii, modD_ii, powD_10_18, ltD_ii, leD_ii, gtD_ii, geD_ii, gtD_ss, ltD_ss, eqD_ii, eqD_ss, eqD_bb, neD_ii, neD_ss, isBD_bb, isND_non, isND_int, isND_str, notND_non, notND_int, notND_str, lenD_s, lenD_l, lenD_r, lenD_t, lenD_c, min2D_ii, max2D_ii, intD_i, intD_b, strD_i, sumD_l, sumD_c, sumD_t, maxD_c, tupleD_l, tupleD_t, tupleD_c, listD_l, listD_t,
 ixD_l, ixD_r, ixD_t, ixD_s, ixD_c, slD_s, slD_l, slD_r, putIx_c, appendD_c, extendD_cl, isTy_c, isTy_s, isTy_l, iaddD, atI_0, atI_1, atI_2, atI_3, atI_4, low_int, low_str, low_bl, low_non, anyI_l, anyI_r, anyI_t, anyI_s, rng1I_i, rng2I_ii, ixN5, set_concat, get_concat, take_concat, len_concat, notInD_cs, inD_cs, sindexD_s, intD_s, tyN_s, tyN_i, tyN_b, tyN_n, tyN_t, tyN_l, tyIs_t, zipI_tt,
 startD, List.map_cons, List.map_nil, List.length_cons, List.length_nil, List.cons_append, List.nil_append, List.getElem?_cons_zero, List.getElem?_cons_succ, List.set_cons_zero, List.set_cons_succ, List.replicate_succ, List.replicate_zero, Option.bind_some, if_true, if_false, Bool.true_and, Bool.false_and, Bool.and_true, Bool.not_true, Bool.not_false, decide_true, decide_false, eq_self, Nat.zero_add, Nat.reduceAdd, Nat.reduceSub, reduceIte, reduceCtorEq, Int.reduceEq, Bool.false_eq_true, true_and, and_true, true_or, or_true, decide_eq_true_eq, sz, op_andS rm, no, list_sk (l := []) (by decide), en, leave_rt, fz_bl, List.take_length]
theorem times_ok {m : Nat} {b : List D} {T : Sto} (hb : BagOk m b) (hm : m < 2 ^ 58) : ∃ (n : Nat) (b' : List D), F__law_times [.cell 0] (.lst b :: T) = .ok (.int (n : Nat)) (.lst b' :: T) ∧ n ≤ 20 ∧ BagOk (m + 2) b' := by
  unfold F__law_times fnF g__law_times
  obtain ⟨w, b1, e1, w0, w1, hb1⟩ := draw_ok (T := T) (lim := 3) hb (by decide) (by decide) (by omega)
  have hl : ∃ l : Int, atI [D.int 4, D.int 4, D.int 21] w = some (.int l) ∧ 0 < l ∧ l ≤ 21 := by
    rcases (show w = 0 ∨ w = 1 ∨ w = 2 by omega) with rfl | rfl | rfl
    · exact ⟨4, atI_0, by decide, by decide⟩
    · exact ⟨4, atI_1, by decide, by decide⟩
    · exact ⟨21, atI_2, by decide, by decide⟩
  obtain ⟨l, el, l0, l1⟩ := hl
  obtain ⟨n, b2, e2, n0, n1, hb2⟩ := draw_ok (T := T) (lim := l) hb1 l0 (lt1000 (by omega)) (by omega)
  obtain ⟨n, rfl⟩ := Int.eq_ofNat_of_zero_le n0
  exact ⟨n, b2, by simp only [Bd, seqS, setS, retS, retN, dropS, ifS, forS, putS, augS, nxS, bkS, ctS, SR.seq_nx, SR.seq_rt, SR.seq_exc, SR.seq_bk, SR.seq_ct, SR.turn_nx, SR.turn_ct, SR.turn_bk, SR.turn_rt, SR.turn_exc, R.bind_ok, R.bind_bad, R.bind_exc, R.bindN_ok, R.st_ok, R.st_exc,
 varE, cE, binF, tstF, chnF, andB, orB, notB, andV, orV, notV, ifE, nilF, consF, tupF, lstF, ownF, negF, noO, someO, slF, callF, appF, isiF, mthF, itF, itA, nmG, nilG, consG, tupG, yesB, wipeD,
 addD_ii, addD_ss, addD_ll, subD_ii, mulD_ii, mulD_li, mulD_si, fdivD_ii, modD_ii, powD_10_18, ltD_ii, leD_ii, gtD_ii, geD_ii, gtD_ss, ltD_ss, eqD_ii, eqD_ss, eqD_bb, neD_ii, neD_ss, isBD_bb, isND_non, isND_int, isND_str, notND_non, notND_int, notND_str, lenD_s, lenD_l, lenD_r, lenD_t, lenD_c, min2D_ii, max2D_ii, intD_i, intD_b, strD_i, sumD_l, sumD_c, sumD_t, maxD_c, tupleD_l, tupleD_t, tupleD_c, listD_l, listD_t,
 ixD_l, ixD_r, ixD_t, ixD_s, ixD_c, slD_s, slD_l, slD_r, putIx_c, appendD_c, extendD_cl, isTy_c, isTy_s, isTy_l, iaddD, atI_0, atI_1, atI_2, atI_3, atI_4, low_int, low_str, low_bl, low_non, anyI_l, anyI_r, anyI_t, anyI_s, rng1I_i, rng2I_ii, ixN5, set_concat, get_concat, take_concat, len_concat, notInD_cs, inD_cs, sindexD_s, intD_s, tyN_s, tyN_i, tyN_b, tyN_n, tyN_t, tyN_l, tyIs_t, zipI_tt,
 startD, List.map_cons, List.map_nil, List.length_cons, List.length_nil, List.cons_append, List.nil_append, List.getElem?_cons_zero, List.getElem?_cons_succ, List.set_cons_zero, List.set_cons_succ, List.replicate_succ, List.replicate_zero, Option.bind_some, if_true, if_false, Bool.true_and, Bool.false_and, Bool.and_true, Bool.not_true, Bool.not_false, decide_true, decide_false, eq_self, Nat.zero_add, Nat.reduceAdd, Nat.reduceSub, reduceIte, reduceCtorEq, Int.reduceEq, Bool.false_eq_true, true_and, and_true, true_or, or_true, decide_eq_true_eq, sz, e1, el, e2, leave_rt, fz_int, take_cons], by omega, hb2.mono (by omega)⟩
theorem odd9 {a : List Nat} (ha : IsNum a) {w : Int} (h0 : 0 ≤ w) (h1 : w < 9) : ∃ d z, atI [D.str "", D.str "0", D.str "55555", D.str "9996", D.non, D.int 24, D.str "2 4", D.lst [D.str (numS a)], D.bl true] w = some d ∧ NoN d ∧ Rpr d z := by
  have txt (z : Str) (hn : numB z = false) (ha : Asc z) (hl : z.length ≤ 1000) : NoN (.str z) ∧ Rpr (.str z) (PyData.str z).shown := ⟨nn_str hn hl, rpr_str ha hl⟩
  have az : ∀ z ∈ [numS a], Asc z := fun z hz => by
    rw [List.mem_singleton.mp hz]
    intro c hc
    rw [numS_list] at hc
    obtain ⟨d, hd, rfl⟩ := List.mem_map.mp hc
    have := ha.dig d hd
    omega
  have cs : w = 0 ∨ w = 1 ∨ w = 2 ∨ w = 3 ∨ w = 4 ∨ w = 5 ∨ w = 6 ∨ w = 7 ∨ w = 8 := by omega
  rcases cs with rfl | rfl | rfl | rfl | rfl | rfl | rfl | rfl | rfl
  · exact ⟨_, _, atI_0, txt "" (by decide +kernel) (by unfold Asc; decide +kernel) (by decide)⟩
  · exact ⟨_, _, atI_1, txt "0" (by decide +kernel) (by unfold Asc; decide +kernel) (by decide)⟩
  · exact ⟨_, _, atI_2, txt "55555" (by decide +kernel) (by unfold Asc; decide +kernel) (by decide)⟩
  · exact ⟨_, _, atI_3, txt "9996" (by decide +kernel) (by unfold Asc; decide +kernel) (by decide)⟩
  · exact ⟨_, _, atI_4, nn_other (fun _ => rfl) (fun _ _ _ => fz_non), rpr_non⟩
  · exact ⟨_, _, atI_nat (j := 5) rfl, nn_other (fun _ => rfl) (fun _ _ _ => fz_int), rpr_int (by decide +kernel)⟩
  · exact ⟨_, _, atI_nat (j := 6) rfl, txt "2 4" (by decide +kernel) (by unfold Asc; decide +kernel) (by decide)⟩
  · exact ⟨_, _, atI_nat (j := 7) rfl, nn_other (fun _ => rfl) (fun _ _ _ => by rw [fz_lst]; simp only [List.map_cons, List.map_nil, fz_str]), rpr_strs (l := [numS a]) az (fun z hz => by rw [List.mem_singleton.mp hz, numS_len]; have := ha.few; omega) (by simp)⟩
  · exact ⟨_, _, atI_nat (j := 8) rfl, nn_other (fun _ => rfl) (fun _ _ _ => fz_bl), rpr_bl true⟩
theorem law_true : ∀ (ns : List Int), ns.length ≤ 63 → ∃ S, F_law [.rol (ns.map D.int)] [] = .ok (.bl true) S := by
  intro ns hns
  unfold F_law fnF g_law
  obtain ⟨b0, e0, hb0⟩ := bag_ok ns hns
  obtain ⟨a, b1, e1, ha, hb1⟩ := number_ok (T := []) hb0 (by decide)
  obtain ⟨c, b2, e2, hc, hb2⟩ := number_ok (T := []) hb1 (by decide)
  obtain ⟨m, b3, e3, hm, hb3⟩ := times_ok (T := []) hb2 (by decide)
  obtain ⟨n, b4, e4, hn, hb4⟩ := times_ok (T := []) hb3 (by decide)
  obtain ⟨q, b5, e5, hq, hb5⟩ := times_ok (T := []) hb4 (by decide)
  obtain ⟨w, b6, e6, w0, w1, hb6⟩ := draw_ok (T := []) (lim := 9) hb5 (by decide) (by decide) (by decide)
  obtain ⟨d, z, ed, hd, hz⟩ := odd9 ha w0 w1
  have rf := refused_ok (n := .int (q : Nat)) (S := [.lst b6]) hd hz (fun c hc => by rw [List.mem_singleton.mp hc]; exact bag_noX hb6)
  have nn : neD (.lst [.str z, .str z, .str z]) (.lst [.str z, .str z, .str z]) [.lst b6] = .ok (.bl (!decide ([z, z, z] = [z, z, z]))) [.lst b6] :=
    neD_dat [z, z, z] [z, z, z] rfl rfl (lay_list fun y hy => lay_asc (by simp at hy; rw [hy]; exact hz.asc)) (lay_list fun y hy => lay_asc (by simp at hy; rw [hy]; exact hz.asc)) (by decide)
  have st1 : (setS 1 (callF 1 F__law_bag (consF (varE 0) nilF))) [some (.rol (ns.map D.int)), none, none, none, none, none, none, none] [] = .nx [some (.rol (ns.map D.int)), some (.cell 0), none, none, none, none, none, none] [.lst b0] := by
    simp only [Bd, seqS, setS, retS, retN, dropS, ifS, forS, putS, augS, nxS, bkS, ctS, SR.seq_nx, SR.seq_rt, SR.seq_exc, SR.seq_bk, SR.seq_ct, SR.turn_nx, SR.turn_ct, SR.turn_bk, SR.turn_rt, SR.turn_exc, R.bind_ok, R.bind_bad, R.bind_exc, R.bindN_ok, R.st_ok, R.st_exc,
 varE, cE, binF, tstF, chnF, andB, orB, notB, andV, orV, notV, ifE, nilF, consF, tupF, lstF, ownF, negF, noO, someO, slF, callF, appF, isiF, mthF, itF, itA, nmG, nilG, consG, tupG, yesB, wipeD,
 addD_ii, addD_ss, addD_ll, subD_ii, mulD_ii, mulD_li, mulD_si, fdivD_ii, modD_ii, powD_10_18, ltD_ii, leD_ii, gtD_ii, geD_ii, gtD_ss, ltD_ss, eqD_ii, eqD_ss, eqD_bb, neD_ii, neD_ss, isBD_bb, isND_non, isND_int, isND_str, notND_non, notND_int, notND_str, lenD_s, lenD_l, lenD_r, lenD_t, lenD_c, min2D_ii, max2D_ii, intD_i, intD_b, strD_i, sumD_l, sumD_c, sumD_t, maxD_c, tupleD_l, tupleD_t, tupleD_c, listD_l, listD_t,
 ixD_l, ixD_r, ixD_t, ixD_s, ixD_c, slD_s, slD_l, slD_r, putIx_c, appendD_c, extendD_cl, isTy_c, isTy_s, isTy_l, iaddD, atI_0, atI_1, atI_2, atI_3, atI_4, low_int, low_str, low_bl, low_non, anyI_l, anyI_r, anyI_t, anyI_s, rng1I_i, rng2I_ii, ixN5, set_concat, get_concat, take_concat, len_concat, notInD_cs, inD_cs, sindexD_s, intD_s, tyN_s, tyN_i, tyN_b, tyN_n, tyN_t, tyN_l, tyIs_t, zipI_tt,
 startD, List.map_cons, List.map_nil, List.length_cons, List.length_nil, List.cons_append, List.nil_append, List.getElem?_cons_zero, List.getElem?_cons_succ, List.set_cons_zero, List.set_cons_succ, List.replicate_succ, List.replicate_zero, Option.bind_some, if_true, if_false, Bool.true_and, Bool.false_and, Bool.and_true, Bool.not_true, Bool.not_false, decide_true, decide_false, eq_self, Nat.zero_add, Nat.reduceAdd, Nat.reduceSub, reduceIte, reduceCtorEq, Int.reduceEq, Bool.false_eq_true, true_and, and_true, true_or, or_true, decide_eq_true_eq, e0]
  have st2 : (setS 2 (callF 1 F__law_number (consF (varE 1) nilF))) [some (.rol (ns.map D.int)), some (.cell 0), none, none, none, none, none, none] [.lst b0] = .nx [some (.rol (ns.map D.int)), some (.cell 0), some (.str (numS a)), none, none, none, none, none] [.lst b1] := by
    simp only [Bd, seqS, setS, retS, retN, dropS, ifS, forS, putS, augS, nxS, bkS, ctS, SR.seq_nx, SR.seq_rt, SR.seq_exc, SR.seq_bk, SR.seq_ct, SR.turn_nx, SR.turn_ct, SR.turn_bk, SR.turn_rt, SR.turn_exc, R.bind_ok, R.bind_bad, R.bind_exc, R.bindN_ok, R.st_ok, R.st_exc,
 varE, cE, binF, tstF, chnF, andB, orB, notB, andV, orV, notV, ifE, nilF, consF, tupF, lstF, ownF, negF, noO, someO, slF, callF, appF, isiF, mthF, itF, itA, nmG, nilG, consG, tupG, yesB, wipeD,
 addD_ii, addD_ss, addD_ll, subD_ii, mulD_ii, mulD_li, mulD_si, fdivD_ii, modD_ii, powD_10_18, ltD_ii, leD_ii, gtD_ii, geD_ii, gtD_ss, ltD_ss, eqD_ii, eqD_ss, eqD_bb, neD_ii, neD_ss, isBD_bb, isND_non, isND_int, isND_str, notND_non, notND_int, notND_str, lenD_s, lenD_l, lenD_r, lenD_t, lenD_c, min2D_ii, max2D_ii, intD_i, intD_b, strD_i, sumD_l, sumD_c, sumD_t, maxD_c, tupleD_l, tupleD_t, tupleD_c, listD_l, listD_t,
 ixD_l, ixD_r, ixD_t, ixD_s, ixD_c, slD_s, slD_l, slD_r, putIx_c, appendD_c, extendD_cl, isTy_c, isTy_s, isTy_l, iaddD, atI_0, atI_1, atI_2, atI_3, atI_4, low_int, low_str, low_bl, low_non, anyI_l, anyI_r, anyI_t, anyI_s, rng1I_i, rng2I_ii, ixN5, set_concat, get_concat, take_concat, len_concat, notInD_cs, inD_cs, sindexD_s, intD_s, tyN_s, tyN_i, tyN_b, tyN_n, tyN_t, tyN_l, tyIs_t, zipI_tt,
 startD, List.map_cons, List.map_nil, List.length_cons, List.length_nil, List.cons_append, List.nil_append, List.getElem?_cons_zero, List.getElem?_cons_succ, List.set_cons_zero, List.set_cons_succ, List.replicate_succ, List.replicate_zero, Option.bind_some, if_true, if_false, Bool.true_and, Bool.false_and, Bool.and_true, Bool.not_true, Bool.not_false, decide_true, decide_false, eq_self, Nat.zero_add, Nat.reduceAdd, Nat.reduceSub, reduceIte, reduceCtorEq, Int.reduceEq, Bool.false_eq_true, true_and, and_true, true_or, or_true, decide_eq_true_eq, e1]
  have st3 : (setS 3 (callF 1 F__law_number (consF (varE 1) nilF))) [some (.rol (ns.map D.int)), some (.cell 0), some (.str (numS a)), none, none, none, none, none] [.lst b1] = .nx [some (.rol (ns.map D.int)), some (.cell 0), some (.str (numS a)), some (.str (numS c)), none, none, none, none] [.lst b2] := by
    simp only [Bd, seqS, setS, retS, retN, dropS, ifS, forS, putS, augS, nxS, bkS, ctS, SR.seq_nx, SR.seq_rt, SR.seq_exc, SR.seq_bk, SR.seq_ct, SR.turn_nx, SR.turn_ct, SR.turn_bk, SR.turn_rt, SR.turn_exc, R.bind_ok, R.bind_bad, R.bind_exc, R.bindN_ok, R.st_ok, R.st_exc,
 varE, cE, binF, tstF, chnF, andB, orB, notB, andV, orV, notV, ifE, nilF, consF, tupF, lstF, ownF, negF, noO, someO, slF, callF, appF, isiF, mthF, itF, itA, nmG, nilG, consG, tupG, yesB, wipeD,
 addD_ii, addD_ss, addD_ll, subD_ii, mulD_ii, mulD_li, mulD_si, fdivD_ii, modD_ii, powD_10_18, ltD_ii, leD_ii, gtD_ii, geD_ii, gtD_ss, ltD_ss, eqD_ii, eqD_ss, eqD_bb, neD_ii, neD_ss, isBD_bb, isND_non, isND_int, isND_str, notND_non, notND_int, notND_str, lenD_s, lenD_l, lenD_r, lenD_t, lenD_c, min2D_ii, max2D_ii, intD_i, intD_b, strD_i, sumD_l, sumD_c, sumD_t, maxD_c, tupleD_l, tupleD_t, tupleD_c, listD_l, listD_t,
 ixD_l, ixD_r, ixD_t, ixD_s, ixD_c, slD_s, slD_l, slD_r, putIx_c, appendD_c, extendD_cl, isTy_c, isTy_s, isTy_l, iaddD, atI_0, atI_1, atI_2, atI_3, atI_4, low_int, low_str, low_bl, low_non, anyI_l, anyI_r, anyI_t, anyI_s, rng1I_i, rng2I_ii, ixN5, set_concat, get_concat, take_concat, len_concat, notInD_cs, inD_cs, sindexD_s, intD_s, tyN_s, tyN_i, tyN_b, tyN_n, tyN_t, tyN_l, tyIs_t, zipI_tt,
 startD, List.map_cons, List.map_nil, List.length_cons, List.length_nil, List.cons_append, List.nil_append, List.getElem?_cons_zero, List.getElem?_cons_succ, List.set_cons_zero, List.set_cons_succ, List.replicate_succ, List.replicate_zero, Option.bind_some, if_true, if_false, Bool.true_and, Bool.false_and, Bool.and_true, Bool.not_true, Bool.not_false, decide_true, decide_false, eq_self, Nat.zero_add, Nat.reduceAdd, Nat.reduceSub, reduceIte, reduceCtorEq, Int.reduceEq, Bool.false_eq_true, true_and, and_true, true_or, or_true, decide_eq_true_eq, e2]
  have st4 : (setS 4 (callF 1 F__law_times (consF (varE 1) nilF))) [some (.rol (ns.map D.int)), some (.cell 0), some (.str (numS a)), some (.str (numS c)), none, none, none, none] [.lst b2] = .nx [some (.rol (ns.map D.int)), some (.cell 0), some (.str (numS a)), some (.str (numS c)), some (.int (m : Nat)), none, none, none] [.lst b3] := by
    simp only [Bd, seqS, setS, retS, retN, dropS, ifS, forS, putS, augS, nxS, bkS, ctS, SR.seq_nx, SR.seq_rt, SR.seq_exc, SR.seq_bk, SR.seq_ct, SR.turn_nx, SR.turn_ct, SR.turn_bk, SR.turn_rt, SR.turn_exc, R.bind_ok, R.bind_bad, R.bind_exc, R.bindN_ok, R.st_ok, R.st_exc,
 varE, cE, binF, tstF, chnF, andB, orB, notB, andV, orV, notV, ifE, nilF, consF, tupF, lstF, ownF, negF, noO, someO, slF, callF, appF, isiF, mthF, itF, itA, nmG, nilG, consG, tupG, yesB, wipeD,
 addD_ii, addD_ss, addD_ll, subD_ii, mulD_ii, mulD_li, mulD_si, fdivD_ii, modD_ii, powD_10_18, ltD_ii, leD_ii, gtD_ii, geD_ii, gtD_ss, ltD_ss, eqD_ii, eqD_ss, eqD_bb, neD_ii, neD_ss, isBD_bb, isND_non, isND_int, isND_str, notND_non, notND_int, notND_str, lenD_s, lenD_l, lenD_r, lenD_t, lenD_c, min2D_ii, max2D_ii, intD_i, intD_b, strD_i, sumD_l, sumD_c, sumD_t, maxD_c, tupleD_l, tupleD_t, tupleD_c, listD_l, listD_t,
 ixD_l, ixD_r, ixD_t, ixD_s, ixD_c, slD_s, slD_l, slD_r, putIx_c, appendD_c, extendD_cl, isTy_c, isTy_s, isTy_l, iaddD, atI_0, atI_1, atI_2, atI_3, atI_4, low_int, low_str, low_bl, low_non, anyI_l, anyI_r, anyI_t, anyI_s, rng1I_i, rng2I_ii, ixN5, set_concat, get_concat, take_concat, len_concat, notInD_cs, inD_cs, sindexD_s, intD_s, tyN_s, tyN_i, tyN_b, tyN_n, tyN_t, tyN_l, tyIs_t, zipI_tt,
 startD, List.map_cons, List.map_nil, List.length_cons, List.length_nil, List.cons_append, List.nil_append, List.getElem?_cons_zero, List.getElem?_cons_succ, List.set_cons_zero, List.set_cons_succ, List.replicate_succ, List.replicate_zero, Option.bind_some, if_true, if_false, Bool.true_and, Bool.false_and, Bool.and_true, Bool.not_true, Bool.not_false, decide_true, decide_false, eq_self, Nat.zero_add, Nat.reduceAdd, Nat.reduceSub, reduceIte, reduceCtorEq, Int.reduceEq, Bool.false_eq_true, true_and, and_true, true_or, or_true, decide_eq_true_eq, e3]
  have st5 : (setS 5 (callF 1 F__law_times (consF (varE 1) nilF))) [some (.rol (ns.map D.int)), some (.cell 0), some (.str (numS a)), some (.str (numS c)), some (.int (m : Nat)), none, none, none] [.lst b3] = .nx [some (.rol (ns.map D.int)), some (.cell 0), some (.str (numS a)), some (.str (numS c)), some (.int (m : Nat)), some (.int (n : Nat)), none, none] [.lst b4] := by
    simp only [Bd, seqS, setS, retS, retN, dropS, ifS, forS, putS, augS, nxS, bkS, ctS, SR.seq_nx, SR.seq_rt, SR.seq_exc, SR.seq_bk, SR.seq_ct, SR.turn_nx, SR.turn_ct, SR.turn_bk, SR.turn_rt, SR.turn_exc, R.bind_ok, R.bind_bad, R.bind_exc, R.bindN_ok, R.st_ok, R.st_exc,
 varE, cE, binF, tstF, chnF, andB, orB, notB, andV, orV, notV, ifE, nilF, consF, tupF, lstF, ownF, negF, noO, someO, slF, callF, appF, isiF, mthF, itF, itA, nmG, nilG, consG, tupG, yesB, wipeD,
 addD_ii, addD_ss, addD_ll, subD_ii, mulD_ii, mulD_li, mulD_si, fdivD_ii, modD_ii, powD_10_18, ltD_ii, leD_ii, gtD_ii, geD_ii, gtD_ss, ltD_ss, eqD_ii, eqD_ss, eqD_bb, neD_ii, neD_ss, isBD_bb, isND_non, isND_int, isND_str, notND_non, notND_int, notND_str, lenD_s, lenD_l, lenD_r, lenD_t, lenD_c, min2D_ii, max2D_ii, intD_i, intD_b, strD_i, sumD_l, sumD_c, sumD_t, maxD_c, tupleD_l, tupleD_t, tupleD_c, listD_l, listD_t,
 ixD_l, ixD_r, ixD_t, ixD_s, ixD_c, slD_s, slD_l, slD_r, putIx_c, appendD_c, extendD_cl, isTy_c, isTy_s, isTy_l, iaddD, atI_0, atI_1, atI_2, atI_3, atI_4, low_int, low_str, low_bl, low_non, anyI_l, anyI_r, anyI_t, anyI_s, rng1I_i, rng2I_ii, ixN5, set_concat, get_concat, take_concat, len_concat, notInD_cs, inD_cs, sindexD_s, intD_s, tyN_s, tyN_i, tyN_b, tyN_n, tyN_t, tyN_l, tyIs_t, zipI_tt,
 startD, List.map_cons, List.map_nil, List.length_cons, List.length_nil, List.cons_append, List.nil_append, List.getElem?_cons_zero, List.getElem?_cons_succ, List.set_cons_zero, List.set_cons_succ, List.replicate_succ, List.replicate_zero, Option.bind_some, if_true, if_false, Bool.true_and, Bool.false_and, Bool.and_true, Bool.not_true, Bool.not_false, decide_true, decide_false, eq_self, Nat.zero_add, Nat.reduceAdd, Nat.reduceSub, reduceIte, reduceCtorEq, Int.reduceEq, Bool.false_eq_true, true_and, and_true, true_or, or_true, decide_eq_true_eq, e4]
  have st6 : (setS 6 (callF 1 F__law_times (consF (varE 1) nilF))) [some (.rol (ns.map D.int)), some (.cell 0), some (.str (numS a)), some (.str (numS c)), some (.int (m : Nat)), some (.int (n : Nat)), none, none] [.lst b4] = .nx [some (.rol (ns.map D.int)), some (.cell 0), some (.str (numS a)), some (.str (numS c)), some (.int (m : Nat)), some (.int (n : Nat)), some (.int (q : Nat)), none] [.lst b5] := by
    simp only [Bd, seqS, setS, retS, retN, dropS, ifS, forS, putS, augS, nxS, bkS, ctS, SR.seq_nx, SR.seq_rt, SR.seq_exc, SR.seq_bk, SR.seq_ct, SR.turn_nx, SR.turn_ct, SR.turn_bk, SR.turn_rt, SR.turn_exc, R.bind_ok, R.bind_bad, R.bind_exc, R.bindN_ok, R.st_ok, R.st_exc,
 varE, cE, binF, tstF, chnF, andB, orB, notB, andV, orV, notV, ifE, nilF, consF, tupF, lstF, ownF, negF, noO, someO, slF, callF, appF, isiF, mthF, itF, itA, nmG, nilG, consG, tupG, yesB, wipeD,
 addD_ii, addD_ss, addD_ll, subD_ii, mulD_ii, mulD_li, mulD_si, fdivD_ii, modD_ii, powD_10_18, ltD_ii, leD_ii, gtD_ii, geD_ii, gtD_ss, ltD_ss, eqD_ii, eqD_ss, eqD_bb, neD_ii, neD_ss, isBD_bb, isND_non, isND_int, isND_str, notND_non, notND_int, notND_str, lenD_s, lenD_l, lenD_r, lenD_t, lenD_c, min2D_ii, max2D_ii, intD_i, intD_b, strD_i, sumD_l, sumD_c, sumD_t, maxD_c, tupleD_l, tupleD_t, tupleD_c, listD_l, listD_t,
 ixD_l, ixD_r, ixD_t, ixD_s, ixD_c, slD_s, slD_l, slD_r, putIx_c, appendD_c, extendD_cl, isTy_c, isTy_s, isTy_l, iaddD, atI_0, atI_1, atI_2, atI_3, atI_4, low_int, low_str, low_bl, low_non, anyI_l, anyI_r, anyI_t, anyI_s, rng1I_i, rng2I_ii, ixN5, set_concat, get_concat, take_concat, len_concat, notInD_cs, inD_cs, sindexD_s, intD_s, tyN_s, tyN_i, tyN_b, tyN_n, tyN_t, tyN_l, tyIs_t, zipI_tt,
 startD, List.map_cons, List.map_nil, List.length_cons, List.length_nil, List.cons_append, List.nil_append, List.getElem?_cons_zero, List.getElem?_cons_succ, List.set_cons_zero, List.set_cons_succ, List.replicate_succ, List.replicate_zero, Option.bind_some, if_true, if_false, Bool.true_and, Bool.false_and, Bool.and_true, Bool.not_true, Bool.not_false, decide_true, decide_false, eq_self, Nat.zero_add, Nat.reduceAdd, Nat.reduceSub, reduceIte, reduceCtorEq, Int.reduceEq, Bool.false_eq_true, true_and, and_true, true_or, or_true, decide_eq_true_eq, e5]
  have st7 : (setS 7 (binF ixD (lstF (consF (cE (.str "")) (consF (cE (.str "0")) (consF (cE (.str "55555")) (consF (cE (.str "9996")) (consF (cE .non) (consF (cE (.int 24)) (consF (cE (.str "2 4")) (consF (lstF (consF (varE 2) nilF)) (consF (cE (.bl true)) nilF)))))))))) (callF 2 F__law_draw (consF (varE 1) (consF (cE (.int 9)) nilF))))) [some (.rol (ns.map D.int)), some (.cell 0), some (.str (numS a)), some (.str (numS c)), some (.int (m : Nat)), some (.int (n : Nat)), some (.int (q : Nat)), none] [.lst b5] = .nx [some (.rol (ns.map D.int)), some (.cell 0), some (.str (numS a)), some (.str (numS c)), some (.int (m : Nat)), some (.int (n : Nat)), some (.int (q : Nat)), some d] [.lst b6] := by
    simp only [Bd, seqS, setS, retS, retN, dropS, ifS, forS, putS, augS, nxS, bkS, ctS, SR.seq_nx, SR.seq_rt, SR.seq_exc, SR.seq_bk, SR.seq_ct, SR.turn_nx, SR.turn_ct, SR.turn_bk, SR.turn_rt, SR.turn_exc, R.bind_ok, R.bind_bad, R.bind_exc, R.bindN_ok, R.st_ok, R.st_exc,
 varE, cE, binF, tstF, chnF, andB, orB, notB, andV, orV, notV, ifE, nilF, consF, tupF, lstF, ownF, negF, noO, someO, slF, callF, appF, isiF, mthF, itF, itA, nmG, nilG, consG, tupG, yesB, wipeD,
 addD_ii, addD_ss, addD_ll, subD_ii, mulD_ii, mulD_li, mulD_si, fdivD_ii, modD_ii, powD_10_18, ltD_ii, leD_ii, gtD_ii, geD_ii, gtD_ss, ltD_ss, eqD_ii, eqD_ss, eqD_bb, neD_ii, neD_ss, isBD_bb, isND_non, isND_int, isND_str, notND_non, notND_int, notND_str, lenD_s, lenD_l, lenD_r, lenD_t, lenD_c, min2D_ii, max2D_ii, intD_i, intD_b, strD_i, sumD_l, sumD_c, sumD_t, maxD_c, tupleD_l, tupleD_t, tupleD_c, listD_l, listD_t,
 ixD_l, ixD_r, ixD_t, ixD_s, ixD_c, slD_s, slD_l, slD_r, putIx_c, appendD_c, extendD_cl, isTy_c, isTy_s, isTy_l, iaddD, atI_0, atI_1, atI_2, atI_3, atI_4, low_int, low_str, low_bl, low_non, anyI_l, anyI_r, anyI_t, anyI_s, rng1I_i, rng2I_ii, ixN5, set_concat, get_concat, take_concat, len_concat, notInD_cs, inD_cs, sindexD_s, intD_s, tyN_s, tyN_i, tyN_b, tyN_n, tyN_t, tyN_l, tyIs_t, zipI_tt,
 startD, List.map_cons, List.map_nil, List.length_cons, List.length_nil, List.cons_append, List.nil_append, List.getElem?_cons_zero, List.getElem?_cons_succ, List.set_cons_zero, List.set_cons_succ, List.replicate_succ, List.replicate_zero, Option.bind_some, if_true, if_false, Bool.true_and, Bool.false_and, Bool.and_true, Bool.not_true, Bool.not_false, decide_true, decide_false, eq_self, Nat.zero_add, Nat.reduceAdd, Nat.reduceSub, reduceIte, reduceCtorEq, Int.reduceEq, Bool.false_eq_true, true_and, and_true, true_or, or_true, decide_eq_true_eq, sz, e6, ed]
  have st8 : (ifS (tstF (binF neD (callF 2 F__law_refused (consF (varE 7) (consF (varE 6) nilF))) (lstF (consF (appF reprD (consF (varE 7) nilF)) (consF (appF reprD (consF (varE 7) nilF)) (consF (appF reprD (consF (varE 7) nilF)) nilF)))))) (retS (cE (.bl false))) nxS) [some (.rol (ns.map D.int)), some (.cell 0), some (.str (numS a)), some (.str (numS c)), some (.int (m : Nat)), some (.int (n : Nat)), some (.int (q : Nat)), some d] [.lst b6] = .nx [some (.rol (ns.map D.int)), some (.cell 0), some (.str (numS a)), some (.str (numS c)), some (.int (m : Nat)), some (.int (n : Nat)), some (.int (q : Nat)), some d] [.lst b6] := by
    simp only [Bd, seqS, setS, retS, retN, dropS, ifS, forS, putS, augS, nxS, bkS, ctS, SR.seq_nx, SR.seq_rt, SR.seq_exc, SR.seq_bk, SR.seq_ct, SR.turn_nx, SR.turn_ct, SR.turn_bk, SR.turn_rt, SR.turn_exc, R.bind_ok, R.bind_bad, R.bind_exc, R.bindN_ok, R.st_ok, R.st_exc,
 varE, cE, binF, tstF, chnF, andB, orB, notB, andV, orV, notV, ifE, nilF, consF, tupF, lstF, ownF, negF, noO, someO, slF, callF, appF, isiF, mthF, itF, itA, nmG, nilG, consG, tupG, yesB, wipeD,
 addD_ii, addD_ss, addD_ll, subD_ii, mulD_ii, mulD_li, mulD_si, fdivD_ii, modD_ii, powD_10_18, ltD_ii, leD_ii, gtD_ii, geD_ii, gtD_ss, ltD_ss, eqD_ii, eqD_ss, eqD_bb, neD_ii, neD_ss, isBD_bb, isND_non, isND_int, isND_str, notND_non, notND_int, notND_str, lenD_s, lenD_l, lenD_r, lenD_t, lenD_c, min2D_ii, max2D_ii, intD_i, intD_b, strD_i, sumD_l, sumD_c, sumD_t, maxD_c, tupleD_l, tupleD_t, tupleD_c, listD_l, listD_t,
 ixD_l, ixD_r, ixD_t, ixD_s, ixD_c, slD_s, slD_l, slD_r, putIx_c, appendD_c, extendD_cl, isTy_c, isTy_s, isTy_l, iaddD, atI_0, atI_1, atI_2, atI_3, atI_4, low_int, low_str, low_bl, low_non, anyI_l, anyI_r, anyI_t, anyI_s, rng1I_i, rng2I_ii, ixN5, set_concat, get_concat, take_concat, len_concat, notInD_cs, inD_cs, sindexD_s, intD_s, tyN_s, tyN_i, tyN_b, tyN_n, tyN_t, tyN_l, tyIs_t, zipI_tt,
 startD, List.map_cons, List.map_nil, List.length_cons, List.length_nil, List.cons_append, List.nil_append, List.getElem?_cons_zero, List.getElem?_cons_succ, List.set_cons_zero, List.set_cons_succ, List.replicate_succ, List.replicate_zero, Option.bind_some, if_true, if_false, Bool.true_and, Bool.false_and, Bool.and_true, Bool.not_true, Bool.not_false, decide_true, decide_false, eq_self, Nat.zero_add, Nat.reduceAdd, Nat.reduceSub, reduceIte, reduceCtorEq, Int.reduceEq, Bool.false_eq_true, true_and, and_true, true_or, or_true, decide_eq_true_eq, sz, rf, hz.rep, nn]
  refine ⟨[], ?_⟩
  show leave 0 (seqS _ _ [some (.rol (ns.map D.int)), none, none, none, none, none, none, none] []) = _
  rw [seq_go st1, seq_go st2, seq_go st3, seq_go st4, seq_go st5, seq_go st6, seq_go st7, seq_go st8]
  simp only [Bd, seqS, setS, retS, retN, dropS, ifS, forS, putS, augS, nxS, bkS, ctS, SR.seq_nx, SR.seq_rt, SR.seq_exc, SR.seq_bk, SR.seq_ct, SR.turn_nx, SR.turn_ct, SR.turn_bk, SR.turn_rt, SR.turn_exc, R.bind_ok, R.bind_bad, R.bind_exc, R.bindN_ok, R.st_ok, R.st_exc,
 varE, cE, binF, tstF, chnF, andB, orB, notB, andV, orV, notV, ifE, nilF, consF, tupF, lstF, ownF, negF, noO, someO, slF, callF, appF, isiF, mthF, itF, itA, nmG, nilG, consG, tupG, yesB, wipeD,
 addD_ii, addD_ss, addD_ll, subD_ii, mulD_ii, mulD_li, mulD_si, fdivD_ii, modD_ii, powD_10_18, ltD_ii, leD_ii, gtD_ii, geD_ii, gtD_ss, ltD_ss, eqD_ii, eqD_ss, eqD_bb, neD_ii, neD_ss, isBD_bb, isND_non, isND_int, isND_str, notND_non, notND_int, notND_str, lenD_s, lenD_l, lenD_r, lenD_t, lenD_c, min2D_ii, max2D_ii, intD_i, intD_b, strD_i, sumD_l, sumD_c, sumD_t, maxD_c, tupleD_l, tupleD_t, tupleD_c, listD_l, listD_t,
 ixD_l, ixD_r, ixD_t, ixD_s, ixD_c, slD_s, slD_l, slD_r, putIx_c, appendD_c, extendD_cl, isTy_c, isTy_s, isTy_l, iaddD, atI_0, atI_1, atI_2, atI_3, atI_4, low_int, low_str, low_bl, low_non, anyI_l, anyI_r, anyI_t, anyI_s, rng1I_i, rng2I_ii, ixN5, set_concat, get_concat, take_concat, len_concat, notInD_cs, inD_cs, sindexD_s, intD_s, tyN_s, tyN_i, tyN_b, tyN_n, tyN_t, tyN_l, tyIs_t, zipI_tt,
 startD, List.map_cons, List.map_nil, List.length_cons, List.length_nil, List.cons_append, List.nil_append, List.getElem?_cons_zero, List.getElem?_cons_succ, List.set_cons_zero, List.set_cons_succ, List.replicate_succ, List.replicate_zero, Option.bind_some, if_true, if_false, Bool.true_and, Bool.false_and, Bool.and_true, Bool.not_true, Bool.not_false, decide_true, decide_false, eq_self, Nat.zero_add, Nat.reduceAdd, Nat.reduceSub, reduceIte, reduceCtorEq, Int.reduceEq, Bool.false_eq_true, true_and, and_true, true_or, or_true, decide_eq_true_eq, asked_ok ha hm hn, asked_ok hc hq hm, leave_rt, fz_bl, List.take_zero]

end Pr
open PySem PySem.W PyProof.Rows in
set_option maxRecDepth 100000 in
set_option maxHeartbeats 0 in
theorem PySem.Challenge.cw_wheelchorus_k05_patterns_tick_by_tick_holds : PySem.Challenge.rw_wheelchorus_k05_patterns_tick_by_tick.Holds := by
  w_on; o_law; k_head; (case hw => w_witness2)
  k_fill
  refine Pr.walk (l := PySem.Challenge.rw_wheelchorus_k05_patterns_tick_by_tick) rfl rfl (fun w h Y => PySem.W.kIn_of Y) ?F
  case F =>
    intro w mg fa h KX G hmg
    refine' Pr.all_mk Pr.law_true KX G hmg ?qc_Strokes ?pg_Strokes ?hd_Strokes ?po_Strokes ?sa_Strokes ?mk_Strokes ?kp_Strokes ?nf_Strokes_known ?nf_Strokes_offsets ?a_is_whole ?a_check_offset ?a_is_number ?a_check_number ?a_blocks ?a_row_of ?a_row_offsets ?a_length_of ?a_pattern ?a_strokes_of ?a__law_row ?a__law_asked ?a__law_refused ?a__law_draw ?a__law_times ?a__law_number ?a__law_bag ?a_law ?mt_Strokes_Strokes___and__ ?mt_Strokes_Strokes___eq__ ?mt_Strokes_Strokes___init__ ?mt_Strokes_Strokes___iter__ ?mt_Strokes_Strokes___len__ ?mt_Strokes_Strokes___or__ ?mt_Strokes_Strokes___rshift__ ?l_is_whole ?c_is_whole ?k_is_whole ?l_check_offset ?c_check_offset ?k_check_offset ?l_Strokes___init__ ?c_Strokes___init__ ?k_Strokes___init__ ?isf_Strokes___init__ ?lT_Strokes___init__ ?lEd_Strokes___init___0 ?l_Strokes___and__ ?c_Strokes___and__ ?k_Strokes___and__ ?isf_Strokes___and__ ?l_Strokes___len__ ?c_Strokes___len__ ?k_Strokes___len__ ?isf_Strokes___len__ ?l_Strokes___or__ ?c_Strokes___or__ ?k_Strokes___or__ ?isf_Strokes___or__ ?l_is_number ?c_is_number ?k_is_number ?l_check_number ?c_check_number ?k_check_number ?l_blocks ?c_blocks ?k_blocks ?l_row_of ?c_row_of ?k_row_of ?l_row_offsets ?c_row_offsets ?k_row_offsets ?l_length_of ?c_length_of ?k_length_of ?l_pattern ?c_pattern ?k_pattern ?lT_pattern ?l_Strokes___eq__ ?c_Strokes___eq__ ?k_Strokes___eq__ ?isf_Strokes___eq__ ?l_Strokes___rshift__ ?c_Strokes___rshift__ ?k_Strokes___rshift__ ?isf_Strokes___rshift__ ?l_strokes_of ?c_strokes_of ?k_strokes_of ?l__law_row ?c__law_row ?k__law_row ?l__law_asked ?c__law_asked ?k__law_asked ?l__law_refused ?c__law_refused ?k__law_refused ?l__law_draw ?c__law_draw ?k__law_draw ?l__law_times ?c__law_times ?k__law_times ?l__law_number ?c__law_number ?k__law_number ?l__law_bag ?c__law_bag ?k__law_bag ?l_law ?c_law ?k_law ?l_Strokes___iter__ ?c_Strokes___iter__ ?k_Strokes___iter__ ?isf_Strokes___iter__ ?z_bool ?z_enumerate ?z_int ?z_isinstance ?z_iter ?z_len ?z_list ?z_min ?z_range ?z_repr ?z_set ?z_sorted ?z_str ?z_sum ?z_tuple ?y_DIGITS ?y_MOST_DIGITS ?y_MOST_STROKES ?bo_and_NoneType ?br_and_NoneType ?bo_and_bool ?br_and_bool ?bo_and_int ?br_and_int ?bo_and_str ?br_and_str ?bo_and_tuple ?br_and_tuple ?bo_and_list ?br_and_list ?bo_and_dict ?br_and_dict ?rr_and_Strokes ?bo_or_NoneType ?br_or_NoneType ?bo_or_bool ?br_or_bool ?bo_or_int ?br_or_int ?bo_or_str ?br_or_str ?bo_or_tuple ?br_or_tuple ?bo_or_list ?br_or_list ?bo_or_dict ?br_or_dict ?rr_or_Strokes ?bo_rshift_NoneType ?br_rshift_NoneType ?bo_rshift_bool ?br_rshift_bool ?bo_rshift_int ?br_rshift_int ?bo_rshift_str ?br_rshift_str ?bo_rshift_tuple ?br_rshift_tuple ?bo_rshift_list ?br_rshift_list ?bo_rshift_dict ?br_rshift_dict ?rr_rshift_Strokes ?sf_Strokes ?su_NoneType_Strokes ?su_bool_Strokes ?su_int_Strokes ?su_str_Strokes ?su_tuple_Strokes ?su_list_Strokes ?su_dict_Strokes ?ne_Strokes ?ob_Strokes ?ca_Strokes ?mo_Strokes ?ki_Strokes_Strokes ?tc_Strokes ?kt_NoneType_Strokes ?kt_bool_Strokes ?kt_int_Strokes ?kt_str_Strokes ?kt_tuple_Strokes ?kt_list_Strokes ?kt_dict_Strokes ?qc_WheelError ?lc_WheelError ?vc_WheelError ?sa_WheelError ?sx_WheelError ?ty_WheelError ?kx_WheelError ?ga_WheelError ?gg_WheelError ?hd_WheelError ?ca_WheelError ?mo_WheelError ?rb_WheelError ?gb_WheelError ?vb_WheelError ?qc_BadNumber ?lc_BadNumber ?vc_BadNumber ?sa_BadNumber ?sx_BadNumber ?ty_BadNumber ?kx_BadNumber ?ga_BadNumber ?gg_BadNumber ?hd_BadNumber ?ca_BadNumber ?mo_BadNumber ?fi_BadNumber ?ti_BadNumber ?li_BadNumber ?ci_BadNumber ?ki_BadNumber ?ff_BadNumber_number ?qc_BadOffset ?lc_BadOffset ?vc_BadOffset ?sa_BadOffset ?sx_BadOffset ?ty_BadOffset ?kx_BadOffset ?ga_BadOffset ?gg_BadOffset ?hd_BadOffset ?ca_BadOffset ?mo_BadOffset ?fi_BadOffset ?ti_BadOffset ?li_BadOffset ?ci_BadOffset ?ki_BadOffset ?ff_BadOffset_offset ?su_BadOffset_BadNumber ?su_BadNumber_BadNumber ?on_ ?ot_
    (case qc_Strokes => k_is)
    (case pg_Strokes => k_is)
    (case hd_Strokes => k_is)
    (case po_Strokes => k_is)
    (case sa_Strokes => k_is)
    (case mk_Strokes => k_is)
    (case kp_Strokes => k_is)
    (case nf_Strokes_known => k_is)
    (case nf_Strokes_offsets => k_is)
    (case a_is_whole => k_is)
    (case a_check_offset => k_is)
    (case a_is_number => k_is)
    (case a_check_number => k_is)
    (case a_blocks => k_is)
    (case a_row_of => k_is)
    (case a_row_offsets => k_is)
    (case a_length_of => k_is)
    (case a_pattern => k_is)
    (case a_strokes_of => k_is)
    (case a__law_row => k_is)
    (case a__law_asked => k_is)
    (case a__law_refused => k_is)
    (case a__law_draw => k_is)
    (case a__law_times => k_is)
    (case a__law_number => k_is)
    (case a__law_bag => k_is)
    (case a_law => k_is)
    (case mt_Strokes_Strokes___and__ => k_is)
    (case mt_Strokes_Strokes___eq__ => k_is)
    (case mt_Strokes_Strokes___init__ => k_is)
    (case mt_Strokes_Strokes___iter__ => k_is)
    (case mt_Strokes_Strokes___len__ => k_is)
    (case mt_Strokes_Strokes___or__ => k_is)
    (case mt_Strokes_Strokes___rshift__ => k_is)
    (case l_is_whole => k_is)
    (case c_is_whole => k_is)
    (case k_is_whole => k_is)
    (case l_check_offset => k_is)
    (case c_check_offset => k_is)
    (case k_check_offset => k_is)
    (case l_Strokes___init__ => k_is)
    (case c_Strokes___init__ => k_is)
    (case k_Strokes___init__ => k_is)
    (case isf_Strokes___init__ => k_is)
    (case lT_Strokes___init__ => k_is)
    (case lEd_Strokes___init___0 => k_is)
    (case l_Strokes___and__ => k_is)
    (case c_Strokes___and__ => k_is)
    (case k_Strokes___and__ => k_is)
    (case isf_Strokes___and__ => k_is)
    (case l_Strokes___len__ => k_is)
    (case c_Strokes___len__ => k_is)
    (case k_Strokes___len__ => k_is)
    (case isf_Strokes___len__ => k_is)
    (case l_Strokes___or__ => k_is)
    (case c_Strokes___or__ => k_is)
    (case k_Strokes___or__ => k_is)
    (case isf_Strokes___or__ => k_is)
    (case l_is_number => k_is)
    (case c_is_number => k_is)
    (case k_is_number => k_is)
    (case l_check_number => k_is)
    (case c_check_number => k_is)
    (case k_check_number => k_is)
    (case l_blocks => k_is)
    (case c_blocks => k_is)
    (case k_blocks => k_is)
    (case l_row_of => k_is)
    (case c_row_of => k_is)
    (case k_row_of => k_is)
    (case l_row_offsets => k_is)
    (case c_row_offsets => k_is)
    (case k_row_offsets => k_is)
    (case l_length_of => k_is)
    (case c_length_of => k_is)
    (case k_length_of => k_is)
    (case l_pattern => k_is)
    (case c_pattern => k_is)
    (case k_pattern => k_is)
    (case lT_pattern => k_is)
    (case l_Strokes___eq__ => k_is)
    (case c_Strokes___eq__ => k_is)
    (case k_Strokes___eq__ => k_is)
    (case isf_Strokes___eq__ => k_is)
    (case l_Strokes___rshift__ => k_is)
    (case c_Strokes___rshift__ => k_is)
    (case k_Strokes___rshift__ => k_is)
    (case isf_Strokes___rshift__ => k_is)
    (case l_strokes_of => k_is)
    (case c_strokes_of => k_is)
    (case k_strokes_of => k_is)
    (case l__law_row => k_is)
    (case c__law_row => k_is)
    (case k__law_row => k_is)
    (case l__law_asked => k_is)
    (case c__law_asked => k_is)
    (case k__law_asked => k_is)
    (case l__law_refused => k_is)
    (case c__law_refused => k_is)
    (case k__law_refused => k_is)
    (case l__law_draw => k_is)
    (case c__law_draw => k_is)
    (case k__law_draw => k_is)
    (case l__law_times => k_is)
    (case c__law_times => k_is)
    (case k__law_times => k_is)
    (case l__law_number => k_is)
    (case c__law_number => k_is)
    (case k__law_number => k_is)
    (case l__law_bag => k_is)
    (case c__law_bag => k_is)
    (case k__law_bag => k_is)
    (case l_law => k_is)
    (case c_law => k_is)
    (case k_law => k_is)
    (case l_Strokes___iter__ => k_is)
    (case c_Strokes___iter__ => k_is)
    (case k_Strokes___iter__ => k_is)
    (case isf_Strokes___iter__ => k_is)
    (case z_bool => k_is)
    (case z_enumerate => k_is)
    (case z_int => k_is)
    (case z_isinstance => k_is)
    (case z_iter => k_is)
    (case z_len => k_is)
    (case z_list => k_is)
    (case z_min => k_is)
    (case z_range => k_is)
    (case z_repr => k_is)
    (case z_set => k_is)
    (case z_sorted => k_is)
    (case z_str => k_is)
    (case z_sum => k_is)
    (case z_tuple => k_is)
    (case y_DIGITS => k_is)
    (case y_MOST_DIGITS => k_is)
    (case y_MOST_STROKES => k_is)
    (case bo_and_NoneType => k_is)
    (case br_and_NoneType => k_is)
    (case bo_and_bool => k_is)
    (case br_and_bool => k_is)
    (case bo_and_int => k_is)
    (case br_and_int => k_is)
    (case bo_and_str => k_is)
    (case br_and_str => k_is)
    (case bo_and_tuple => k_is)
    (case br_and_tuple => k_is)
    (case bo_and_list => k_is)
    (case br_and_list => k_is)
    (case bo_and_dict => k_is)
    (case br_and_dict => k_is)
    (case rr_and_Strokes => k_is)
    (case bo_or_NoneType => k_is)
    (case br_or_NoneType => k_is)
    (case bo_or_bool => k_is)
    (case br_or_bool => k_is)
    (case bo_or_int => k_is)
    (case br_or_int => k_is)
    (case bo_or_str => k_is)
    (case br_or_str => k_is)
    (case bo_or_tuple => k_is)
    (case br_or_tuple => k_is)
    (case bo_or_list => k_is)
    (case br_or_list => k_is)
    (case bo_or_dict => k_is)
    (case br_or_dict => k_is)
    (case rr_or_Strokes => k_is)
    (case bo_rshift_NoneType => k_is)
    (case br_rshift_NoneType => k_is)
    (case bo_rshift_bool => k_is)
    (case br_rshift_bool => k_is)
    (case bo_rshift_int => k_is)
    (case br_rshift_int => k_is)
    (case bo_rshift_str => k_is)
    (case br_rshift_str => k_is)
    (case bo_rshift_tuple => k_is)
    (case br_rshift_tuple => k_is)
    (case bo_rshift_list => k_is)
    (case br_rshift_list => k_is)
    (case bo_rshift_dict => k_is)
    (case br_rshift_dict => k_is)
    (case rr_rshift_Strokes => k_is)
    (case sf_Strokes => k_is)
    (case su_NoneType_Strokes => k_is)
    (case su_bool_Strokes => k_is)
    (case su_int_Strokes => k_is)
    (case su_str_Strokes => k_is)
    (case su_tuple_Strokes => k_is)
    (case su_list_Strokes => k_is)
    (case su_dict_Strokes => k_is)
    (case ne_Strokes => k_is)
    (case ob_Strokes => k_is)
    (case ca_Strokes => k_is)
    (case mo_Strokes => k_is)
    (case ki_Strokes_Strokes => k_is)
    (case tc_Strokes => k_is)
    (case kt_NoneType_Strokes => k_is)
    (case kt_bool_Strokes => k_is)
    (case kt_int_Strokes => k_is)
    (case kt_str_Strokes => k_is)
    (case kt_tuple_Strokes => k_is)
    (case kt_list_Strokes => k_is)
    (case kt_dict_Strokes => k_is)
    (case qc_WheelError => k_is)
    (case lc_WheelError => k_is)
    (case vc_WheelError => rfl)
    (case sa_WheelError => k_is)
    (case sx_WheelError => k_is)
    (case ty_WheelError => k_is)
    (case kx_WheelError => k_is)
    (case ga_WheelError => k_is)
    (case gg_WheelError => k_is)
    (case hd_WheelError => k_is)
    (case ca_WheelError => k_is)
    (case mo_WheelError => k_is)
    (case rb_WheelError => k_is)
    (case gb_WheelError => k_is)
    (case vb_WheelError => k_is)
    (case qc_BadNumber => k_is)
    (case lc_BadNumber => k_is)
    (case vc_BadNumber => rfl)
    (case sa_BadNumber => k_is)
    (case sx_BadNumber => k_is)
    (case ty_BadNumber => k_is)
    (case kx_BadNumber => k_is)
    (case ga_BadNumber => k_is)
    (case gg_BadNumber => k_is)
    (case hd_BadNumber => k_is)
    (case ca_BadNumber => k_is)
    (case mo_BadNumber => k_is)
    (case fi_BadNumber => k_is)
    (case ti_BadNumber => k_is)
    (case li_BadNumber => k_is)
    (case ci_BadNumber => k_is)
    (case ki_BadNumber => k_is)
    (case ff_BadNumber_number => k_is)
    (case qc_BadOffset => k_is)
    (case lc_BadOffset => k_is)
    (case vc_BadOffset => rfl)
    (case sa_BadOffset => k_is)
    (case sx_BadOffset => k_is)
    (case ty_BadOffset => k_is)
    (case kx_BadOffset => k_is)
    (case ga_BadOffset => k_is)
    (case gg_BadOffset => k_is)
    (case hd_BadOffset => k_is)
    (case ca_BadOffset => k_is)
    (case mo_BadOffset => k_is)
    (case fi_BadOffset => k_is)
    (case ti_BadOffset => k_is)
    (case li_BadOffset => k_is)
    (case ci_BadOffset => k_is)
    (case ki_BadOffset => k_is)
    (case ff_BadOffset_offset => k_is)
    (case su_BadOffset_BadNumber => k_is)
    (case su_BadNumber_BadNumber => k_is)
    (case on_ => k_is)
    (case ot_ => k_is)

#print axioms PySem.Challenge.cw_wheelchorus_k05_patterns_tick_by_tick_holds
